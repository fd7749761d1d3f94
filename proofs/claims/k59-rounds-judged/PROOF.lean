import PyProof.Rows.All
import Wide.All
import OpenK.AllK
import Wide.FinOn
import HandS.ForMost
import HandS.ForExc
import HandS.TryMany
import HandS.Wide
import HandS.CallLocal
import HandS.CallSlots
import KE.KExcSuper
import PyProof.ReprRoads
import HandS.TupAny
import HandS.TupMul
import HandS.IsInst
import HandS.Style
import HandS.Conv
import HandS.Walk
import HandS.Zip
import HandS.Dict
import HandS.HeadWalk
import HandS.ExcField
import PyProof.Draws
import PyProof.EnumMake
import HandS.Zip0
import KE.GoesMore
import HandS.Star
import HandS.Lambda
import KE.KDflt
import HandS.EndTab
import PyProof.Rows.IntBool
import PyProof.NeKinds
import KE.KTupSum
import PySem.Challenge.RW_gridbodies_k59_rounds_judged
import PyProof.ReprLen
section
set_option Elab.async false
set_option linter.all false
set_option maxRecDepth 100000
set_option maxHeartbeats 2000000
/-! F0: promises of defs where no repr is under way (guards) -/
namespace EvL
open PySem PySem.Spec PyProof.Rows L2

/-- the def at f keeps the promise sp wherever there is room for k calls and no repr is under way -/
structure FnG (P : Program) (w : World) (K : PySem.W.Frag) (mg : Str → Option Value) (gb : Heap) (k : Nat) (f : Addr) (fd : FuncData) (ps : List Str) (sp : Sp) : Prop where
  cnt : ∀ vs H Q E, sp vs H Q E → vs.length = ps.length
  go : ∀ (A : Around) (up : List Env) (s : Shared) (H : Hp) (ar : Args) (us : List Value) (vs : List V) (Q : VK) (E : XK),
    Room k A → A.guards = some [] → Env0 P w K mg gb A up s H → BindsTo s fd ar (ps.zip us) → Vals vs us → sp vs H Q E →
    codeAny (model P w) A (.call (.ref f) ar) (CR (L2.CX P w) up P w H s Q E) s

section
variable {P : Program} {w : World} {K : PySem.W.Frag} {mg : Str → Option Value} {gb : Heap}
theorem FnG.up {j k : Nat} {f : Addr} {fd : FuncData} {ps : List Str} {sp : Sp} (F : FnG P w K mg gb j f fd ps sp) (h : j ≤ k) : FnG P w K mg gb k f fd ps sp :=
  ⟨F.cnt, fun A up s H ar us vs Q E hr => F.go A up s H ar us vs Q E (hr.mono h)⟩
theorem FnG.less {k : Nat} {f : Addr} {fd : FuncData} {ps : List Str} {sp sq : Sp} (F : FnG P w K mg gb k f fd ps sp) (h : ∀ vs H Q E, sq vs H Q E → sp vs H Q E) : FnG P w K mg gb k f fd ps sq :=
  ⟨fun vs H Q E q => F.cnt vs H Q E (h _ _ _ _ q), fun A up s H ar us vs Q E hr hg he hb hv hs => F.go A up s H ar us vs Q E hr hg he hb hv (h _ _ _ _ hs)⟩

/-- by the body, which knows where its code stands -/
theorem fnG_ofC {x qual : Str} {st : Stmt} {f : Addr} {fd : FuncData} {N ps : List Str} {k : Nat} {sp : Sp} (F : Fun K x qual st f fd) (S : FnScope N ps (defScope st)) (cnt : ∀ vs H Q E, sp vs H Q E → vs.length = ps.length)
    (body : ∀ (cdv : Value), cdv = fd.code → ∀ (A : Around) (up : List Env) (s : Shared) (H : Hp) (vs : List V) (Q : VK) (E : XK), Room k (A.deeper (envOfC qual (defScope st) s.heap.objs.size f cdv)) → A.guards = some [] → sp vs H Q E →
      ∃ t, PSs (cxOf (L2.CX P w) P w K mg gb N qual (defScope st) f cdv A up s H E) (defBody st) t ∧ t { nx := fun _ H1 => Q .non H1, rt := Q } (start N vs) H) : FnG P w K mg gb (k + 1) f fd ps sp := by
  obtain ⟨oc, od, kV, doc, pm, an, cdv, ct, osl, rfl, lk, hcd⟩ := F.ex
  refine ⟨cnt, fun A up s H ar us vs Q E hr hg e0 hb rv hsp => ?_⟩
  have ln := cnt _ _ _ _ hsp
  have KS : K.In s.heap := e0.mod.kin.keeps fun b o e => (e0.bs b o e).1
  have nl : s.heap.NoLimit := e0.mod.nolimit.keeps fun b o e => (e0.bs b o e).1
  have kinds : ∀ y ∈ ps.zip us, (defScope st).names.lookup y.1 = some .local ∨ ((defScope st).names.lookup y.1 = some .cell ∧ ((cellsFrom (s.heap.objs.size + 1) (defScope st).names []).lookup y.1).isSome = true) := by
    rintro ⟨n, v⟩ hy
    cases S.par n (List.of_mem_zip hy).1 with
    | inl q => exact .inl q
    | inr q => exact .inr ⟨q, PySem.W.cellsFrom_some _ _ _ (.inl q)⟩
  refine codeAny_call_function hr.depth (KS _ _ lk) rfl S.co S.gen rfl (PySem.W.codeRec_of KS hcd) (hb _ _ _ _ ?_)
  refine wpAny_newFunctionEnv_cells S.kind kinds fun env he s1 ic => ?_
  subst he
  refine ⟨nl.keeps ic.toInCall.keep, codeAny_func ?_⟩
  obtain ⟨t, ht, tq⟩ := body cdv rfl A up s H vs Q E (hr.deeper _) hg hsp
  have I : Inv (cxOf (L2.CX P w) P w K mg gb N qual (defScope st) f cdv A up s H E) [] (start N vs) H s1 := inv_start S hr.hd e0 ln rv ic
  have fin : ∀ {σ' : L2.St} {H' : Hp} {v : V} {u : Value} {s' : Shared}, Inv (cxOf (L2.CX P w) P w K mg gb N qual (defScope st) f cdv A up s H E) [] σ' H' s' → RelV v u → Q v H' → CE up P w H s Q u s' :=
    fun {σ' H' v u s'} J r q => ⟨v, H', J.os, J.bare, J.base, J.hok, r, q⟩
  refine wpAny_mono (ht.run [] s1 (start N vs) H _ I tq) (fun fl s' hs => ?_) fun e s' hs => hs
  cases fl with
  | next =>
    obtain ⟨σ', H', J, q⟩ := hs
    exact fin (v := V.non) (u := Value.none) J rfl q
  | ret u =>
    obtain ⟨v, σ', H', J, r, q⟩ := hs
    exact fin J r q
  | brk =>
    obtain ⟨_, _, _, q⟩ := hs
    exact q.elim
  | cont =>
    obtain ⟨_, _, _, q⟩ := hs
    exact q.elim
/-- by the body -/
theorem fnG_of {x qual : Str} {st : Stmt} {f : Addr} {fd : FuncData} {N ps : List Str} {k : Nat} {sp : Sp} (F : Fun K x qual st f fd) (S : FnScope N ps (defScope st)) (cnt : ∀ vs H Q E, sp vs H Q E → vs.length = ps.length)
    (body : ∀ (cdv : Value) (A : Around) (up : List Env) (s : Shared) (H : Hp) (vs : List V) (Q : VK) (E : XK), Room k (A.deeper (envOfC qual (defScope st) s.heap.objs.size f cdv)) → A.guards = some [] → sp vs H Q E →
      ∃ t, PSs (cxOf (L2.CX P w) P w K mg gb N qual (defScope st) f cdv A up s H E) (defBody st) t ∧ t { nx := fun _ H1 => Q .non H1, rt := Q } (start N vs) H) : FnG P w K mg gb (k + 1) f fd ps sp :=
  fnG_ofC F S cnt fun cdv _ A up s H vs Q E => body cdv A up s H vs Q E
end

section
variable {X : Cx} {k : Nat} {f : Addr} {fd : FuncData} {ps : List Str} {sp : Sp} {dvs : List V} {ds : List Value} {x : Str} {p pos : Pos} {e : Expr} {es : List Expr} {t : TA} {W : WX}
/-- the callee runs; what it raises goes to the wish at these slots -/
theorem runG {pins : List (Addr × Obj)} {σ : L2.St} {H : Hp} {s : Shared} {Q : VK} {us : List Value} {vs : List V} (F : FnG X.prog X.w X.K X.mg X.base k f fd ps sp) (hr : Room k X.A) (hg : X.A.guards = some []) (hb : Binds X.K fd ps ds) (hd : Vals dvs ds) (tk : Takes X W)
    (I : Inv X pins σ H s) (r : Vals vs us) (h : sp (vs ++ dvs) H Q (WE W σ)) : wpAny (model X.prog X.w) X.A (call (.ref f) us) (EP X pins σ Q) X.xe s := by
  have rr : Vals (vs ++ dvs) (us ++ ds) := r.append hd
  have ln : (us ++ ds).length = ps.length := rr.length.symm.trans (F.cnt _ _ _ _ h)
  refine wpAny_call (codeAny_mono (F.go X.A X.stack s H ⟨us, []⟩ (us ++ ds) (vs ++ dvs) Q _ hr hg I.env0 (hb s us I.kIn ln) rr h) fun res s' hq => ?_)
  match res, hq with
  | .error e, hq => exact passAt tk σ pins H s e s' I hq
  | .ok (.ret u), hq => exact I.after hq
  | .ok .next, hq => exact hq.elim
  | .ok .brk, hq => exact hq.elim
  | .ok .cont, hq => exact hq.elim
/-- f(e, ..) -/
theorem pe_callG (F : FnG X.prog X.w X.K X.mg X.base k f fd ps sp) (hr : Room k X.A) (hgu : X.A.guards = some []) (hg : Gl X x) (hm : X.mg x = some (.ref f)) (hk : PySem.W.keepIn X.K (.ref f) = true) (hb : Binds X.K fd ps ds) (hd : Vals dvs ds) (tk : Takes X W)
    (ha : PA X (e :: es) t) (hdb : (x == ("__debug__" : Str)) = false := by decide) (he : starEach (e :: es) X.env = (false, eval e X.env) :: starEach es X.env := by rfl) (hpl : (backTo pos (starEach es X.env)).any (·.1) = false := by rfl) :
    PE X (.Call (.Name x p) (e :: es) [] pos) (tCallSD sp dvs (WE W) t) := by
  refine ⟨fun pins s σ H Q I h => wpAny_Call_Name_kw (ld_glob I hg hm ?_ hdb)⟩
  refine PySem.W.callWith_K (h₀ := X.base) I.ok.mod.kin hk (thn (ha.run pos pins s σ H _ I h) fun us s1 hh => ?_) he hpl
  obtain ⟨vs, H1, I1, r1, q1⟩ := hh
  exact ⟨I1.kIn, runG F hr hgu hb hd tk I1 r1 q1⟩
end
end EvL
end

section
set_option Elab.async false
set_option linter.all false
set_option maxRecDepth 100000
set_option maxHeartbeats 2000000
/-! E1: data as trees, the store of what changes, the relation to V and the heap -/
namespace EvL
open PySem PySem.Spec PyProof.Rows L2

/-- data that stands still -/
inductive Dv where
  | non | bl (b : Bool) | int (i : Int) | str (x : Str)
  | tup (xs : List Dv) | lst (xs : List Dv) | dic (kvs : List (Key × Dv))
  | fn (n : Nat)
  /-- the script -/
  | scr (ns : List Int)
  deriving Inhabited
/-- what a slot holds: data, or the number of a thing of the store -/
inductive Sv where
  | d (x : Dv) | o (i : Nat)
  /-- what is called, handed to a def -/
  | c
  deriving Inhabited
/-- a thing of the store -/
inductive So where
  | lst (xs : List Dv) | dic (kvs : List (Key × Dv)) | gone
  deriving Inhabited
abbrev Store := List So
/-- an own error: the number of its class, its one field -/
structure Ex where
  c : Nat
  pay : Option (Str × Dv)
  deriving Inhabited
inductive Rs (α : Type) where
  | ok (a : α) (m : Store) | ex (x : Ex) (m : Store) | no
  deriving Inhabited
abbrev En := List (Option Sv)
abbrev Sem1 := En → Store → Rs Sv
abbrev SemL := En → Store → Rs (List Sv)
abbrev Fs := List Sv → Store → Rs Sv

/-- where defs and error classes stand -/
def Le (F F' : Hp) : Prop := ∀ a o, F a = some o → F' a = some o
/-- where defs and error classes stand; which objects are lambdas (numbers from 1000 on); what else the heap holds all the while -/
structure Tb where
  fnA : Nat → Addr
  clA : Nat → Addr
  isL : Nat → Hp → Addr → Prop
  isM : ∀ (n : Nat) (F F' : Hp) (a : Addr), Le F F' → isL n F a → isL n F' a
  isU : ∀ (n : Nat) (F : Hp) (a : Addr), n < 1000 → ¬ isL n F a
  isC : Hp → V → Prop
  isCM : ∀ (F F' : Hp) (v : V), Le F F' → isC F v → isC F' v
  hp : Hp → Prop
  hpS : ∀ H H' : Hp, hp H → (∀ b o, H b = some o → (∃ xs, o = HO.lst xs) ∨ (∃ kv, o = HO.dK kv) ∨ H' b = some o) → hp H'

variable (K : PySem.W.Frag) (tb : Tb)
mutual
/-- v is the datum, over the heap F -/
inductive Rep (F : Hp) : Dv → V → Prop
  | non : Rep F .non .non
  | bl (b) : Rep F (.bl b) (.bl b)
  | int (i) : Rep F (.int i) (.int i)
  | str (x) : Rep F (.str x) (.str x)
  | tup {a xs vs} : SqT K F a vs → RepL F xs vs → Rep F (.tup xs) (.ref a)
  | lst {a xs vs} : F a = some (.lst vs) → RepL F xs vs → Rep F (.lst xs) (.ref a)
  | dic {a kvs vs} : F a = some (.dK vs) → RepK F kvs vs → Rep F (.dic kvs) (.ref a)
  | fn (n) (h : n < 1000) : Rep F (.fn n) (.ref (tb.fnA n))
  | lam {n a} : tb.isL n F a → Rep F (.fn n) (.ref a)
  | scr {a ns} : SqL K F a (ns.map V.int) → Rep F (.scr ns) (.ref a)
inductive RepL (F : Hp) : List Dv → List V → Prop
  | nil : RepL F [] []
  | cons {x v xs vs} : Rep F x v → RepL F xs vs → RepL F (x :: xs) (v :: vs)
inductive RepK (F : Hp) : List (Key × Dv) → List (Key × V) → Prop
  | nil : RepK F [] []
  | cons {k x v xs vs} : Rep F x v → RepK F xs vs → RepK F ((k, x) :: xs) ((k, v) :: vs)
end
variable {K} {tb}
theorem Le.refl (F : Hp) : Le F F := fun _ _ h => h
theorem Le.trans {F F' F'' : Hp} (a : Le F F') (b : Le F' F'') : Le F F'' := fun x o h => b x o (a x o h)
theorem Le.rd {F F' : Hp} (l : Le F F') {a : Addr} {o : HO} (h : Rd F a o) : Rd F' a o := by
  rcases h with h | ⟨u, h⟩
  · exact .inl (l _ _ h)
  · exact .inr ⟨u, l _ _ h⟩
theorem Le.sqt {F F' : Hp} (l : Le F F') {a : Addr} {vs : List V} (h : SqT K F a vs) : SqT K F' a vs := by
  rcases h with h | h
  · exact .inl (l.rd h)
  · exact .inr h
theorem Le.sql {F F' : Hp} (l : Le F F') {a : Addr} {vs : List V} (h : SqL K F a vs) : SqL K F' a vs := by
  rcases h with h | h
  · exact .inl (l.rd h)
  · exact .inr h
mutual
theorem Rep.mono {F F' : Hp} (l : Le F F') : ∀ {d : Dv} {v : V}, Rep K tb F d v → Rep K tb F' d v
  | _, _, .non => .non
  | _, _, .bl b => .bl b
  | _, _, .int i => .int i
  | _, _, .str x => .str x
  | _, _, .tup h r => .tup (l.sqt h) (RepL.mono l r)
  | _, _, .lst h r => .lst (l _ _ h) (RepL.mono l r)
  | _, _, .dic h r => .dic (l _ _ h) (RepK.mono l r)
  | _, _, .fn n h => .fn n h
  | _, _, .lam h => .lam (tb.isM _ _ _ _ l h)
  | _, _, .scr h => .scr (l.sql h)
theorem RepL.mono {F F' : Hp} (l : Le F F') : ∀ {d : List Dv} {v : List V}, RepL K tb F d v → RepL K tb F' d v
  | _, _, .nil => .nil
  | _, _, .cons h r => .cons (Rep.mono l h) (RepL.mono l r)
theorem RepK.mono {F F' : Hp} (l : Le F F') : ∀ {d : List (Key × Dv)} {v : List (Key × V)}, RepK K tb F d v → RepK K tb F' d v
  | _, _, .nil => .nil
  | _, _, .cons h r => .cons (Rep.mono l h) (RepK.mono l r)
end
theorem RepL.length {F : Hp} : ∀ {d : List Dv} {v : List V}, RepL K tb F d v → d.length = v.length
  | _, _, .nil => rfl
  | _, _, .cons _ r => by simp [RepL.length r]
theorem RepL.get {F : Hp} : ∀ {xs : List Dv} {vs : List V} {i : Nat} {x : Dv}, RepL K tb F xs vs → xs[i]? = some x → ∃ v, vs[i]? = some v ∧ Rep K tb F x v
  | _, _, _, _, .nil, e => by simp at e
  | _, _, 0, _, .cons h _, e => by simp at e; subst e; exact ⟨_, rfl, h⟩
  | _, _, i + 1, x, .cons _ r, e => by
    obtain ⟨v, h1, h2⟩ := RepL.get (i := i) (x := x) r (by simpa using e)
    exact ⟨v, by simpa using h1, h2⟩
theorem RepL.getV {F : Hp} : ∀ {xs : List Dv} {vs : List V} {i : Nat} {v : V}, RepL K tb F xs vs → vs[i]? = some v → ∃ x, xs[i]? = some x ∧ Rep K tb F x v
  | _, _, _, _, .nil, e => by simp at e
  | _, _, 0, _, .cons h _, e => by simp at e; subst e; exact ⟨_, rfl, h⟩
  | _, _, i + 1, x, .cons _ r, e => by
    obtain ⟨v, h1, h2⟩ := RepL.getV (i := i) (v := x) r (by simpa using e)
    exact ⟨v, by simpa using h1, h2⟩
theorem RepL.append {F : Hp} : ∀ {xs ys : List Dv} {vs ws : List V}, RepL K tb F xs vs → RepL K tb F ys ws → RepL K tb F (xs ++ ys) (vs ++ ws)
  | _, _, _, _, .nil, s => s
  | _, _, _, _, .cons h r, s => .cons h (RepL.append r s)
theorem RepL.take {F : Hp} : ∀ {xs : List Dv} {vs : List V} (n : Nat), RepL K tb F xs vs → RepL K tb F (xs.take n) (vs.take n)
  | _, _, 0, _ => .nil
  | _, _, _ + 1, .nil => .nil
  | _, _, n + 1, .cons h r => .cons h (RepL.take n r)
theorem RepL.drop {F : Hp} : ∀ {xs : List Dv} {vs : List V} (n : Nat), RepL K tb F xs vs → RepL K tb F (xs.drop n) (vs.drop n)
  | _, _, 0, r => r
  | _, _, _ + 1, .nil => .nil
  | _, _, n + 1, .cons _ r => RepL.drop n r
theorem RepL.set {F : Hp} {x : Dv} {v : V} (h : Rep K tb F x v) : ∀ {xs : List Dv} {vs : List V} (i : Nat), RepL K tb F xs vs → RepL K tb F (xs.set i x) (vs.set i v)
  | _, _, _, .nil => .nil
  | _, _, 0, .cons _ r => .cons h r
  | _, _, i + 1, .cons q r => .cons q (RepL.set h i r)
theorem RepL.reverse {F : Hp} : ∀ {xs : List Dv} {vs : List V}, RepL K tb F xs vs → RepL K tb F xs.reverse vs.reverse
  | _, _, .nil => .nil
  | _, _, .cons h r => by
    rw [List.reverse_cons, List.reverse_cons]
    exact (RepL.reverse r).append (.cons h .nil)

/-- the state: F is part of H and stands still; the store's things stand at ρ -/
structure Wo (K : PySem.W.Frag) (tb : Tb) (F : Hp) (ρ : List Addr) (m : Store) (H : Hp) : Prop where
  sub : Le F H
  len : ρ.length = m.length
  nd : ρ.Nodup
  lst : ∀ (i : Nat) (a : Addr) (xs : List Dv), ρ[i]? = some a → m[i]? = some (So.lst xs) → F a = none ∧ ∃ vs, H a = some (.lst vs) ∧ RepL K tb F xs vs
  dic : ∀ (i : Nat) (a : Addr) (kvs : List (Key × Dv)), ρ[i]? = some a → m[i]? = some (So.dic kvs) → F a = none ∧ ∃ vs, H a = some (.dK vs) ∧ RepK K tb F kvs vs
  has : ∀ a ∈ ρ, H a ≠ none
  hp : tb.hp H
  nt : ∀ (b : Addr) (ps : Array Value), F b ≠ some (.tbl ps)

structure Ext (F : Hp) (ρ : List Addr) (F' : Hp) (ρ' : List Addr) : Prop where
  le : Le F F'
  pre : ρ <+: ρ'
theorem Ext.refl (F : Hp) (ρ : List Addr) : Ext F ρ F ρ := ⟨.refl F, List.prefix_refl ρ⟩
theorem Ext.trans {F F' F'' : Hp} {ρ ρ' ρ'' : List Addr} (a : Ext F ρ F' ρ') (b : Ext F' ρ' F'' ρ'') : Ext F ρ F'' ρ'' := ⟨a.le.trans b.le, a.pre.trans b.pre⟩

/-- a slot's value -/
inductive RepS (K : PySem.W.Frag) (tb : Tb) (F : Hp) (ρ : List Addr) : Sv → V → Prop
  | d {x v} : Rep K tb F x v → RepS K tb F ρ (.d x) v
  | o {i a} : ρ[i]? = some a → RepS K tb F ρ (.o i) (.ref a)
  | c {v} : tb.isC F v → RepS K tb F ρ .c v
theorem pre_get {ρ ρ' : List Addr} (h : ρ <+: ρ') {i : Nat} {a : Addr} (e : ρ[i]? = some a) : ρ'[i]? = some a := by
  obtain ⟨t, rfl⟩ := h
  obtain ⟨hi, _⟩ := List.getElem?_eq_some_iff.mp e
  rw [List.getElem?_append_left hi]
  exact e
theorem RepS.mono {F F' : Hp} {ρ ρ' : List Addr} {x : Sv} {v : V} (e : Ext F ρ F' ρ') (h : RepS K tb F ρ x v) : RepS K tb F' ρ' x v := by
  cases h with
  | d h => exact .d (h.mono e.le)
  | o h => exact .o (pre_get e.pre h)
  | c h => exact .c (tb.isCM _ _ _ e.le h)
inductive RepSL (K : PySem.W.Frag) (tb : Tb) (F : Hp) (ρ : List Addr) : List Sv → List V → Prop
  | nil : RepSL K tb F ρ [] []
  | cons {x v xs vs} : RepS K tb F ρ x v → RepSL K tb F ρ xs vs → RepSL K tb F ρ (x :: xs) (v :: vs)
theorem RepSL.mono {F F' : Hp} {ρ ρ' : List Addr} (e : Ext F ρ F' ρ') : ∀ {x : List Sv} {v : List V}, RepSL K tb F ρ x v → RepSL K tb F' ρ' x v
  | _, _, .nil => .nil
  | _, _, .cons h r => .cons (h.mono e) (RepSL.mono e r)
theorem RepSL.length {F : Hp} {ρ : List Addr} : ∀ {d : List Sv} {v : List V}, RepSL K tb F ρ d v → d.length = v.length
  | _, _, .nil => rfl
  | _, _, .cons _ r => by simp [RepSL.length r]

/-- the slots -/
structure EnvOk (K : PySem.W.Frag) (tb : Tb) (F : Hp) (ρ : List Addr) (en : En) (σ : L2.St) : Prop where
  len : en.length = σ.length
  at_ : ∀ (i : Nat) (x : Sv), en[i]? = some (some x) → ∃ v, σ[i]? = some (some v) ∧ RepS K tb F ρ x v
theorem EnvOk.mono {F F' : Hp} {ρ ρ' : List Addr} {en : En} {σ : L2.St} (e : Ext F ρ F' ρ') (h : EnvOk K tb F ρ en σ) : EnvOk K tb F' ρ' en σ :=
  ⟨h.len, fun i x q => let ⟨v, a, b⟩ := h.at_ i x q; ⟨v, a, b.mono e⟩⟩
theorem EnvOk.set {F : Hp} {ρ : List Addr} {en : En} {σ : L2.St} {x : Sv} {v : V} (h : EnvOk K tb F ρ en σ) (r : RepS K tb F ρ x v) (i : Nat) : EnvOk K tb F ρ (en.set i (some x)) (σ.set i (some v)) := by
  refine ⟨by simp [h.len], fun j y q => ?_⟩
  by_cases e : i = j
  · subst e
    by_cases hi : i < en.length
    · rw [List.getElem?_set_self hi] at q
      cases q
      exact ⟨v, by rw [List.getElem?_set_self (by rw [← h.len]; exact hi)], r⟩
    · rw [List.getElem?_eq_none (by simpa using hi)] at q
      cases q
  · rw [List.getElem?_set_ne e] at q
    obtain ⟨u, a, b⟩ := h.at_ j y q
    exact ⟨u, by rw [List.getElem?_set_ne e]; exact a, b⟩
theorem EnvOk.wipe {F : Hp} {ρ : List Addr} {en : En} {σ : L2.St} (h : EnvOk K tb F ρ en σ) (i : Nat) (o : Option V) : EnvOk K tb F ρ (en.set i none) (σ.set i o) := by
  refine ⟨by simp [h.len], fun j y q => ?_⟩
  by_cases e : i = j
  · subst e
    by_cases hi : i < en.length
    · rw [List.getElem?_set_self hi] at q
      cases q
    · rw [List.getElem?_eq_none (by simpa using hi)] at q
      cases q
  · rw [List.getElem?_set_ne e] at q
    obtain ⟨u, a, b⟩ := h.at_ j y q
    exact ⟨u, by rw [List.getElem?_set_ne e]; exact a, b⟩

/-- how an error lies: its class, its own dict with the one field -/
def XRep (K : PySem.W.Frag) (tb : Tb) (F : Hp) (x : Ex) (c : Value) (d : Option Addr) : Prop :=
  c = .ref (tb.clA x.c) ∧ match x.pay with
    | none => True
    | some (f, y) => ∃ (dd : Addr) (v : V), d = some dd ∧ F dd = some (.xd [(f, v)]) ∧ Rep K tb F y v

/-- an expression's reading -/
def tE (K : PySem.W.Frag) (tb : Tb) (W : WX) (f : Sem1) : TE := fun σ H Q => ∃ F ρ en m, EnvOk K tb F ρ en σ ∧ Wo K tb F ρ m H ∧ match f en m with
  | .ok x m' => ∀ F' ρ' H' v, Ext F ρ F' ρ' → Wo K tb F' ρ' m' H' → RepS K tb F' ρ' x v → Q v H'
  | .ex x m' => ∀ F' ρ' H' c d, Ext F ρ F' ρ' → Wo K tb F' ρ' m' H' → XRep K tb F' x c d → W c d σ H'
  | .no => False
def tEL (K : PySem.W.Frag) (tb : Tb) (W : WX) (f : SemL) : TA := fun σ H Q => ∃ F ρ en m, EnvOk K tb F ρ en σ ∧ Wo K tb F ρ m H ∧ match f en m with
  | .ok x m' => ∀ F' ρ' H' v, Ext F ρ F' ρ' → Wo K tb F' ρ' m' H' → RepSL K tb F' ρ' x v → Q v H'
  | .ex x m' => ∀ F' ρ' H' c d, Ext F ρ F' ρ' → Wo K tb F' ρ' m' H' → XRep K tb F' x c d → W c d σ H'
  | .no => False
/-- what a statement does -/
inductive Sr where
  | nx (en : En) (m : Store) | rt (x : Sv) (m : Store) | bk (en : En) (m : Store) | ct (en : En) (m : Store) | ex (x : Ex) (en : En) (m : Store) | no
  deriving Inhabited
abbrev SemS := En → Store → Sr
def tSt (K : PySem.W.Frag) (tb : Tb) (W : WX) (F : Hp) (ρ : List Addr) (D : Ends) : Sr → Prop
  | .nx en m => ∀ F' ρ' σ' H', Ext F ρ F' ρ' → EnvOk K tb F' ρ' en σ' → Wo K tb F' ρ' m H' → D.nx σ' H'
  | .rt x m => ∀ F' ρ' H' v, Ext F ρ F' ρ' → Wo K tb F' ρ' m H' → RepS K tb F' ρ' x v → D.rt v H'
  | .bk en m => ∀ F' ρ' σ' H', Ext F ρ F' ρ' → EnvOk K tb F' ρ' en σ' → Wo K tb F' ρ' m H' → D.bk σ' H'
  | .ct en m => ∀ F' ρ' σ' H', Ext F ρ F' ρ' → EnvOk K tb F' ρ' en σ' → Wo K tb F' ρ' m H' → D.ct σ' H'
  | .ex x en m => ∀ F' ρ' σ' H' c d, Ext F ρ F' ρ' → EnvOk K tb F' ρ' en σ' → Wo K tb F' ρ' m H' → XRep K tb F' x c d → W c d σ' H'
  | .no => False
def tS (K : PySem.W.Frag) (tb : Tb) (W : WX) (g : SemS) : TS := fun D σ H => ∃ F ρ en m, EnvOk K tb F ρ en σ ∧ Wo K tb F ρ m H ∧ tSt K tb W F ρ D (g en m)
/-- the judgements -/
abbrev RE (X : Cx) (tb : Tb) (W : WX) (e : Expr) (f : Sem1) : Prop := PE X e (tE X.K tb W f)
abbrev RA (X : Cx) (tb : Tb) (W : WX) (es : List Expr) (f : SemL) : Prop := PA X es (tEL X.K tb W f)
abbrev RS (X : Cx) (tb : Tb) (W : WX) (st : Stmt) (g : SemS) : Prop := PS X st (tS X.K tb W g)
abbrev RSs (X : Cx) (tb : Tb) (W : WX) (sts : List Stmt) (g : SemS) : Prop := PSs X sts (tS X.K tb W g)
/-- a def's promise -/
def spE (K : PySem.W.Frag) (tb : Tb) (n : Nat) (g : Fs) : Sp := fun vs H Q E => vs.length = n ∧ ∃ F ρ xs m, RepSL K tb F ρ xs vs ∧ Wo K tb F ρ m H ∧ match g xs m with
  | .ok x m' => ∀ F' ρ' H' v, Ext F ρ F' ρ' → Wo K tb F' ρ' m' H' → RepS K tb F' ρ' x v → Q v H'
  | .ex x m' => ∀ F' ρ' H' c d, Ext F ρ F' ρ' → Wo K tb F' ρ' m' H' → XRep K tb F' x c d → E c d H'
  | .no => False
end EvL
end

section
set_option Elab.async false
set_option linter.all false
set_option maxRecDepth 100000
set_option maxHeartbeats 2000000
/-! E2: expressions -/
namespace EvL
open PySem PySem.Spec PyProof.Rows L2

def Rs.bind {α β : Type} (r : Rs α) (f : α → Store → Rs β) : Rs β := match r with
  | .ok a m => f a m | .ex x m => .ex x m | .no => .no
@[simp] theorem Rs.bind_ok {α β : Type} (a : α) (m : Store) (f : α → Store → Rs β) : (Rs.ok a m).bind f = f a m := rfl
@[simp] theorem Rs.bind_ex {α β : Type} (x : Ex) (m : Store) (f : α → Store → Rs β) : (Rs.ex x m : Rs α).bind f = .ex x m := rfl
@[simp] theorem Rs.bind_no {α β : Type} (f : α → Store → Rs β) : (Rs.no : Rs α).bind f = .no := rfl

section
variable {K : PySem.W.Frag} {tb : Tb} {W : WX} {X : Cx}
/-- what is wanted of a result -/
def PostE (K : PySem.W.Frag) (tb : Tb) (W : WX) (F : Hp) (ρ : List Addr) (σ : L2.St) (Q : VK) : Rs Sv → Prop
  | .ok x m' => ∀ F' ρ' H' v, Ext F ρ F' ρ' → Wo K tb F' ρ' m' H' → RepS K tb F' ρ' x v → Q v H'
  | .ex x m' => ∀ F' ρ' H' c d, Ext F ρ F' ρ' → Wo K tb F' ρ' m' H' → XRep K tb F' x c d → W c d σ H'
  | .no => False
def PostL (K : PySem.W.Frag) (tb : Tb) (W : WX) (F : Hp) (ρ : List Addr) (σ : L2.St) (Q : List V → Hp → Prop) : Rs (List Sv) → Prop
  | .ok x m' => ∀ F' ρ' H' v, Ext F ρ F' ρ' → Wo K tb F' ρ' m' H' → RepSL K tb F' ρ' x v → Q v H'
  | .ex x m' => ∀ F' ρ' H' c d, Ext F ρ F' ρ' → Wo K tb F' ρ' m' H' → XRep K tb F' x c d → W c d σ H'
  | .no => False
def PostB (K : PySem.W.Frag) (tb : Tb) (W : WX) (F : Hp) (ρ : List Addr) (σ : L2.St) (Q : Bool → Hp → Prop) : Rs Bool → Prop
  | .ok x m' => ∀ F' ρ' H', Ext F ρ F' ρ' → Wo K tb F' ρ' m' H' → Q x H'
  | .ex x m' => ∀ F' ρ' H' c d, Ext F ρ F' ρ' → Wo K tb F' ρ' m' H' → XRep K tb F' x c d → W c d σ H'
  | .no => False
theorem tE_iff {f : Sem1} {σ : L2.St} {H : Hp} {Q : VK} : tE K tb W f σ H Q ↔ ∃ F ρ en m, EnvOk K tb F ρ en σ ∧ Wo K tb F ρ m H ∧ PostE K tb W F ρ σ Q (f en m) := by
  unfold tE
  constructor <;> rintro ⟨F, ρ, en, m, h1, h2, h3⟩ <;> refine ⟨F, ρ, en, m, h1, h2, ?_⟩ <;> cases e : f en m <;> rw [e] at h3 <;> exact h3
theorem tEL_iff {f : SemL} {σ : L2.St} {H : Hp} {Q : List V → Hp → Prop} : tEL K tb W f σ H Q ↔ ∃ F ρ en m, EnvOk K tb F ρ en σ ∧ Wo K tb F ρ m H ∧ PostL K tb W F ρ σ Q (f en m) := by
  unfold tEL
  constructor <;> rintro ⟨F, ρ, en, m, h1, h2, h3⟩ <;> refine ⟨F, ρ, en, m, h1, h2, ?_⟩ <;> cases e : f en m <;> rw [e] at h3 <;> exact h3
abbrev SemB := En → Store → Rs Bool
def tB (K : PySem.W.Frag) (tb : Tb) (W : WX) (f : SemB) : TT := fun σ H Q => ∃ F ρ en m, EnvOk K tb F ρ en σ ∧ Wo K tb F ρ m H ∧ PostB K tb W F ρ σ Q (f en m)
abbrev RT (X : Cx) (tb : Tb) (W : WX) (e : Expr) (f : SemB) : Prop := PT X e (tB X.K tb W f)

theorem PE.weak {e : Expr} {t t' : TE} (h : PE X e t) (w : ∀ σ H Q, t' σ H Q → t σ H Q) : PE X e t' := ⟨fun pins s σ H Q I q => h.run pins s σ H Q I (w _ _ _ q)⟩
theorem PA.weak {e : List Expr} {t t' : TA} (h : PA X e t) (w : ∀ σ H Q, t' σ H Q → t σ H Q) : PA X e t' := ⟨fun pos pins s σ H Q I q => h.run pos pins s σ H Q I (w _ _ _ q)⟩
theorem PT.weak {e : Expr} {t t' : TT} (h : PT X e t) (w : ∀ σ H Q, t' σ H Q → t σ H Q) : PT X e t' := ⟨fun pins s σ H Q I q => h.run pins s σ H Q I (w _ _ _ q)⟩
theorem PS.weak {e : Stmt} {t t' : TS} (h : PS X e t) (w : ∀ D σ H, t' D σ H → t D σ H) : PS X e t' := ⟨fun pins s σ H Q I q => h.run pins s σ H Q I (w _ _ _ q)⟩
theorem PSs.weak {e : List Stmt} {t t' : TS} (h : PSs X e t) (w : ∀ D σ H, t' D σ H → t D σ H) : PSs X e t' := ⟨fun pins s σ H Q I q => h.run pins s σ H Q I (w _ _ _ q)⟩

/-- one expression, then what follows -/
theorem tE_bind {f : Sem1} {g : Sv → Store → Rs Sv} {F : Hp} {ρ : List Addr} {en : En} {m : Store} {σ : L2.St} {H : Hp} {Q R : VK} (he : EnvOk K tb F ρ en σ) (ho : Wo K tb F ρ m H) (h : PostE K tb W F ρ σ R ((f en m).bind g))
    (k : ∀ x m' F' ρ' H' v, Ext F ρ F' ρ' → EnvOk K tb F' ρ' en σ → Wo K tb F' ρ' m' H' → RepS K tb F' ρ' x v → PostE K tb W F' ρ' σ R (g x m') → Q v H') : tE K tb W f σ H Q := by
  refine tE_iff.mpr ⟨F, ρ, en, m, he, ho, ?_⟩
  cases e : f en m with
  | ok x m' =>
    rw [e] at h
    intro F' ρ' H' v ex o r
    refine k x m' F' ρ' H' v ex (he.mono ex) o r ?_
    have h : PostE K tb W F ρ σ R (g x m') := h
    cases e2 : g x m' with
    | ok y m2 => rw [e2] at h; exact fun F2 ρ2 H2 v2 x2 => h F2 ρ2 H2 v2 (ex.trans x2)
    | ex y m2 => rw [e2] at h; exact fun F2 ρ2 H2 c d x2 => h F2 ρ2 H2 c d (ex.trans x2)
    | no => rw [e2] at h; exact h
  | ex x m' => rw [e] at h; exact h
  | no => rw [e] at h; exact h
theorem PostE.ext {F F' : Hp} {ρ ρ' : List Addr} {σ : L2.St} {R : VK} (ex : Ext F ρ F' ρ') {r : Rs Sv} (h : PostE K tb W F ρ σ R r) : PostE K tb W F' ρ' σ R r := by
  cases r with
  | ok y m2 => exact fun F2 ρ2 H2 v2 x2 => h F2 ρ2 H2 v2 (ex.trans x2)
  | ex y m2 => exact fun F2 ρ2 H2 c d x2 => h F2 ρ2 H2 c d (ex.trans x2)
  | no => exact h
theorem PostL.ext {F F' : Hp} {ρ ρ' : List Addr} {σ : L2.St} {R : List V → Hp → Prop} (ex : Ext F ρ F' ρ') {r : Rs (List Sv)} (h : PostL K tb W F ρ σ R r) : PostL K tb W F' ρ' σ R r := by
  cases r with
  | ok y m2 => exact fun F2 ρ2 H2 v2 x2 => h F2 ρ2 H2 v2 (ex.trans x2)
  | ex y m2 => exact fun F2 ρ2 H2 c d x2 => h F2 ρ2 H2 c d (ex.trans x2)
  | no => exact h
theorem PostB.ext {F F' : Hp} {ρ ρ' : List Addr} {σ : L2.St} {R : Bool → Hp → Prop} (ex : Ext F ρ F' ρ') {r : Rs Bool} (h : PostB K tb W F ρ σ R r) : PostB K tb W F' ρ' σ R r := by
  cases r with
  | ok y m2 => exact fun F2 ρ2 H2 x2 => h F2 ρ2 H2 (ex.trans x2)
  | ex y m2 => exact fun F2 ρ2 H2 c d x2 => h F2 ρ2 H2 c d (ex.trans x2)
  | no => exact h

/-! ### names, constants -/
def sVar (i : Nat) : Sem1 := fun en m => match en[i]? with
  | some (some x) => .ok x m
  | _ => .no
theorem re_var {i : Nat} {e : Expr} (h : PE X e (tVar i)) : RE X tb W e (sVar i) := by
  refine PE.weak h fun σ H Q q => ?_
  obtain ⟨F, ρ, en, m, he, ho, q⟩ := tE_iff.mp q
  unfold sVar at q
  split at q
  · rename_i x ex
    obtain ⟨v, hv, r⟩ := he.at_ i x ex
    exact ⟨v, hv, q F ρ H v (.refl _ _) ho r⟩
  · exact q.elim
def sC (d : Dv) : Sem1 := fun _ m => .ok (.d d) m
theorem re_c {e : Expr} {v : V} {d : Dv} (h : PE X e (tC v)) (r : ∀ F, Rep X.K tb F d v) : RE X tb W e (sC d) := by
  refine PE.weak h fun σ H Q q => ?_
  obtain ⟨F, ρ, en, m, he, ho, q⟩ := tE_iff.mp q
  exact q F ρ H v (.refl _ _) ho (.d (r F))
theorem re_int {i j pos} : RE X tb W (.Constant (.int i) j pos) (sC (.int i)) := re_c pe_int fun _ => .int i
theorem re_bl {b j pos} : RE X tb W (.Constant (.bool b) j pos) (sC (.bl b)) := re_c pe_bl fun _ => .bl b
theorem re_non {j pos} : RE X tb W (.Constant .none j pos) (sC .non) := re_c pe_non fun _ => .non
theorem re_str {x j pos} : RE X tb W (.Constant (.str x) j pos) (sC (.str x)) := re_c pe_str fun _ => .str x

/-! ### what a value reads as now -/
def rv (m : Store) : Sv → Option Dv
  | .d x => some x
  | .c => none
  | .o i => match m[i]? with
    | some (.lst xs) => some (.lst xs)
    | some (.dic kvs) => some (.dic kvs)
    | _ => none
inductive Top (K : PySem.W.Frag) (tb : Tb) (F H : Hp) : Dv → V → Prop
  | of {d v} : Rep K tb F d v → Top K tb F H d v
  | lst {a xs vs} : H a = some (.lst vs) → RepL K tb F xs vs → Top K tb F H (.lst xs) (.ref a)
  | dic {a xs vs} : H a = some (.dK vs) → RepK K tb F xs vs → Top K tb F H (.dic xs) (.ref a)
theorem rv_top {F : Hp} {ρ : List Addr} {m : Store} {H : Hp} {x : Sv} {v : V} {d : Dv} (o : Wo K tb F ρ m H) (r : RepS K tb F ρ x v) (e : rv m x = some d) : Top K tb F H d v := by
  cases r with
  | d r =>
    cases e
    exact .of r
  | @o i a r =>
    unfold rv at e
    dsimp only at e
    split at e
    · rename_i xs hx
      cases e
      obtain ⟨_, vs, h1, h2⟩ := o.lst i a xs r hx
      exact .lst h1 h2
    · rename_i xs hx
      cases e
      obtain ⟨_, vs, h1, h2⟩ := o.dic i a xs r hx
      exact .dic h1 h2
    · cases e
  | c _ => cases e
theorem RepS.rv {F : Hp} {ρ : List Addr} {m : Store} {x : Dv} {v : V} (r : RepS K tb F ρ (.d x) v) : Rep K tb F x v := by cases r; assumption
theorem Top.sql {F H : Hp} {xs : List Dv} {v : V} (l : Le F H) (t : Top K tb F H (.lst xs) v) : ∃ a vs, v = .ref a ∧ SqL K H a vs ∧ RepL K tb F xs vs := by
  cases t with
  | of r => cases r with | lst h r => exact ⟨_, _, rfl, .inl (.inl (l _ _ h)), r⟩
  | lst h r => exact ⟨_, _, rfl, .inl (.inl h), r⟩
theorem Top.sqt {F H : Hp} {xs : List Dv} {v : V} (l : Le F H) (t : Top K tb F H (.tup xs) v) : ∃ a vs, v = .ref a ∧ SqT K H a vs ∧ RepL K tb F xs vs := by
  cases t with
  | of r => cases r with | tup h r => exact ⟨_, _, rfl, l.sqt h, r⟩
theorem Top.plain {F H : Hp} {xs : List Dv} {v : V} (l : Le F H) (t : Top K tb F H (.lst xs) v) : ∃ a vs, v = .ref a ∧ H a = some (.lst vs) ∧ RepL K tb F xs vs := by
  cases t with
  | of r => cases r with | lst h r => exact ⟨_, _, rfl, l _ _ h, r⟩
  | lst h r => exact ⟨_, _, rfl, h, r⟩
theorem Top.int {F H : Hp} {i : Int} {v : V} (t : Top K tb F H (.int i) v) : v = .int i := by
  cases t with | of r => cases r; rfl
theorem Top.bl {F H : Hp} {i : Bool} {v : V} (t : Top K tb F H (.bl i) v) : v = .bl i := by
  cases t with | of r => cases r; rfl
theorem Top.str {F H : Hp} {i : Str} {v : V} (t : Top K tb F H (.str i) v) : v = .str i := by
  cases t with | of r => cases r; rfl
theorem Top.non {F H : Hp} {v : V} (t : Top K tb F H .non v) : v = .non := by
  cases t with | of r => cases r; rfl

/-! ### a new thing -/
theorem Wo.alloc {F : Hp} {ρ : List Addr} {m : Store} {H : Hp} {p : Addr} (o : Wo K tb F ρ m H) (hp : H p = none) (u : HO) (hu : ∀ ps, u ≠ .tbl ps := by intro _ h; cases h) : Wo K tb (upd F p u) ρ m (upd H p u) ∧ Ext F ρ (upd F p u) ρ := by
  have fp : F p = none := by
    cases e : F p with
    | none => rfl
    | some x => rw [o.sub p x e] at hp; cases hp
  have ne : ∀ a, a ∈ ρ → a ≠ p := fun a h e => o.has a h (by rw [e]; exact hp)
  have le : Le F (upd F p u) := fun a x e => by rw [upd_ne (ne_of_none e fp)]; exact e
  refine ⟨⟨fun a x e => ?_, o.len, o.nd, fun i a xs h1 h2 => ?_, fun i a xs h1 h2 => ?_, fun a h => ?_, tb.hpS _ _ o.hp fun b x e => .inr (.inr (by rw [upd_ne (ne_of_none e hp)]; exact e)), fun b ps e => if h : b = p then hu ps (by subst h; rw [upd_same] at e; exact Option.some.inj e) else o.nt b ps (by rw [upd_ne h] at e; exact e)⟩, le, List.prefix_refl _⟩
  · by_cases h : a = p
    · subst h; rw [upd_same] at e ⊢; exact e
    · rw [upd_ne h] at e ⊢; exact o.sub a x e
  · have n := ne a (List.mem_of_getElem? h1)
    obtain ⟨q1, vs, q2, q3⟩ := o.lst i a xs h1 h2
    exact ⟨by rw [upd_ne n]; exact q1, vs, by rw [upd_ne n]; exact q2, q3.mono le⟩
  · have n := ne a (List.mem_of_getElem? h1)
    obtain ⟨q1, vs, q2, q3⟩ := o.dic i a xs h1 h2
    exact ⟨by rw [upd_ne n]; exact q1, vs, by rw [upd_ne n]; exact q2, q3.mono le⟩
  · rw [upd_ne (ne a h)]; exact o.has a h

/-! ### operators by data -/
/-- an operator's rule answers for a function on data -/
def OpC (X : Cx) (tb : Tb) (r : R2) (op : Dv → Dv → Option Dv) : Prop :=
  ∀ F ρ m H x y v u d (Q : VK), Wo X.K tb F ρ m H → Top X.K tb F H x v → Top X.K tb F H y u → op x y = some d →
    (∀ F' H' z, Ext F ρ F' ρ → Wo X.K tb F' ρ m H' → Rep X.K tb F' d z → Q z H') → r v u H Q
def sBin (op : Dv → Dv → Option Dv) (fa fb : Sem1) : Sem1 := fun en m => (fa en m).bind fun x m1 => (fb en m1).bind fun y m2 => match rv m2 x, rv m2 y with
  | some a, some b => (match op a b with | some d => .ok (.d d) m2 | none => .no)
  | _, _ => .no
theorem sBin_run {r : R2} {op : Dv → Dv → Option Dv} (c : OpC X tb r op) {fa fb : Sem1} {σ : L2.St} {H : Hp} {Q : VK} (h : tE X.K tb W (sBin op fa fb) σ H Q) : tOp r (tE X.K tb W fa) (tE X.K tb W fb) σ H Q := by
  obtain ⟨F, ρ, en, m, he, ho, q⟩ := tE_iff.mp h
  refine tE_bind he ho q fun x m1 F1 ρ1 H1 v e1 he1 ho1 r1 q1 => ?_
  refine tE_bind he1 ho1 q1 fun y m2 F2 ρ2 H2 u e2 he2 ho2 r2 q2 => ?_
  split at q2
  · rename_i a b ha hb
    split at q2
    · rename_i d hd
      exact c F2 ρ2 m2 H2 a b v u d Q ho2 (rv_top ho2 (r1.mono e2) ha) (rv_top ho2 r2 hb) hd fun F' H' z ex o' rz => q2 F' ρ2 H' z ex o' (.d rz)
    · exact q2.elim
  · exact q2.elim
theorem re_bin {op : Operator} {r : R2} {sop : Dv → Dv → Option Dv} {a b : Expr} {fa fb : Sem1} {pos : Pos} (ho : OpR X (binaryOp op) r) (c : OpC X tb r sop) (ha : RE X tb W a fa) (hb : RE X tb W b fb) : RE X tb W (.BinOp a op b pos) (sBin sop fa fb) :=
  PE.weak (pe_op ho ha hb) fun σ H Q q => sBin_run c q
theorem re_cmp {op : CmpOp} {r : R2} {sop : Dv → Dv → Option Dv} {a b : Expr} {fa fb : Sem1} {pos : Pos} (ho : OpR X (compareOp op) r) (c : OpC X tb r sop) (ha : RE X tb W a fa) (hb : RE X tb W b fb) (hm : behindInMarks op b = false) : RE X tb W (.Compare a [op] [b] pos) (sBin sop fa fb) :=
  PE.weak (pe_cmpR ho ha hb hm) fun σ H Q q => sBin_run c q
theorem re_ix {r : R2} {sop : Dv → Dv → Option Dv} {a b : Expr} {fa fb : Sem1} {pos : Pos} (ho : IxR X r) (c : OpC X tb r sop) (ha : RE X tb W a fa) (hb : RE X tb W b fb) (hs : PlainIx b) : RE X tb W (.Subscript a b pos) (sBin sop fa fb) :=
  PE.weak (pe_ix ho ha hb hs) fun σ H Q q => sBin_run c q
def sUn (op : Dv → Option Dv) (fa : Sem1) : Sem1 := fun en m => (fa en m).bind fun x m1 => match rv m1 x with
  | some a => (match op a with | some d => .ok (.d d) m1 | none => .no)
  | _ => .no
def UnC (X : Cx) (tb : Tb) (r : V → Hp → VK → Prop) (op : Dv → Option Dv) : Prop :=
  ∀ F ρ m H x v d (Q : VK), Wo X.K tb F ρ m H → Top X.K tb F H x v → op x = some d →
    (∀ F' H' z, Ext F ρ F' ρ → Wo X.K tb F' ρ m H' → Rep X.K tb F' d z → Q z H') → r v H Q
theorem re_un {op : UnaryOp} {r : V → Hp → VK → Prop} {sop : Dv → Option Dv} {a : Expr} {fa : Sem1} {pos : Pos} (ho : UnR X (unaryOp op) r) (c : UnC X tb r sop) (ha : RE X tb W a fa) : RE X tb W (.UnaryOp op a pos) (sUn sop fa) :=
  PE.weak (pe_un ho ha) fun σ H Q h => by
    obtain ⟨F, ρ, en, m, he, ho, q⟩ := tE_iff.mp h
    refine tE_bind he ho q fun x m1 F1 ρ1 H1 v e1 he1 ho1 r1 q1 => ?_
    split at q1
    · rename_i a ha
      split at q1
      · rename_i d hd
        exact c F1 ρ1 m1 H1 a v d Q ho1 (rv_top ho1 r1 ha) hd fun F' H' z ex o' rz => q1 F' ρ1 H' z ex o' (.d rz)
      · exact q1.elim
    · exact q1.elim

/-! ints -/
def iop (g : Int → Int → Dv) : Dv → Dv → Option Dv
  | .int i, .int j => some (g i j)
  | _, _ => none
def iopC (c : Int → Int → Bool) (g : Int → Int → Dv) : Dv → Dv → Option Dv
  | .int i, .int j => if c i j then some (g i j) else none
  | _, _ => none
theorem opC_i {g : Int → Int → Dv} {gv : Int → Int → V} (hg : ∀ i j F, Rep X.K tb F (g i j) (gv i j)) : OpC X tb (rI0 gv) (iop g) := by
  intro F ρ m H x y v u d Q o tx ty e k
  cases x <;> cases y <;> simp only [iop, Option.some.injEq, reduceCtorEq] at e
  subst e
  exact ⟨_, _, tx.int, ty.int, k F H _ (.refl _ _) o (hg _ _ F)⟩
theorem opC_iC {c : Int → Int → Bool} {C : Int → Int → Prop} {g : Int → Int → Dv} {gv : Int → Int → V} (hc : ∀ i j, c i j = true → C i j) (hg : ∀ i j F, Rep X.K tb F (g i j) (gv i j)) : OpC X tb (rI C gv) (iopC c g) := by
  intro F ρ m H x y v u d Q o tx ty e k
  cases x <;> cases y <;> simp only [iopC, Option.ite_none_right_eq_some, Option.some.injEq, reduceCtorEq] at e
  obtain ⟨e1, e⟩ := e
  subst e
  exact ⟨_, _, tx.int, ty.int, hc _ _ e1, k F H _ (.refl _ _) o (hg _ _ F)⟩
abbrev oAdd := iop fun i j => .int (i + j)
abbrev oSub := iop fun i j => .int (i - j)
/-- numbers of less than 4097 bits -/
@[irreducible] def wideN : Nat := 2 ^ 4096
theorem wideN_eq : wideN = 2 ^ 4096 := by unfold wideN; rfl
def mulOk (i j : Int) : Bool := decide (i.natAbs < 2 ^ 64) || (decide (j.natAbs < 2 ^ 64) || (decide (i.natAbs < wideN) && decide (j.natAbs < wideN)))
def CMulA (i j : Int) : Prop := CMul i j ∨ CMulW i j
theorem mulOk_c {i j : Int} (h : mulOk i j = true) : CMulA i j := by
  simp only [mulOk, Bool.or_eq_true, Bool.and_eq_true, decide_eq_true_eq] at h
  rcases h with h | h | ⟨h1, h2⟩
  · left; unfold CMul; omega
  · left; unfold CMul; omega
  · right
    rw [wideN_eq] at h1 h2
    exact wide_mul h1 h2 (by decide) (by decide) (by decide)
theorem op_mulA : OpR X (binaryOp .Mult) (rI CMulA fun i j => .int (i * j)) := by
  intro pins s σ H x y v u Q I rx ry h
  obtain ⟨i, j, rfl, rfl, hc, q⟩ := h
  rcases hc with hc | hc
  · exact op_mul pins s σ H _ _ v u Q I rx ry ⟨i, j, rfl, rfl, hc, q⟩
  · exact op_mulW pins s σ H _ _ v u Q I rx ry ⟨i, j, rfl, rfl, hc, q⟩
def CDivA (_ j : Int) : Prop := j ≠ 0 ∧ j.natAbs < wideN
theorem op_fdivA : OpR X (binaryOp .FloorDiv) (rI CDivA fun i j => .int (i.fdiv j)) := opI fun _ _ _ _ _ _ _ hc q => floordiv_int hc.1 q (.inl (PyProof.noPylong_of_log2 (Nat.lt_of_lt_of_le (PySem.Flt.log2_lt_of (by decide) (by have := hc.2; rw [wideN_eq] at this; exact this)) (by decide : 4096 ≤ 9000))))
abbrev oMul := iopC mulOk fun i j => .int (i * j)
def divOk (_ j : Int) : Bool := decide (j ≠ 0) && decide (j.natAbs < wideN)
abbrev oDiv := iopC divOk fun i j => .int (i.fdiv j)
def modOk (_ j : Int) : Bool := decide (j ≠ 0)
abbrev oMod := iopC modOk fun i j => .int (i.fmod j)
def powOk (i j : Int) : Bool := decide (0 ≤ j) && decide (j ≤ 1000000) && decide (i.natAbs < 2 ^ 64)
abbrev oPow := iopC powOk fun i j => .int (i ^ j.toNat)
abbrev oLt := iop fun i j => .bl (decide (i < j))
abbrev oLe := iop fun i j => .bl (decide (i ≤ j))
abbrev oGt := iop fun i j => .bl (decide (j < i))
abbrev oGe := iop fun i j => .bl (decide (j ≤ i))
variable {a b : Expr} {fa fb : Sem1} {pos : Pos}
theorem re_add (ha : RE X tb W a fa) (hb : RE X tb W b fb) : RE X tb W (.BinOp a .Add b pos) (sBin oAdd fa fb) := re_bin op_add (opC_i fun i j F => .int _) ha hb
theorem re_sub (ha : RE X tb W a fa) (hb : RE X tb W b fb) : RE X tb W (.BinOp a .Sub b pos) (sBin oSub fa fb) := re_bin op_sub (opC_i fun i j F => .int _) ha hb
theorem re_mul (ha : RE X tb W a fa) (hb : RE X tb W b fb) : RE X tb W (.BinOp a .Mult b pos) (sBin oMul fa fb) :=
  re_bin op_mulA (opC_iC (fun i j h => mulOk_c h) fun i j F => .int _) ha hb
theorem re_div (ha : RE X tb W a fa) (hb : RE X tb W b fb) : RE X tb W (.BinOp a .FloorDiv b pos) (sBin oDiv fa fb) :=
  re_bin op_fdivA (opC_iC (fun i j h => by simpa [divOk, CDivA] using h) fun i j F => .int _) ha hb
theorem re_mod (ha : RE X tb W a fa) (hb : RE X tb W b fb) : RE X tb W (.BinOp a .Mod b pos) (sBin oMod fa fb) :=
  re_bin op_modN (opC_iC (fun i j h => by simpa [modOk] using h) fun i j F => .int _) ha hb
theorem re_pow (ha : RE X tb W a fa) (hb : RE X tb W b fb) : RE X tb W (.BinOp a .Pow b pos) (sBin oPow fa fb) :=
  re_bin op_pow (opC_iC (fun i j h => by simp only [powOk, Bool.and_eq_true, decide_eq_true_eq] at h; exact ⟨h.1.1, h.1.2, h.2⟩) fun i j F => .int _) ha hb
theorem re_lt (ha : RE X tb W a fa) (hb : RE X tb W b fb) : RE X tb W (.Compare a [.Lt] [b] pos) (sBin oLt fa fb) := re_cmp op_lt (opC_i fun i j F => .bl _) ha hb (nomark _)
theorem re_le (ha : RE X tb W a fa) (hb : RE X tb W b fb) : RE X tb W (.Compare a [.LtE] [b] pos) (sBin oLe fa fb) := re_cmp op_le (opC_i fun i j F => .bl _) ha hb (nomark _)
theorem re_gt (ha : RE X tb W a fa) (hb : RE X tb W b fb) : RE X tb W (.Compare a [.Gt] [b] pos) (sBin oGt fa fb) := re_cmp op_gt (opC_i fun i j F => .bl _) ha hb (nomark _)
theorem re_ge (ha : RE X tb W a fa) (hb : RE X tb W b fb) : RE X tb W (.Compare a [.GtE] [b] pos) (sBin oGe fa fb) := re_cmp op_ge (opC_i fun i j F => .bl _) ha hb (nomark _)
def oNeg : Dv → Option Dv
  | .int i => some (.int (-i))
  | _ => none
theorem re_neg (ha : RE X tb W a fa) : RE X tb W (.UnaryOp .USub a pos) (sUn oNeg fa) := re_un un_neg (fun F ρ m H x v d Q o tx e k => by
  cases x <;> simp only [oNeg, Option.some.injEq, reduceCtorEq] at e
  subst e
  exact ⟨_, tx.int, k F H _ (.refl _ _) o (.int _)⟩) ha
end
end EvL
end

section
set_option Elab.async false
set_option linter.all false
set_option maxRecDepth 100000
set_option maxHeartbeats 2000000
/-! E3: tests, and/or, displays, subscripts, slices, ==, isinstance, built-ins -/
namespace EvL
open PySem PySem.Spec PyProof.Rows L2
section
variable {K : PySem.W.Frag} {tb : Tb} {W : WX} {X : Cx} {a b c : Expr} {fa fb fc : Sem1} {ga gb : SemB} {pos : Pos}

/-- one expression in a test -/
theorem tE_bindB {f : Sem1} {g : Sv → Store → Rs Bool} {F : Hp} {ρ : List Addr} {en : En} {m : Store} {σ : L2.St} {H : Hp} {Q : VK} {R : Bool → Hp → Prop} (he : EnvOk K tb F ρ en σ) (ho : Wo K tb F ρ m H) (h : PostB K tb W F ρ σ R ((f en m).bind g))
    (k : ∀ x m' F' ρ' H' v, Ext F ρ F' ρ' → EnvOk K tb F' ρ' en σ → Wo K tb F' ρ' m' H' → RepS K tb F' ρ' x v → PostB K tb W F' ρ' σ R (g x m') → Q v H') : tE K tb W f σ H Q := by
  refine tE_iff.mpr ⟨F, ρ, en, m, he, ho, ?_⟩
  cases e : f en m with
  | ok x m' =>
    rw [e] at h
    exact fun F' ρ' H' v ex o r => k x m' F' ρ' H' v ex (he.mono ex) o r (PostB.ext ex h)
  | ex x m' => rw [e] at h; exact h
  | no => rw [e] at h; exact h
theorem tB_bind {f : SemB} {g : Bool → Store → Rs Sv} {F : Hp} {ρ : List Addr} {en : En} {m : Store} {σ : L2.St} {H : Hp} {R : VK} {Q : Bool → Hp → Prop} (he : EnvOk K tb F ρ en σ) (ho : Wo K tb F ρ m H) (h : PostE K tb W F ρ σ R ((f en m).bind g))
    (k : ∀ x m' F' ρ' H', Ext F ρ F' ρ' → EnvOk K tb F' ρ' en σ → Wo K tb F' ρ' m' H' → PostE K tb W F' ρ' σ R (g x m') → Q x H') : EvL.tB K tb W f σ H Q := by
  refine ⟨F, ρ, en, m, he, ho, ?_⟩
  cases e : f en m with
  | ok x m' =>
    rw [e] at h
    exact fun F' ρ' H' ex o => k x m' F' ρ' H' ex (he.mono ex) o (PostE.ext ex h)
  | ex x m' => rw [e] at h; exact h
  | no => rw [e] at h; exact h
theorem tB_bindB {f : SemB} {g : Bool → Store → Rs Bool} {F : Hp} {ρ : List Addr} {en : En} {m : Store} {σ : L2.St} {H : Hp} {R : Bool → Hp → Prop} {Q : Bool → Hp → Prop} (he : EnvOk K tb F ρ en σ) (ho : Wo K tb F ρ m H) (h : PostB K tb W F ρ σ R ((f en m).bind g))
    (k : ∀ x m' F' ρ' H', Ext F ρ F' ρ' → EnvOk K tb F' ρ' en σ → Wo K tb F' ρ' m' H' → PostB K tb W F' ρ' σ R (g x m') → Q x H') : EvL.tB K tb W f σ H Q := by
  refine ⟨F, ρ, en, m, he, ho, ?_⟩
  cases e : f en m with
  | ok x m' =>
    rw [e] at h
    exact fun F' ρ' H' ex o => k x m' F' ρ' H' ex (he.mono ex) o (PostB.ext ex h)
  | ex x m' => rw [e] at h; exact h
  | no => rw [e] at h; exact h

/-! ### tests -/
def truth : Dv → Option Bool
  | .non => some false
  | .bl b => some b
  | .int i => some (i != 0)
  | .str x => if x.length ≤ sizeLine then some ((x.length : Int) != 0) else none
  | .tup xs => some (!xs.isEmpty)
  | .lst xs => some (!xs.isEmpty)
  | .dic xs => some (!xs.isEmpty)
  | .fn _ => none
  | .scr ns => some (!ns.isEmpty)
def sT (f : Sem1) : SemB := fun en m => (f en m).bind fun x m1 => match rv m1 x with
  | some d => (match truth d with | some k => .ok k m1 | none => .no)
  | none => .no
theorem isEmpty_len {α β : Type} {xs : List α} {ys : List β} (h : xs.length = ys.length) : xs.isEmpty = ys.isEmpty := by
  cases xs <;> cases ys <;> simp at h <;> rfl
theorem RepK.length {F : Hp} : ∀ {d : List (Key × Dv)} {v : List (Key × V)}, RepK K tb F d v → d.length = v.length
  | _, _, .nil => rfl
  | _, _, .cons _ r => by simp [RepK.length r]
theorem truth_ok {F H : Hp} {d : Dv} {v : V} {k : Bool} (l : Le F H) (t : Top K tb F H d v) (e : truth d = some k) : TruV K v H k := by
  cases t with
  | of r =>
    cases r with
    | non => cases e; rfl
    | bl b => cases e; rfl
    | int i => cases e; rfl
    | str x =>
      simp only [truth, Option.ite_none_right_eq_some, Option.some.injEq] at e
      exact ⟨e.1, e.2.symm⟩
    | tup h r => cases e; exact .inr (.inl ⟨_, l.sqt h, by rw [isEmpty_len r.length]⟩)
    | lst h r => cases e; exact .inl ⟨_, .inl (.inl (l _ _ h)), by rw [isEmpty_len r.length]⟩
    | dic h r => cases e; exact .inr (.inr ⟨_, l _ _ h, by rw [isEmpty_len r.length]⟩)
    | fn n _ => cases e
    | lam _ => cases e
    | @scr a ns h => cases e; exact .inl ⟨_, l.sql h, by rw [isEmpty_len (ys := ns.map V.int) (by simp)]⟩
  | lst h r => cases e; exact .inl ⟨_, .inl (.inl h), by rw [isEmpty_len r.length]⟩
  | dic h r => cases e; exact .inr (.inr ⟨_, h, by rw [isEmpty_len r.length]⟩)
/-- any expression but a comparison, and, or, not, by its truth -/
theorem rt_of (ha : RE X tb W a fa) (he : ∀ whole, isTrue a X.env whole = (do let v ← whole; standAt a.pos; holding [v] (truthy v)) := by intro _; rfl) : RT X tb W a (sT fa) := by
  refine PT.weak (pt_truth ha he) fun σ H Q h => ?_
  obtain ⟨F, ρ, en, m, he, ho, q⟩ := h
  refine tE_bindB he ho q fun x m1 F1 ρ1 H1 v e1 he1 ho1 r1 q1 => ?_
  split at q1
  · rename_i d hd
    split at q1
    · rename_i k hk
      exact ⟨k, truth_ok ho1.sub (rv_top ho1 r1 hd) hk, q1 F1 ρ1 H1 (.refl _ _) ho1⟩
    · exact q1.elim
  · exact q1.elim
theorem bool_of {d : Dv} {k : Bool} {F H : Hp} {x : V} (l : Le F H) (t : Top K tb F H d x) (e : truth d = some k) (hb : ∃ k', x = V.bl k') : x = V.bl k := by
  obtain ⟨k', rfl⟩ := hb
  have h := truth_ok l t e
  rw [show k = k' from h]
/-- a comparison -/
theorem rt_cmp {op : CmpOp} {r : R2} {sop : Dv → Dv → Option Dv} (ho : OpR X (compareOp op) r) (c : OpC X tb r sop) (hs : ∀ x y d, sop x y = some d → ∃ k, d = .bl k) (ha : RE X tb W a fa) (hb : RE X tb W b fb) (hm : behindInMarks op b = false) :
    RT X tb W (.Compare a [op] [b] pos) (sT (sBin sop fa fb)) := by
  refine PT.weak (pt_cmpR ho ha hb hm) fun σ H Q h => ?_
  obtain ⟨F, ρ, en, m, he, hw, q⟩ := h
  show tOp r _ _ σ H _
  refine sBin_run (W := W) c (tE_iff.mpr ⟨F, ρ, en, m, he, hw, ?_⟩)
  unfold sT at q
  cases e : sBin sop fa fb en m with
  | ok x m1 =>
    rw [e] at q
    intro F' ρ' H' v ex o rr
    have hd : ∃ k, x = .d (.bl k) := by
      unfold sBin at e
      cases e1 : fa en m with
      | ok y m2 =>
        rw [e1, Rs.bind_ok] at e
        cases e2 : fb en m2 with
        | ok z m3 =>
          rw [e2, Rs.bind_ok] at e
          split at e
          · split at e
            · rename_i d hd
              cases e
              obtain ⟨k, rfl⟩ := hs _ _ _ hd
              exact ⟨k, rfl⟩
            · cases e
          · cases e
        | ex z m3 => rw [e2] at e; cases e
        | no => rw [e2] at e; cases e
      | ex y m2 => rw [e1] at e; cases e
      | no => rw [e1] at e; cases e
    obtain ⟨k, rfl⟩ := hd
    cases rr with
    | d rr =>
      cases rr
      exact ⟨k, rfl, q F' ρ' H' ex o⟩
  | ex x m1 => rw [e] at q; exact q
  | no => rw [e] at q; exact q
theorem iop_bl {g : Int → Int → Bool} : ∀ x y d, iop (fun i j => .bl (g i j)) x y = some d → ∃ k, d = .bl k := by
  intro x y d h
  cases x <;> cases y <;> simp only [iop, Option.some.injEq, reduceCtorEq] at h
  exact ⟨_, h.symm⟩
theorem rt_lt (ha : RE X tb W a fa) (hb : RE X tb W b fb) : RT X tb W (.Compare a [.Lt] [b] pos) (sT (sBin oLt fa fb)) := rt_cmp op_lt (opC_i fun i j F => .bl _) iop_bl ha hb (nomark _)
theorem rt_le (ha : RE X tb W a fa) (hb : RE X tb W b fb) : RT X tb W (.Compare a [.LtE] [b] pos) (sT (sBin oLe fa fb)) := rt_cmp op_le (opC_i fun i j F => .bl _) iop_bl ha hb (nomark _)
theorem rt_gt (ha : RE X tb W a fa) (hb : RE X tb W b fb) : RT X tb W (.Compare a [.Gt] [b] pos) (sT (sBin oGt fa fb)) := rt_cmp op_gt (opC_i fun i j F => .bl _) iop_bl ha hb (nomark _)
theorem rt_ge (ha : RE X tb W a fa) (hb : RE X tb W b fb) : RT X tb W (.Compare a [.GtE] [b] pos) (sT (sBin oGe fa fb)) := rt_cmp op_ge (opC_i fun i j F => .bl _) iop_bl ha hb (nomark _)

def bAnd (f g : SemB) : SemB := fun en m => (f en m).bind fun k m1 => if k = true then g en m1 else .ok false m1
def bOr (f g : SemB) : SemB := fun en m => (f en m).bind fun k m1 => if k = true then .ok true m1 else g en m1
def bNot (f : SemB) : SemB := fun en m => (f en m).bind fun k m1 => .ok (!k) m1
/-- and, or in tests: a chain ends with rw_one -/
abbrev RW (X : Cx) (tb : Tb) (W : WX) (e : Expr) (f : SemB) : Prop := PW X e (EvL.tB X.K tb W f)
theorem PW.weak {e : Expr} {t t' : TT} (h : PW X e t) (w : ∀ σ H Q, t' σ H Q → t σ H Q) : PW X e t' := ⟨fun wh pins s σ H Q I q => h.run wh pins s σ H Q I (w _ _ _ q)⟩
theorem rw_and1 (ha : RT X tb W a ga) : RW X tb W (.BoolOp .And [a] pos) ga := pw_and1 ha
theorem rw_or1 (ha : RT X tb W a ga) : RW X tb W (.BoolOp .Or [a] pos) ga := pw_or1 ha
theorem rw_and {rest : List Expr} (ha : RT X tb W a ga) (hb : RW X tb W (.BoolOp .And (b :: rest) pos) gb) : RW X tb W (.BoolOp .And (a :: b :: rest) pos) (bAnd ga gb) := by
  refine PW.weak (pw_and ha hb) fun σ H Q h => ?_
  obtain ⟨F, ρ, en, m, he, ho, q⟩ := h
  refine tB_bindB he ho q fun k m1 F1 ρ1 H1 e1 he1 ho1 q1 => ?_
  cases k with
  | true =>
    rw [if_pos rfl] at q1 ⊢
    exact ⟨F1, ρ1, en, m1, he1, ho1, q1⟩
  | false =>
    rw [if_neg Bool.false_ne_true] at q1 ⊢
    exact q1 F1 ρ1 H1 (.refl _ _) ho1
theorem rw_or {rest : List Expr} (ha : RT X tb W a ga) (hb : RW X tb W (.BoolOp .Or (b :: rest) pos) gb) : RW X tb W (.BoolOp .Or (a :: b :: rest) pos) (bOr ga gb) := by
  refine PW.weak (pw_or ha hb) fun σ H Q h => ?_
  obtain ⟨F, ρ, en, m, he, ho, q⟩ := h
  refine tB_bindB he ho q fun k m1 F1 ρ1 H1 e1 he1 ho1 q1 => ?_
  cases k with
  | true =>
    rw [if_pos rfl] at q1 ⊢
    exact q1 F1 ρ1 H1 (.refl _ _) ho1
  | false =>
    rw [if_neg Bool.false_ne_true] at q1 ⊢
    exact ⟨F1, ρ1, en, m1, he1, ho1, q1⟩
theorem rt_w {e : Expr} (h : RW X tb W e ga) : RT X tb W e ga := h.pt
theorem rt_not (ha : RT X tb W a ga) : RT X tb W (.UnaryOp .Not a pos) (bNot ga) := by
  refine PT.weak (pt_not ha) fun σ H Q h => ?_
  obtain ⟨F, ρ, en, m, he, ho, q⟩ := h
  exact tB_bindB he ho q fun k m1 F1 ρ1 H1 e1 he1 ho1 q1 => q1 F1 ρ1 H1 (.refl _ _) ho1

/-! ### the same as values: all but the last a bool -/
def isB : Option Dv → Option Bool
  | some (.bl k) => some k
  | _ => none
def sAnd (f g : Sem1) : Sem1 := fun en m => (f en m).bind fun x m1 => match isB (rv m1 x) with
  | some true => g en m1
  | some false => .ok (.d (.bl false)) m1
  | none => .no
def sOr (f g : Sem1) : Sem1 := fun en m => (f en m).bind fun x m1 => match isB (rv m1 x) with
  | some true => .ok (.d (.bl true)) m1
  | some false => g en m1
  | none => .no
def sNot (f : Sem1) : Sem1 := fun en m => (f en m).bind fun x m1 => match isB (rv m1 x) with
  | some k => .ok (.d (.bl (!k))) m1
  | none => .no
theorem isB_v {F : Hp} {ρ : List Addr} {m : Store} {H : Hp} {x : Sv} {v : V} {k : Bool} (o : Wo K tb F ρ m H) (r : RepS K tb F ρ x v) (e : isB (rv m x) = some k) : v = .bl k := by
  cases e1 : rv m x with
  | none => rw [e1] at e; cases e
  | some d =>
    rw [e1] at e
    cases d <;> simp only [isB, Option.some.injEq, reduceCtorEq] at e
    subst e
    exact (rv_top o r e1).bl
theorem re_one {op} (ha : RE X tb W a fa) : RE X tb W (.BoolOp op [a] pos) fa := pe_one ha
theorem re_and {rest : List Expr} (ha : RE X tb W a fa) (hb : RE X tb W (.BoolOp .And (b :: rest) pos) fb) : RE X tb W (.BoolOp .And (a :: b :: rest) pos) (sAnd fa fb) := by
  refine PE.weak (pe_and ha hb) fun σ H Q h => ?_
  obtain ⟨F, ρ, en, m, he, ho, q⟩ := tE_iff.mp h
  refine tE_bind he ho q fun x m1 F1 ρ1 H1 v e1 he1 ho1 r1 q1 => ?_
  cases ek : isB (rv m1 x) with
  | none => rw [ek] at q1; exact q1.elim
  | some k =>
    rw [ek] at q1
    refine ⟨k, isB_v ho1 r1 ek, ?_⟩
    cases k with
    | true => rw [if_pos rfl]; exact tE_iff.mpr ⟨F1, ρ1, en, m1, he1, ho1, q1⟩
    | false => rw [if_neg Bool.false_ne_true]; exact q1 F1 ρ1 H1 _ (.refl _ _) ho1 (.d (.bl false))
theorem re_or {rest : List Expr} (ha : RE X tb W a fa) (hb : RE X tb W (.BoolOp .Or (b :: rest) pos) fb) : RE X tb W (.BoolOp .Or (a :: b :: rest) pos) (sOr fa fb) := by
  refine PE.weak (pe_or ha hb) fun σ H Q h => ?_
  obtain ⟨F, ρ, en, m, he, ho, q⟩ := tE_iff.mp h
  refine tE_bind he ho q fun x m1 F1 ρ1 H1 v e1 he1 ho1 r1 q1 => ?_
  cases ek : isB (rv m1 x) with
  | none => rw [ek] at q1; exact q1.elim
  | some k =>
    rw [ek] at q1
    refine ⟨k, isB_v ho1 r1 ek, ?_⟩
    cases k with
    | true => rw [if_pos rfl]; exact q1 F1 ρ1 H1 _ (.refl _ _) ho1 (.d (.bl true))
    | false => rw [if_neg Bool.false_ne_true]; exact tE_iff.mpr ⟨F1, ρ1, en, m1, he1, ho1, q1⟩
theorem re_not (ha : RE X tb W a fa) : RE X tb W (.UnaryOp .Not a pos) (sNot fa) := by
  refine PE.weak (pe_not ha) fun σ H Q h => ?_
  obtain ⟨F, ρ, en, m, he, ho, q⟩ := tE_iff.mp h
  refine tE_bind he ho q fun x m1 F1 ρ1 H1 v e1 he1 ho1 r1 q1 => ?_
  cases ek : isB (rv m1 x) with
  | none => rw [ek] at q1; exact q1.elim
  | some k =>
    rw [ek] at q1
    exact ⟨k, isB_v ho1 r1 ek, q1 F1 ρ1 H1 _ (.refl _ _) ho1 (.d (.bl _))⟩
def sIf (g : SemB) (f h : Sem1) : Sem1 := fun en m => (g en m).bind fun k m1 => if k = true then f en m1 else h en m1
theorem re_if (hc : RT X tb W c ga) (ha : RE X tb W a fa) (hb : RE X tb W b fb) : RE X tb W (.IfExp c a b pos) (sIf ga fa fb) := by
  refine PE.weak (pe_ifExp hc ha hb) fun σ H Q h => ?_
  obtain ⟨F, ρ, en, m, he, ho, q⟩ := tE_iff.mp h
  refine tB_bind he ho q fun k m1 F1 ρ1 H1 e1 he1 ho1 q1 => ?_
  cases k with
  | true => rw [if_pos rfl] at q1 ⊢; exact tE_iff.mpr ⟨F1, ρ1, en, m1, he1, ho1, q1⟩
  | false => rw [if_neg Bool.false_ne_true] at q1 ⊢; exact tE_iff.mpr ⟨F1, ρ1, en, m1, he1, ho1, q1⟩
/-- a op b op' c -/
def sChain (o1 o2 : Dv → Dv → Option Dv) (f g h : Sem1) : Sem1 := fun en m => (f en m).bind fun x m1 => (g en m1).bind fun y m2 => match rv m2 x, rv m2 y with
  | some a, some b => (match isB (o1 a b) with
    | some true => (h en m2).bind fun z m3 => match rv m3 y, rv m3 z with
      | some b', some c => (match o2 b' c with | some d => .ok (.d d) m3 | none => .no)
      | _, _ => .no
    | some false => .ok (.d (.bl false)) m2
    | none => .no)
  | _, _ => .no
theorem sChain_run {r r' : R2} {o1 o2 : Dv → Dv → Option Dv} (c1 : OpC X tb r o1) (c2 : OpC X tb r' o2) {σ : L2.St} {H : Hp} {Q : VK} (h : tE X.K tb W (sChain o1 o2 fa fb fc) σ H Q) : tChain r r' (tE X.K tb W fa) (tE X.K tb W fb) (tE X.K tb W fc) σ H Q := by
  obtain ⟨F, ρ, en, m, he, ho, q⟩ := tE_iff.mp h
  refine tE_bind he ho q fun x m1 F1 ρ1 H1 v e1 he1 ho1 r1 q1 => ?_
  refine tE_bind he1 ho1 q1 fun y m2 F2 ρ2 H2 u e2 he2 ho2 r2 q2 => ?_
  split at q2
  · rename_i a b ha hb
    cases ek : isB (o1 a b) with
    | none => rw [ek] at q2; exact q2.elim
    | some k =>
      rw [ek] at q2
      have eo : o1 a b = some (.bl k) := by
        cases e5 : o1 a b with
        | none => rw [e5] at ek; cases ek
        | some d =>
          rw [e5] at ek
          cases d <;> simp only [isB, Option.some.injEq, reduceCtorEq] at ek
          rw [ek]
      refine c1 F2 ρ2 m2 H2 a b v u (.bl k) _ ho2 (rv_top ho2 (r1.mono e2) ha) (rv_top ho2 r2 hb) eo fun F3 H3 z ex3 o3 rz => ?_
      cases rz
      refine ⟨k, rfl, ?_⟩
      cases k with
      | false => rw [if_neg Bool.false_ne_true]; exact q2 F3 ρ2 H3 _ ex3 o3 (.d (.bl false))
      | true =>
        rw [if_pos rfl]
        refine tE_bind (he2.mono ex3) o3 (PostE.ext ex3 q2) fun z m4 F4 ρ4 H4 w4 e4 he4 ho4 r4 q4 => ?_
        split at q4
        · rename_i b' c' hb' hc'
          split at q4
          · rename_i d hd
            exact c2 F4 ρ4 m4 H4 b' c' u w4 d Q ho4 (rv_top ho4 (r2.mono (ex3.trans e4)) hb') (rv_top ho4 r4 hc') hd fun F' H' z ex o' rz => q4 F' ρ4 H' z ex o' (.d rz)
          · exact q4.elim
        · exact q4.elim
  · exact q2.elim
theorem re_chain {op op' : CmpOp} {r r' : R2} {o1 o2 : Dv → Dv → Option Dv} (h1 : OpR X (compareOp op) r) (c1 : OpC X tb r o1) (h2 : OpR X (compareOp op') r') (c2 : OpC X tb r' o2) (ha : RE X tb W a fa) (hb : RE X tb W b fb) (hc : RE X tb W c fc)
    (hm : lastMarks [op, op'] [b, c] = false := by with_unfolding_all rfl) : RE X tb W (.Compare a [op, op'] [b, c] pos) (sChain o1 o2 fa fb fc) :=
  PE.weak (pe_chain h1 h2 ha hb hc hm) fun σ H Q q => sChain_run c1 c2 q
theorem re_lele (ha : RE X tb W a fa) (hb : RE X tb W b fb) (hc : RE X tb W c fc) (hm : lastMarks [.LtE, .LtE] [b, c] = false := by with_unfolding_all rfl) : RE X tb W (.Compare a [.LtE, .LtE] [b, c] pos) (sChain oLe oLe fa fb fc) :=
  re_chain op_le (opC_i fun i j F => .bl _) op_le (opC_i fun i j F => .bl _) ha hb hc hm
/-- a chain in a test -/
theorem rt_chain {op op' : CmpOp} {r r' : R2} {o1 o2 : Dv → Dv → Option Dv} (h1 : OpR X (compareOp op) r) (c1 : OpC X tb r o1) (h2 : OpR X (compareOp op') r') (c2 : OpC X tb r' o2) (hs : ∀ x y d, o2 x y = some d → ∃ k, d = .bl k) (ha : RE X tb W a fa) (hb : RE X tb W b fb) (hc : RE X tb W c fc)
    (hm : lastMarks [op, op'] [b, c] = false := by with_unfolding_all rfl) : RT X tb W (.Compare a [op, op'] [b, c] pos) (sT (sChain o1 o2 fa fb fc)) := by
  refine PT.weak (pt_chain h1 h2 ha hb hc hm) fun σ H Q h => ?_
  obtain ⟨F, ρ, en, m, he, hw, q⟩ := h
  show tChain r r' _ _ _ σ H _
  refine sChain_run (W := W) c1 c2 (tE_iff.mpr ⟨F, ρ, en, m, he, hw, ?_⟩)
  unfold sT at q
  cases e : sChain o1 o2 fa fb fc en m with
  | ok x m1 =>
    rw [e] at q
    intro F' ρ' H' v ex o rr
    have hd : ∃ k, x = .d (.bl k) := by
      unfold sChain at e
      cases e1 : fa en m with
      | ok y m2 =>
        rw [e1, Rs.bind_ok] at e
        cases e2 : fb en m2 with
        | ok z m3 =>
          rw [e2, Rs.bind_ok] at e
          split at e
          · split at e
            · cases e3 : fc en m3 with
              | ok z4 m4 =>
                rw [e3, Rs.bind_ok] at e
                split at e
                · split at e
                  · rename_i d hd
                    cases e
                    obtain ⟨k, rfl⟩ := hs _ _ _ hd
                    exact ⟨k, rfl⟩
                  · cases e
                · cases e
              | ex z4 m4 => rw [e3] at e; cases e
              | no => rw [e3] at e; cases e
            · cases e; exact ⟨false, rfl⟩
            · cases e
          · cases e
        | ex z m3 => rw [e2] at e; cases e
        | no => rw [e2] at e; cases e
      | ex y m2 => rw [e1] at e; cases e
      | no => rw [e1] at e; cases e
    obtain ⟨k, rfl⟩ := hd
    cases rr with
    | d rr =>
      cases rr
      exact ⟨k, rfl, q F' ρ' H' ex o⟩
  | ex x m1 => rw [e] at q; exact q
  | no => rw [e] at q; exact q
theorem rt_lele (ha : RE X tb W a fa) (hb : RE X tb W b fb) (hc : RE X tb W c fc) (hm : lastMarks [.LtE, .LtE] [b, c] = false := by with_unfolding_all rfl) : RT X tb W (.Compare a [.LtE, .LtE] [b, c] pos) (sT (sChain oLe oLe fa fb fc)) :=
  rt_chain op_le (opC_i fun i j F => .bl _) op_le (opC_i fun i j F => .bl _) iop_bl ha hb hc hm
/-- is None -/
def oIsN : Dv → Dv → Option Dv
  | .non, .non => some (.bl true)
  | .lst _, .non | .tup _, .non | .dic _, .non | .fn _, .non | .scr _, .non | .int _, .non | .bl _, .non | .str _, .non => some (.bl false)
  | _, _ => none
def oNotN : Dv → Dv → Option Dv
  | .non, .non => some (.bl false)
  | .lst _, .non | .tup _, .non | .dic _, .non | .fn _, .non | .scr _, .non | .int _, .non | .bl _, .non | .str _, .non => some (.bl true)
  | _, _ => none
theorem top_notN {F H : Hp} {d : Dv} {v : V} (t : Top K tb F H d v) : decide (v = .non) = (match d with | .non => true | _ => false) := by
  cases t with
  | of r => cases r <;> simp
  | lst h r => simp
  | dic h r => simp
theorem opC_isN : OpC X tb (fun x y H Q => y = .non ∧ Q (.bl (decide (x = .non))) H) oIsN := by
  intro F ρ m H x y v u d Q o tx ty e k
  cases y <;> first | (cases x <;> cases e; done) | skip
  refine ⟨ty.non, ?_⟩
  rw [top_notN tx]
  cases x <;> simp only [oIsN, Option.some.injEq] at e <;> subst e <;> exact k F H _ (.refl _ _) o (.bl _)
theorem opC_notN : OpC X tb (fun x y H Q => y = .non ∧ Q (.bl (!decide (x = .non))) H) oNotN := by
  intro F ρ m H x y v u d Q o tx ty e k
  cases y <;> first | (cases x <;> cases e; done) | skip
  refine ⟨ty.non, ?_⟩
  rw [top_notN tx]
  cases x <;> simp only [oNotN, Option.some.injEq] at e <;> subst e <;> exact k F H _ (.refl _ _) o (.bl _)
theorem oIsN_bl : ∀ x y d, oIsN x y = some d → ∃ k, d = .bl k := by
  intro x y d h
  cases y <;> cases x <;> simp only [oIsN, Option.some.injEq, reduceCtorEq] at h <;> exact ⟨_, h.symm⟩
theorem oNotN_bl : ∀ x y d, oNotN x y = some d → ∃ k, d = .bl k := by
  intro x y d h
  cases y <;> cases x <;> simp only [oNotN, Option.some.injEq, reduceCtorEq] at h <;> exact ⟨_, h.symm⟩
theorem re_isN (ha : RE X tb W a fa) (hb : RE X tb W b fb) : RE X tb W (.Compare a [.Is] [b] pos) (sBin oIsN fa fb) := re_cmp op_isN opC_isN ha hb (nomark _)
theorem re_notN (ha : RE X tb W a fa) (hb : RE X tb W b fb) : RE X tb W (.Compare a [.IsNot] [b] pos) (sBin oNotN fa fb) := re_cmp op_notN opC_notN ha hb (nomark _)
theorem rt_isN (ha : RE X tb W a fa) (hb : RE X tb W b fb) : RT X tb W (.Compare a [.Is] [b] pos) (sT (sBin oIsN fa fb)) := rt_cmp op_isN opC_isN oIsN_bl ha hb (nomark _)
theorem rt_notN (ha : RE X tb W a fa) (hb : RE X tb W b fb) : RT X tb W (.Compare a [.IsNot] [b] pos) (sT (sBin oNotN fa fb)) := rt_cmp op_notN opC_notN oNotN_bl ha hb (nomark _)
end
end EvL
end

section
set_option Elab.async false
set_option linter.all false
set_option maxRecDepth 100000
set_option maxHeartbeats 2000000
/-! E4: displays, fresh lists, subscripts, slices, sums of sequences, ==, isinstance, built-ins, calls -/
namespace EvL
open PySem PySem.Spec PyProof.Rows L2
section
variable {K : PySem.W.Frag} {tb : Tb} {W : WX} {X : Cx} {a b c e : Expr} {es : List Expr} {fa fb fc : Sem1} {fl : SemL} {ga gb : SemB} {pos : Pos}

/-! ### argument lists -/
def lNil : SemL := fun _ m => .ok [] m
def lCons (f : Sem1) (g : SemL) : SemL := fun en m => (f en m).bind fun x m1 => (g en m1).bind fun xs m2 => .ok (x :: xs) m2
theorem tE_bindL {f : Sem1} {g : Sv → Store → Rs (List Sv)} {F : Hp} {ρ : List Addr} {en : En} {m : Store} {σ : L2.St} {H : Hp} {Q : VK} {R : List V → Hp → Prop} (he : EnvOk K tb F ρ en σ) (ho : Wo K tb F ρ m H) (h : PostL K tb W F ρ σ R ((f en m).bind g))
    (k : ∀ x m' F' ρ' H' v, Ext F ρ F' ρ' → EnvOk K tb F' ρ' en σ → Wo K tb F' ρ' m' H' → RepS K tb F' ρ' x v → PostL K tb W F' ρ' σ R (g x m') → Q v H') : tE K tb W f σ H Q := by
  refine tE_iff.mpr ⟨F, ρ, en, m, he, ho, ?_⟩
  cases e : f en m with
  | ok x m' =>
    rw [e] at h
    exact fun F' ρ' H' v ex o r => k x m' F' ρ' H' v ex (he.mono ex) o r (PostL.ext ex h)
  | ex x m' => rw [e] at h; exact h
  | no => rw [e] at h; exact h
theorem tEL_bindL {f : SemL} {g : List Sv → Store → Rs (List Sv)} {F : Hp} {ρ : List Addr} {en : En} {m : Store} {σ : L2.St} {H : Hp} {Q R : List V → Hp → Prop} (he : EnvOk K tb F ρ en σ) (ho : Wo K tb F ρ m H) (h : PostL K tb W F ρ σ R ((f en m).bind g))
    (k : ∀ x m' F' ρ' H' v, Ext F ρ F' ρ' → EnvOk K tb F' ρ' en σ → Wo K tb F' ρ' m' H' → RepSL K tb F' ρ' x v → PostL K tb W F' ρ' σ R (g x m') → Q v H') : tEL K tb W f σ H Q := by
  refine tEL_iff.mpr ⟨F, ρ, en, m, he, ho, ?_⟩
  cases e : f en m with
  | ok x m' =>
    rw [e] at h
    exact fun F' ρ' H' v ex o r => k x m' F' ρ' H' v ex (he.mono ex) o r (PostL.ext ex h)
  | ex x m' => rw [e] at h; exact h
  | no => rw [e] at h; exact h
theorem tEL_bind {f : SemL} {g : List Sv → Store → Rs Sv} {F : Hp} {ρ : List Addr} {en : En} {m : Store} {σ : L2.St} {H : Hp} {Q : List V → Hp → Prop} {R : VK} (he : EnvOk K tb F ρ en σ) (ho : Wo K tb F ρ m H) (h : PostE K tb W F ρ σ R ((f en m).bind g))
    (k : ∀ x m' F' ρ' H' v, Ext F ρ F' ρ' → EnvOk K tb F' ρ' en σ → Wo K tb F' ρ' m' H' → RepSL K tb F' ρ' x v → PostE K tb W F' ρ' σ R (g x m') → Q v H') : tEL K tb W f σ H Q := by
  refine tEL_iff.mpr ⟨F, ρ, en, m, he, ho, ?_⟩
  cases e : f en m with
  | ok x m' =>
    rw [e] at h
    exact fun F' ρ' H' v ex o r => k x m' F' ρ' H' v ex (he.mono ex) o r (PostE.ext ex h)
  | ex x m' => rw [e] at h; exact h
  | no => rw [e] at h; exact h
theorem ra_nil : RA X tb W [] lNil := by
  refine PA.weak pa_nil fun σ H Q q => ?_
  obtain ⟨F, ρ, en, m, he, ho, q⟩ := tEL_iff.mp q
  exact q F ρ H [] (.refl _ _) ho .nil
theorem ra_cons (ha : RE X tb W e fa) (hr : RA X tb W es fl) (hs : starEach (e :: es) X.env = (false, eval e X.env) :: starEach es X.env := by rfl) : RA X tb W (e :: es) (lCons fa fl) := by
  refine PA.weak (pa_cons ha hr hs) fun σ H Q q => ?_
  obtain ⟨F, ρ, en, m, he, ho, q⟩ := tEL_iff.mp q
  refine tE_bindL he ho q fun x m1 F1 ρ1 H1 v e1 he1 ho1 r1 q1 => ?_
  refine tEL_bindL he1 ho1 q1 fun xs m2 F2 ρ2 H2 vs e2 he2 ho2 r2 q2 => ?_
  exact q2 F2 ρ2 H2 (v :: vs) (.refl _ _) ho2 (.cons (r1.mono e2) r2)

/-! ### what goes into data stands still from then on -/
def frz (m : Store) : Sv → Option (Dv × Store)
  | .d x => some (x, m)
  | .c => none
  | .o i => match m[i]? with
    | some (.lst xs) => some (.lst xs, m.set i .gone)
    | some (.dic xs) => some (.dic xs, m.set i .gone)
    | _ => none
theorem get_nodup {ρ : List Addr} (nd : ρ.Nodup) {i j : Nat} {a b : Addr} (h1 : ρ[i]? = some a) (h2 : ρ[j]? = some b) (ne : i ≠ j) : a ≠ b := by
  intro e
  subst e
  obtain ⟨hi, e1⟩ := List.getElem?_eq_some_iff.mp h1
  obtain ⟨hj, e2⟩ := List.getElem?_eq_some_iff.mp h2
  rcases Nat.lt_or_gt_of_ne ne with h | h
  · exact List.pairwise_iff_getElem.mp nd i j hi hj h (e1.trans e2.symm)
  · exact List.pairwise_iff_getElem.mp nd j i hj hi h (e2.trans e1.symm)
theorem Wo.gone {F : Hp} {ρ : List Addr} {m : Store} {H : Hp} {i : Nat} {a : Addr} {u : HO} (o : Wo K tb F ρ m H) (ha : ρ[i]? = some a) (hF : F a = none) (hu : H a = some u) (hv : ∀ ps, u ≠ .tbl ps := by intro _ h; cases h) : Wo K tb (upd F a u) ρ (m.set i .gone) H ∧ Ext F ρ (upd F a u) ρ := by
  have le : Le F (upd F a u) := fun b x e => by rw [upd_ne (ne_of_none e hF)]; exact e
  refine ⟨⟨fun b x e => ?_, by rw [List.length_set]; exact o.len, o.nd, fun j b xs h1 h2 => ?_, fun j b xs h1 h2 => ?_, o.has, o.hp, fun b ps e => if h : b = a then hv ps (by subst h; rw [upd_same] at e; exact Option.some.inj e) else o.nt b ps (by rw [upd_ne h] at e; exact e)⟩, le, List.prefix_refl _⟩
  · by_cases h : b = a
    · subst h; rw [upd_same] at e; cases e; exact hu
    · rw [upd_ne h] at e; exact o.sub b x e
  · by_cases h : i = j
    · subst h
      by_cases hl : i < m.length
      · rw [List.getElem?_set_self hl] at h2; cases h2
      · rw [List.getElem?_eq_none (by simpa using hl)] at h2; cases h2
    · rw [List.getElem?_set_ne h] at h2
      obtain ⟨q1, vs, q2, q3⟩ := o.lst j b xs h1 h2
      exact ⟨by rw [upd_ne (get_nodup o.nd h1 ha (Ne.symm h))]; exact q1, vs, q2, q3.mono le⟩
  · by_cases h : i = j
    · subst h
      by_cases hl : i < m.length
      · rw [List.getElem?_set_self hl] at h2; cases h2
      · rw [List.getElem?_eq_none (by simpa using hl)] at h2; cases h2
    · rw [List.getElem?_set_ne h] at h2
      obtain ⟨q1, vs, q2, q3⟩ := o.dic j b xs h1 h2
      exact ⟨by rw [upd_ne (get_nodup o.nd h1 ha (Ne.symm h))]; exact q1, vs, q2, q3.mono le⟩
theorem frz_ok {F : Hp} {ρ : List Addr} {m m' : Store} {H : Hp} {x : Sv} {v : V} {d : Dv} (o : Wo K tb F ρ m H) (r : RepS K tb F ρ x v) (e : frz m x = some (d, m')) : ∃ F', Ext F ρ F' ρ ∧ Wo K tb F' ρ m' H ∧ Rep K tb F' d v := by
  cases r with
  | d r =>
    simp only [frz, Option.some.injEq, Prod.mk.injEq] at e
    obtain ⟨rfl, rfl⟩ := e
    exact ⟨F, .refl _ _, o, r⟩
  | @o i a r =>
    unfold frz at e
    dsimp only at e
    split at e
    · rename_i xs hx
      simp only [Option.some.injEq, Prod.mk.injEq] at e
      obtain ⟨rfl, rfl⟩ := e
      obtain ⟨q1, vs, q2, q3⟩ := o.lst i a xs r hx
      obtain ⟨o', ex⟩ := o.gone r q1 q2
      exact ⟨_, ex, o', .lst upd_same (q3.mono ex.le)⟩
    · rename_i xs hx
      simp only [Option.some.injEq, Prod.mk.injEq] at e
      obtain ⟨rfl, rfl⟩ := e
      obtain ⟨q1, vs, q2, q3⟩ := o.dic i a xs r hx
      obtain ⟨o', ex⟩ := o.gone r q1 q2
      exact ⟨_, ex, o', .dic upd_same (q3.mono ex.le)⟩
    · cases e
  | c _ => cases e
def frzL (m : Store) : List Sv → Option (List Dv × Store)
  | [] => some ([], m)
  | x :: xs => match frz m x with
    | some (d, m1) => (match frzL m1 xs with | some (ds, m2) => some (d :: ds, m2) | none => none)
    | none => none
theorem frzL_ok : ∀ {xs : List Sv} {F : Hp} {ρ : List Addr} {m m' : Store} {H : Hp} {vs : List V} {ds : List Dv}, Wo K tb F ρ m H → RepSL K tb F ρ xs vs → frzL m xs = some (ds, m') → ∃ F', Ext F ρ F' ρ ∧ Wo K tb F' ρ m' H ∧ RepL K tb F' ds vs
  | [], F, ρ, m, m', H, vs, ds, o, r, e => by
    cases r
    simp only [frzL, Option.some.injEq, Prod.mk.injEq] at e
    obtain ⟨rfl, rfl⟩ := e
    exact ⟨F, .refl _ _, o, .nil⟩
  | x :: xs, F, ρ, m, m', H, vs, ds, o, r, e => by
    cases r with
    | cons r rs =>
      unfold frzL at e
      split at e
      · rename_i d m1 h1
        split at e
        · rename_i ds' m2 h2
          simp only [Option.some.injEq, Prod.mk.injEq] at e
          obtain ⟨rfl, rfl⟩ := e
          obtain ⟨F1, e1, o1, r1⟩ := frz_ok o r h1
          obtain ⟨F2, e2, o2, r2⟩ := frzL_ok o1 (rs.mono e1) h2
          exact ⟨F2, e1.trans e2, o2, .cons (r1.mono e2.le) r2⟩
        · cases e
      · cases e
theorem RepSL.length' {F : Hp} {ρ : List Addr} {d : List Sv} {v : List V} (h : RepSL K tb F ρ d v) : v.length = d.length := h.length.symm
theorem frzL_len : ∀ {xs : List Sv} {m m' : Store} {ds : List Dv}, frzL m xs = some (ds, m') → ds.length = xs.length
  | [], m, m', ds, e => by
    simp only [frzL, Option.some.injEq, Prod.mk.injEq] at e
    obtain ⟨rfl, _⟩ := e
    rfl
  | x :: xs, m, m', ds, e => by
    unfold frzL at e
    split at e
    · split at e
      · rename_i h2
        simp only [Option.some.injEq, Prod.mk.injEq] at e
        obtain ⟨rfl, _⟩ := e
        simp [frzL_len h2]
      · cases e
    · cases e
def fits (n : Nat) : Bool := decide (n ≤ 16777216)
theorem fits_ok {n : Nat} (h : fits n = true) : n ≤ sizeLine := by
  rw [sizeLine_eq]; exact of_decide_eq_true h
def sTup (f : SemL) : Sem1 := fun en m => (f en m).bind fun xs m1 => match frzL m1 xs with
  | some (ds, m2) => if fits ds.length then .ok (.d (.tup ds)) m2 else .no
  | none => .no
theorem re_tup {x1} (h : RA X tb W es fl) : RE X tb W (.Tuple es x1 pos) (sTup fl) := by
  refine PE.weak (pe_tup h) fun σ H Q q => ?_
  obtain ⟨F, ρ, en, m, he, ho, q⟩ := tE_iff.mp q
  refine tEL_bind he ho q fun xs m1 F1 ρ1 H1 vs e1 he1 ho1 r1 q1 => ?_
  split at q1
  · rename_i ds m2 hd
    split at q1
    · rename_i hz
      obtain ⟨F2, e2, o2, r2⟩ := frzL_ok ho1 r1 hd
      refine ⟨by rw [← r2.length]; exact fits_ok hz, fun p hp => ?_⟩
      obtain ⟨o3, e3⟩ := o2.alloc hp (.tup vs)
      exact q1 _ ρ1 _ _ (e2.trans e3) o3 (.d (.tup (.inl (.inl upd_same)) (r2.mono e3.le)))
    · exact q1.elim
  · exact q1.elim

/-! ### fresh lists: from the list itself to data, or to a thing of the store -/
abbrev SemF := En → Store → Rs (List Dv)
def PostF (K : PySem.W.Frag) (tb : Tb) (W : WX) (F : Hp) (ρ : List Addr) (σ : L2.St) (Q : VK) : Rs (List Dv) → Prop
  | .ok xs m' => ∀ F' ρ' H' p vs, Ext F ρ F' ρ' → Wo K tb F' ρ' m' H' → H' p = none → RepL K tb F' xs vs → Q (.ref p) (upd H' p (.lst vs))
  | .ex x m' => ∀ F' ρ' H' c d, Ext F ρ F' ρ' → Wo K tb F' ρ' m' H' → XRep K tb F' x c d → W c d σ H'
  | .no => False
def tF (K : PySem.W.Frag) (tb : Tb) (W : WX) (f : SemF) : TE := fun σ H Q => ∃ F ρ en m, EnvOk K tb F ρ en σ ∧ Wo K tb F ρ m H ∧ PostF K tb W F ρ σ Q (f en m)
abbrev RF (X : Cx) (tb : Tb) (W : WX) (e : Expr) (f : SemF) : Prop := PE X e (tF X.K tb W f)
theorem PostF.ext {F F' : Hp} {ρ ρ' : List Addr} {σ : L2.St} {R : VK} (ex : Ext F ρ F' ρ') {r : Rs (List Dv)} (h : PostF K tb W F ρ σ R r) : PostF K tb W F' ρ' σ R r := by
  cases r with
  | ok y m2 => exact fun F2 ρ2 H2 p v2 x2 => h F2 ρ2 H2 p v2 (ex.trans x2)
  | ex y m2 => exact fun F2 ρ2 H2 c d x2 => h F2 ρ2 H2 c d (ex.trans x2)
  | no => exact h
def sF (f : SemF) : Sem1 := fun en m => (f en m).bind fun xs m1 => .ok (.d (.lst xs)) m1
theorem re_f {f : SemF} (h : RF X tb W e f) : RE X tb W e (sF f) := by
  refine PE.weak h fun σ H Q q => ?_
  obtain ⟨F, ρ, en, m, he, ho, q⟩ := tE_iff.mp q
  refine ⟨F, ρ, en, m, he, ho, ?_⟩
  unfold sF at q
  cases ee : f en m with
  | ok xs m1 =>
    rw [ee] at q
    intro F' ρ' H' p vs ex o hp r
    obtain ⟨o3, e3⟩ := o.alloc hp (.lst vs)
    exact q _ ρ' _ _ (ex.trans e3) o3 (.d (.lst upd_same (r.mono e3.le)))
  | ex x m1 => rw [ee] at q; exact q
  | no => rw [ee] at q; exact q
theorem tEL_bindF {f : SemL} {g : List Sv → Store → Rs (List Dv)} {F : Hp} {ρ : List Addr} {en : En} {m : Store} {σ : L2.St} {H : Hp} {Q : List V → Hp → Prop} {R : VK} (he : EnvOk K tb F ρ en σ) (ho : Wo K tb F ρ m H) (h : PostF K tb W F ρ σ R ((f en m).bind g))
    (k : ∀ x m' F' ρ' H' v, Ext F ρ F' ρ' → EnvOk K tb F' ρ' en σ → Wo K tb F' ρ' m' H' → RepSL K tb F' ρ' x v → PostF K tb W F' ρ' σ R (g x m') → Q v H') : tEL K tb W f σ H Q := by
  refine tEL_iff.mpr ⟨F, ρ, en, m, he, ho, ?_⟩
  cases e : f en m with
  | ok x m' =>
    rw [e] at h
    exact fun F' ρ' H' v ex o r => k x m' F' ρ' H' v ex (he.mono ex) o r (PostF.ext ex h)
  | ex x m' => rw [e] at h; exact h
  | no => rw [e] at h; exact h
theorem tE_bindF {f : Sem1} {g : Sv → Store → Rs (List Dv)} {F : Hp} {ρ : List Addr} {en : En} {m : Store} {σ : L2.St} {H : Hp} {Q R : VK} (he : EnvOk K tb F ρ en σ) (ho : Wo K tb F ρ m H) (h : PostF K tb W F ρ σ R ((f en m).bind g))
    (k : ∀ x m' F' ρ' H' v, Ext F ρ F' ρ' → EnvOk K tb F' ρ' en σ → Wo K tb F' ρ' m' H' → RepS K tb F' ρ' x v → PostF K tb W F' ρ' σ R (g x m') → Q v H') : tE K tb W f σ H Q := by
  refine tE_iff.mpr ⟨F, ρ, en, m, he, ho, ?_⟩
  cases e : f en m with
  | ok x m' =>
    rw [e] at h
    exact fun F' ρ' H' v ex o r => k x m' F' ρ' H' v ex (he.mono ex) o r (PostF.ext ex h)
  | ex x m' => rw [e] at h; exact h
  | no => rw [e] at h; exact h
def fLst (f : SemL) : SemF := fun en m => (f en m).bind fun xs m1 => match frzL m1 xs with
  | some (ds, m2) => if fits ds.length then .ok ds m2 else .no
  | none => .no
theorem rf_lst (h : RA X tb W es fl) : RF X tb W (.List es pos) (fLst fl) := by
  refine PE.weak (pe_lst h) fun σ H Q q => ?_
  obtain ⟨F, ρ, en, m, he, ho, q⟩ := q
  refine tEL_bindF he ho q fun xs m1 F1 ρ1 H1 vs e1 he1 ho1 r1 q1 => ?_
  split at q1
  · rename_i ds m2 hd
    split at q1
    · rename_i hz
      obtain ⟨F2, e2, o2, r2⟩ := frzL_ok ho1 r1 hd
      exact ⟨by rw [← r2.length]; exact fits_ok hz, fun p hp => q1 F2 ρ1 H1 p vs e2 o2 hp r2⟩
    · exact q1.elim
  · exact q1.elim
/-- two values make a fresh list -/
def fBin (op : Dv → Dv → Option (List Dv)) (fa fb : Sem1) : SemF := fun en m => (fa en m).bind fun x m1 => (fb en m1).bind fun y m2 => match rv m2 x, rv m2 y with
  | some a, some b => (match op a b with | some d => .ok d m2 | none => .no)
  | _, _ => .no
def OpF (X : Cx) (tb : Tb) (r : R2) (op : Dv → Dv → Option (List Dv)) : Prop :=
  ∀ F ρ m H x y v u ds (Q : VK), Wo X.K tb F ρ m H → Top X.K tb F H x v → Top X.K tb F H y u → op x y = some ds →
    (∀ p vs, H p = none → RepL X.K tb F ds vs → Q (.ref p) (upd H p (.lst vs))) → r v u H Q
theorem fBin_run {r : R2} {op : Dv → Dv → Option (List Dv)} (c : OpF X tb r op) {σ : L2.St} {H : Hp} {Q : VK} (h : tF X.K tb W (fBin op fa fb) σ H Q) : tOp r (tE X.K tb W fa) (tE X.K tb W fb) σ H Q := by
  obtain ⟨F, ρ, en, m, he, ho, q⟩ := h
  refine tE_bindF he ho q fun x m1 F1 ρ1 H1 v e1 he1 ho1 r1 q1 => ?_
  refine tE_bindF he1 ho1 q1 fun y m2 F2 ρ2 H2 u e2 he2 ho2 r2 q2 => ?_
  split at q2
  · rename_i a b ha hb
    split at q2
    · rename_i d hd
      exact c F2 ρ2 m2 H2 a b v u d Q ho2 (rv_top ho2 (r1.mono e2) ha) (rv_top ho2 r2 hb) hd fun p vs hp rr => q2 F2 ρ2 H2 p vs (.refl _ _) ho2 hp rr
    · exact q2.elim
  · exact q2.elim
def oCatL : Dv → Dv → Option (List Dv)
  | .lst xs, .lst ys => if fits (xs.length + ys.length) then some (xs ++ ys) else none
  | _, _ => none
theorem opF_cat : OpF X tb rCat oCatL := by
  intro F ρ m H x y v u ds Q o tx ty e k
  cases x <;> cases y <;> simp only [oCatL, Option.ite_none_right_eq_some, Option.some.injEq, reduceCtorEq] at e
  obtain ⟨e1, rfl⟩ := e
  obtain ⟨l, vs, rfl, h1, r1⟩ := tx.plain o.sub
  obtain ⟨l', ws, rfl, h2, r2⟩ := ty.plain o.sub
  exact ⟨l, l', vs, ws, rfl, rfl, h1, h2, by rw [← r1.length, ← r2.length]; exact fits_ok e1, fun p hp => k p _ hp (r1.append r2)⟩
theorem rf_cat (ha : RE X tb W a fa) (hb : RE X tb W b fb) : RF X tb W (.BinOp a .Add b pos) (fBin oCatL fa fb) := PE.weak (pe_op op_cat ha hb) fun σ H Q q => fBin_run opF_cat q
def oRepL : Dv → Dv → Option (List Dv)
  | .lst xs, .int k => if decide (-1000 ≤ k) && decide (k ≤ 1000) && decide (xs.length ≤ 1000) then some (List.replicate k.toNat xs).flatten else none
  | _, _ => none
theorem RepL.rep {F : Hp} {xs : List Dv} {vs : List V} (h : RepL K tb F xs vs) : ∀ k : Nat, RepL K tb F (List.replicate k xs).flatten (List.replicate k vs).flatten
  | 0 => .nil
  | k + 1 => by
    rw [List.replicate_succ, List.replicate_succ, List.flatten_cons, List.flatten_cons]
    exact h.append (RepL.rep h k)
theorem opF_rep : OpF X tb rRep oRepL := by
  intro F ρ m H x y v u ds Q o tx ty e k
  cases x <;> cases y <;> simp only [oRepL, Option.ite_none_right_eq_some, Option.some.injEq, reduceCtorEq, Bool.and_eq_true, decide_eq_true_eq] at e
  obtain ⟨⟨⟨e1, e2⟩, e3⟩, rfl⟩ := e
  obtain ⟨l, vs, rfl, h1, r1⟩ := tx.plain o.sub
  refine ⟨l, _, vs, rfl, ty.int, h1, by omega, by omega, ?_, fun p hp => k p _ hp (r1.rep _)⟩
  rw [← r1.length]
  have h5 : ∀ k : Int, k ≤ 1000 → k.toNat ≤ 1000 := fun k h => by omega
  exact Nat.le_trans (Nat.mul_le_mul e3 (h5 _ e2)) (by rw [sizeLine_eq]; decide)
theorem rf_rep (ha : RE X tb W a fa) (hb : RE X tb W b fb) : RF X tb W (.BinOp a .Mult b pos) (fBin oRepL fa fb) := PE.weak (pe_op op_rep ha hb) fun σ H Q q => fBin_run opF_rep q

/-! ### tuples added up -/
def oCatT : Dv → Dv → Option Dv
  | .tup xs, .tup ys => if fits (xs.length + ys.length) then some (.tup (xs ++ ys)) else none
  | _, _ => none
theorem nil_of {F : Hp} {xs : List Dv} (r : RepL K tb F xs []) : xs = [] := by cases r; rfl
theorem opC_catT : OpC X tb (rCatA X.K) oCatT := by
  intro F ρ m H x y v u d Q o tx ty e k
  cases x <;> cases y <;> simp only [oCatT, Option.ite_none_right_eq_some, Option.some.injEq, reduceCtorEq] at e
  obtain ⟨e1, rfl⟩ := e
  cases tx with
  | of tx =>
  cases ty with
  | of ty =>
  cases tx with
  | @tup l xs vs h1 r1 =>
  cases ty with
  | @tup l' ys ws h2 r2 =>
  refine ⟨l, l', vs, ws, rfl, rfl, o.sub.sqt h1, o.sub.sqt h2, by rw [← r1.length, ← r2.length]; exact fits_ok e1, fun z => ?_, fun _ z => ?_, fun _ _ p hp => ?_⟩
  · subst z
    have := nil_of r1
    subst this
    exact k F H _ (.refl _ _) o (.tup h2 r2)
  · subst z
    have := nil_of r2
    subst this
    rw [List.append_nil] at k
    exact k F H _ (.refl _ _) o (.tup h1 r1)
  · obtain ⟨o3, e3⟩ := o.alloc hp (.tup (vs ++ ws))
    exact k _ _ _ e3 o3 (.tup (.inl (.inl upd_same)) ((r1.append r2).mono e3.le))
theorem re_catT (ha : RE X tb W a fa) (hb : RE X tb W b fb) : RE X tb W (.BinOp a .Add b pos) (sBin oCatT fa fb) := re_bin op_catA opC_catT ha hb

/-! ### xs[i] -/
def oIx : Dv → Dv → Option Dv
  | .lst xs, .int i => atI xs i
  | .tup xs, .int i => atI xs i
  | _, _ => none
theorem atI_rep {F : Hp} {xs : List Dv} {vs : List V} {i : Int} {d : Dv} (r : RepL K tb F xs vs) (e : atI xs i = some d) : ∃ v, atI vs i = some v ∧ Rep K tb F d v := by
  unfold atI at e ⊢
  rw [← r.length]
  cases h : ixN xs.length i with
  | none => rw [h] at e; cases e
  | some j =>
    rw [h] at e
    exact r.get e
def rIxLT (K : PySem.W.Frag) : R2 := fun x y H Q => rIxL K x y H Q ∨ rIxT K x y H Q
theorem ix_lt : IxR X (rIxLT X.K) := ix_list.or ix_tup
theorem opC_ix : OpC X tb (rIxLT X.K) oIx := by
  intro F ρ m H x y v u d Q o tx ty e k
  cases x <;> cases y <;> simp only [oIx, reduceCtorEq] at e
  · obtain ⟨l, vs, rfl, h1, r1⟩ := tx.sqt o.sub
    obtain ⟨w, hw, rr⟩ := atI_rep r1 e
    exact .inr ⟨l, vs, _, w, rfl, ty.int, h1, hw, k F H w (.refl _ _) o rr⟩
  · obtain ⟨l, vs, rfl, h1, r1⟩ := tx.sql o.sub
    obtain ⟨w, hw, rr⟩ := atI_rep r1 e
    exact .inl ⟨l, vs, _, w, rfl, ty.int, h1, hw, k F H w (.refl _ _) o rr⟩
theorem re_at (ha : RE X tb W a fa) (hb : RE X tb W b fb) (hs : PlainIx b := by exact fun _ _ => rfl) : RE X tb W (.Subscript a b pos) (sBin oIx fa fb) := re_ix ix_lt opC_ix ha hb hs

/-! ### xs[i:j] -/
abbrev SemO := En → Store → Rs (Option Int)
def oNo : SemO := fun _ m => .ok none m
def oYes (f : Sem1) : SemO := fun en m => (f en m).bind fun x m1 => match rv m1 x with
  | some (.int i) => .ok (some i) m1
  | _ => .no
def PostO (K : PySem.W.Frag) (tb : Tb) (W : WX) (F : Hp) (ρ : List Addr) (σ : L2.St) (Q : Option Int → Hp → Prop) : Rs (Option Int) → Prop
  | .ok x m' => ∀ F' ρ' H', Ext F ρ F' ρ' → Wo K tb F' ρ' m' H' → Q x H'
  | .ex x m' => ∀ F' ρ' H' c d, Ext F ρ F' ρ' → Wo K tb F' ρ' m' H' → XRep K tb F' x c d → W c d σ H'
  | .no => False
def tO (K : PySem.W.Frag) (tb : Tb) (W : WX) (f : SemO) : TO := fun σ H Q => ∃ F ρ en m, EnvOk K tb F ρ en σ ∧ Wo K tb F ρ m H ∧ PostO K tb W F ρ σ Q (f en m)
theorem PO.weak {e : Option Expr} {t t' : TO} (h : PO X e t) (w : ∀ σ H Q, t' σ H Q → t σ H Q) : PO X e t' := ⟨fun pins s σ H Q I q => h.run pins s σ H Q I (w _ _ _ q)⟩
abbrev RO (X : Cx) (tb : Tb) (W : WX) (e : Option Expr) (f : SemO) : Prop := PO X e (tO X.K tb W f)
theorem ro_no : RO X tb W none oNo := by
  refine PO.weak po_none fun σ H Q q => ?_
  obtain ⟨F, ρ, en, m, he, ho, q⟩ := q
  exact q F ρ H (.refl _ _) ho
theorem ro_yes (h : RE X tb W e fa) : RO X tb W (some e) (oYes fa) := by
  refine PO.weak (po_some h) fun σ H Q q => ?_
  obtain ⟨F, ρ, en, m, he, ho, q⟩ := q
  refine tE_iff.mpr ⟨F, ρ, en, m, he, ho, ?_⟩
  unfold oYes at q
  cases ee : fa en m with
  | ok x m1 =>
    rw [ee] at q
    intro F' ρ' H' v ex o r
    rw [Rs.bind_ok] at q
    split at q
    · rename_i i hi
      exact ⟨i, (rv_top o r hi).int, q F' ρ' H' ex o⟩
    · exact q.elim
  | ex x m1 => rw [ee] at q; exact q
  | no => rw [ee] at q; exact q
def cutD {α : Type} (xs : List α) (lo hi : Option Int) : List α := (xs.drop (HT.sIx xs.length 0 lo)).take (HT.sIx xs.length xs.length hi - HT.sIx xs.length 0 lo)
theorem RepL.cut {F : Hp} {xs : List Dv} {vs : List V} (r : RepL K tb F xs vs) (lo hi : Option Int) : RepL K tb F (cutD xs lo hi) (cutV vs lo hi) := by
  unfold cutD cutV
  rw [← r.length]
  exact (r.drop _).take _
/-- slices of tuples -/
def sSlT (f : Sem1) (l h : SemO) : Sem1 := fun en m => (f en m).bind fun x m1 => (l en m1).bind fun i m2 => (h en m2).bind fun j m3 => match rv m3 x with
  | some (.tup xs) => .ok (.d (.tup (cutD xs i j))) m3
  | _ => .no
/-- slices of lists (the script too) -/
def fSlL (f : Sem1) (l h : SemO) : SemF := fun en m => (f en m).bind fun x m1 => (l en m1).bind fun i m2 => (h en m2).bind fun j m3 => match rv m3 x with
  | some (.lst xs) => .ok (cutD xs i j) m3
  | some (.scr ns) => .ok (cutD (ns.map Dv.int) i j) m3
  | _ => .no
theorem tO_bind {f : SemO} {g : Option Int → Store → Rs Sv} {F : Hp} {ρ : List Addr} {en : En} {m : Store} {σ : L2.St} {H : Hp} {Q : Option Int → Hp → Prop} {R : VK} (he : EnvOk K tb F ρ en σ) (ho : Wo K tb F ρ m H) (h : PostE K tb W F ρ σ R ((f en m).bind g))
    (k : ∀ x m' F' ρ' H', Ext F ρ F' ρ' → EnvOk K tb F' ρ' en σ → Wo K tb F' ρ' m' H' → PostE K tb W F' ρ' σ R (g x m') → Q x H') : tO K tb W f σ H Q := by
  refine ⟨F, ρ, en, m, he, ho, ?_⟩
  cases e : f en m with
  | ok x m' =>
    rw [e] at h
    exact fun F' ρ' H' ex o => k x m' F' ρ' H' ex (he.mono ex) o (PostE.ext ex h)
  | ex x m' => rw [e] at h; exact h
  | no => rw [e] at h; exact h
theorem tO_bindF {f : SemO} {g : Option Int → Store → Rs (List Dv)} {F : Hp} {ρ : List Addr} {en : En} {m : Store} {σ : L2.St} {H : Hp} {Q : Option Int → Hp → Prop} {R : VK} (he : EnvOk K tb F ρ en σ) (ho : Wo K tb F ρ m H) (h : PostF K tb W F ρ σ R ((f en m).bind g))
    (k : ∀ x m' F' ρ' H', Ext F ρ F' ρ' → EnvOk K tb F' ρ' en σ → Wo K tb F' ρ' m' H' → PostF K tb W F' ρ' σ R (g x m') → Q x H') : tO K tb W f σ H Q := by
  refine ⟨F, ρ, en, m, he, ho, ?_⟩
  cases e : f en m with
  | ok x m' =>
    rw [e] at h
    exact fun F' ρ' H' ex o => k x m' F' ρ' H' ex (he.mono ex) o (PostF.ext ex h)
  | ex x m' => rw [e] at h; exact h
  | no => rw [e] at h; exact h
variable {lo hi : Option Expr} {ol oh : SemO} {p2 : Pos}
theorem re_slT (h : RE X tb W e fa) (hl : RO X tb W lo ol) (hh : RO X tb W hi oh) : RE X tb W (.Subscript e (.Slice lo hi none p2) pos) (sSlT fa ol oh) := by
  refine PE.weak (pe_slice sl_tupA h hl hh) fun σ H Q q => ?_
  obtain ⟨F, ρ, en, m, he, ho, q⟩ := tE_iff.mp q
  refine tE_bind he ho q fun x m1 F1 ρ1 H1 v e1 he1 ho1 r1 q1 => ?_
  refine tO_bind he1 ho1 q1 fun i m2 F2 ρ2 H2 e2 he2 ho2 q2 => ?_
  refine tO_bind he2 ho2 q2 fun j m3 F3 ρ3 H3 e3 he3 ho3 q3 => ?_
  split at q3
  · rename_i xs hx
    have tx := rv_top ho3 (r1.mono (e2.trans e3)) hx
    cases tx with
    | of tx =>
    cases tx with
    | @tup l xs vs h1 rl =>
    refine ⟨l, vs, rfl, ho3.sub.sqt h1, fun z => ?_, fun _ p hp => ?_⟩
    · have ew : cutD xs i j = xs := by
        unfold cutD
        rw [rl.length, z.1, z.2, List.drop_zero, Nat.sub_zero, ← rl.length, List.take_length]
      rw [ew] at q3
      exact q3 F3 ρ3 H3 _ (.refl _ _) ho3 (.d (.tup h1 rl))
    · obtain ⟨o4, e4⟩ := ho3.alloc hp (.tup (cutV vs i j))
      exact q3 _ ρ3 _ _ e4 o4 (.d (.tup (.inl (.inl upd_same)) ((rl.cut i j).mono e4.le)))
  · exact q3.elim
theorem RepL.ints {F : Hp} : ∀ ns : List Int, RepL K tb F (ns.map Dv.int) (ns.map V.int)
  | [] => .nil
  | n :: ns => .cons (.int n) (RepL.ints ns)
theorem rf_slL (h : RE X tb W e fa) (hl : RO X tb W lo ol) (hh : RO X tb W hi oh) : RF X tb W (.Subscript e (.Slice lo hi none p2) pos) (fSlL fa ol oh) := by
  refine PE.weak (pe_slice sl_list h hl hh) fun σ H Q q => ?_
  obtain ⟨F, ρ, en, m, he, ho, q⟩ := q
  refine tE_bindF he ho q fun x m1 F1 ρ1 H1 v e1 he1 ho1 r1 q1 => ?_
  refine tO_bindF he1 ho1 q1 fun i m2 F2 ρ2 H2 e2 he2 ho2 q2 => ?_
  refine tO_bindF he2 ho2 q2 fun j m3 F3 ρ3 H3 e3 he3 ho3 q3 => ?_
  split at q3
  · rename_i xs hx
    obtain ⟨l, vs, rfl, h1, rr⟩ := (rv_top ho3 (r1.mono (e2.trans e3)) hx).sql ho3.sub
    exact ⟨l, vs, rfl, h1, fun p hp => q3 F3 ρ3 H3 p _ (.refl _ _) ho3 hp (rr.cut i j)⟩
  · rename_i ns hx
    have tx := rv_top ho3 (r1.mono (e2.trans e3)) hx
    cases tx with
    | of tx =>
    cases tx with
    | @scr l _ h1 =>
    exact ⟨l, _, rfl, ho3.sub.sql h1, fun p hp => q3 F3 ρ3 H3 p _ (.refl _ _) ho3 hp ((RepL.ints ns).cut i j)⟩
  · exact q3.elim
end
end EvL
end

section
set_option Elab.async false
set_option linter.all false
set_option maxRecDepth 100000
set_option maxHeartbeats 2000000
/-! E5: ==, isinstance, built-ins, calls of defs -/
namespace EvL
open PySem PySem.Spec PyProof.Rows L2

/-! ### data as the library reads it -/
mutual
def cv : Dv → PyData
  | .non => .none
  | .bl b => .bool b
  | .int i => .int i
  | .str x => .str x
  | .tup xs => .tuple (cvL xs)
  | .lst xs => .list (cvL xs)
  | .dic _ => .dict []
  | .fn _ => .none
  | .scr ns => .list (ns.map .int)
def cvL : List Dv → List PyData
  | [] => []
  | x :: xs => cv x :: cvL xs
end
mutual
/-- no dict, no def in it -/
def flat : Dv → Bool
  | .non | .bl _ | .int _ | .str _ | .scr _ => true
  | .tup xs | .lst xs => flatL xs
  | .dic _ | .fn _ => false
def flatL : List Dv → Bool
  | [] => true
  | x :: xs => flat x && flatL xs
end
section
variable {K : PySem.W.Frag} {tb : Tb}
theorem dpAll_ints {H : Hp} : ∀ ns : List Int, DpAll K H (ns.map V.int) (ns.map PyData.int)
  | [] => .nil
  | n :: ns => .cons (.int n) (dpAll_ints ns)
mutual
theorem Rep.dp {F H : Hp} (l : Le F H) : ∀ {d : Dv} {v : V}, Rep K tb F d v → flat d = true → Dp K H v (cv d)
  | _, _, .non, _ => by unfold cv; exact .non
  | _, _, .bl b, _ => by unfold cv; exact .bl b
  | _, _, .int i, _ => by unfold cv; exact .int i
  | _, _, .str x, _ => by unfold cv; exact .str x
  | _, _, .tup h r, e => by unfold cv; unfold flat at e; exact .tup (l.sqt h) (RepL.dp l r e)
  | _, _, .lst h r, e => by unfold cv; unfold flat at e; exact .lst (.inl (.inl (l _ _ h))) (RepL.dp l r e)
  | _, _, .dic h r, e => by unfold flat at e; cases e
  | _, _, .fn n _, e => by unfold flat at e; cases e
  | _, _, .lam _, e => by unfold flat at e; cases e
  | _, _, .scr h, _ => by unfold cv; exact .lst (l.sql h) (dpAll_ints _)
theorem RepL.dp {F H : Hp} (l : Le F H) : ∀ {d : List Dv} {v : List V}, RepL K tb F d v → flatL d = true → DpAll K H v (cvL d)
  | _, _, .nil, _ => by unfold cvL; exact .nil
  | _, _, .cons h r, e => by
    unfold cvL
    unfold flatL at e
    rw [Bool.and_eq_true] at e
    exact .cons (Rep.dp l h e.1) (RepL.dp l r e.2)
end
theorem Top.dp {F H : Hp} (l : Le F H) {d : Dv} {v : V} (t : Top K tb F H d v) (e : flat d = true) : Dp K H v (cv d) := by
  cases t with
  | of r => exact r.dp l e
  | lst h r => unfold cv; unfold flat at e; exact .lst (.inl (.inl h)) (r.dp l e)
  | dic h r => unfold flat at e; cases e
end
def good (d : Dv) : Bool := flat d && SeqAt.shaped (cv d)
def oEq (x y : Dv) : Option Dv := if good x && good y then some (.bl (PyData.eqv (cv x) (cv y))) else none
def oNe (x y : Dv) : Option Dv := if good x && good y then some (.bl (!PyData.eqv (cv x) (cv y))) else none
section
variable {K : PySem.W.Frag} {tb : Tb} {W : WX} {X : Cx} {a b c e : Expr} {es : List Expr} {fa fb fc : Sem1} {fl : SemL} {ga gb : SemB} {pos : Pos} {k : Nat}
theorem opC_eq : OpC X tb (rEqD X.K) oEq := by
  intro F ρ m H x y v u d Q o tx ty e k
  simp only [oEq, good, Option.ite_none_right_eq_some, Option.some.injEq, Bool.and_eq_true] at e
  obtain ⟨⟨⟨e1, e2⟩, e3, e4⟩, rfl⟩ := e
  exact ⟨_, _, tx.dp o.sub e1, ty.dp o.sub e3, e2, e4, k F H _ (.refl _ _) o (.bl _)⟩
theorem opC_ne : OpC X tb (rNeD X.K) oNe := by
  intro F ρ m H x y v u d Q o tx ty e k
  simp only [oNe, good, Option.ite_none_right_eq_some, Option.some.injEq, Bool.and_eq_true] at e
  obtain ⟨⟨⟨e1, e2⟩, e3, e4⟩, rfl⟩ := e
  exact ⟨_, _, tx.dp o.sub e1, ty.dp o.sub e3, e2, e4, k F H _ (.refl _ _) o (.bl _)⟩
theorem oEq_bl : ∀ x y d, oEq x y = some d → ∃ k, d = .bl k := by
  intro x y d h
  simp only [oEq, Option.ite_none_right_eq_some, Option.some.injEq] at h
  exact ⟨_, h.2.symm⟩
theorem oNe_bl : ∀ x y d, oNe x y = some d → ∃ k, d = .bl k := by
  intro x y d h
  simp only [oNe, Option.ite_none_right_eq_some, Option.some.injEq] at h
  exact ⟨_, h.2.symm⟩
theorem re_eq (hr : Room k X.A) (ha : RE X tb W a fa) (hb : RE X tb W b fb) : RE X tb W (.Compare a [.Eq] [b] pos) (sBin oEq fa fb) := re_cmp (op_eqD hr.units) opC_eq ha hb (nomark _)
theorem re_ne (hr : Room k X.A) (ha : RE X tb W a fa) (hb : RE X tb W b fb) : RE X tb W (.Compare a [.NotEq] [b] pos) (sBin oNe fa fb) := re_cmp (op_neD hr.units) opC_ne ha hb (nomark _)
theorem rt_eq (hr : Room k X.A) (ha : RE X tb W a fa) (hb : RE X tb W b fb) : RT X tb W (.Compare a [.Eq] [b] pos) (sT (sBin oEq fa fb)) := rt_cmp (op_eqD hr.units) opC_eq oEq_bl ha hb (nomark _)
theorem rt_ne (hr : Room k X.A) (ha : RE X tb W a fa) (hb : RE X tb W b fb) : RT X tb W (.Compare a [.NotEq] [b] pos) (sT (sBin oNe fa fb)) := rt_cmp (op_neD hr.units) opC_ne oNe_bl ha hb (nomark _)

/-! ### built-in functions of one argument, read -/
def CallC (X : Cx) (tb : Tb) (r : List V → Hp → VK → Prop) (op : Dv → Option Dv) : Prop :=
  ∀ F ρ m H x v d (Q : VK), Wo X.K tb F ρ m H → Top X.K tb F H x v → op x = some d →
    (∀ F' H' z, Ext F ρ F' ρ → Wo X.K tb F' ρ m H' → Rep X.K tb F' d z → Q z H') → r [v] H Q
theorem sUn_run {r : List V → Hp → VK → Prop} {op : Dv → Option Dv} (c : CallC X tb r op) {σ : L2.St} {H : Hp} {Q : VK} (h : tE X.K tb W (sUn op fa) σ H Q) : tCB r (tCons (tE X.K tb W fa) tNil) σ H Q := by
  obtain ⟨F, ρ, en, m, he, ho, q⟩ := tE_iff.mp h
  refine tE_bind he ho q fun x m1 F1 ρ1 H1 v e1 he1 ho1 r1 q1 => ?_
  split at q1
  · rename_i a ha
    split at q1
    · rename_i d hd
      exact c F1 ρ1 m1 H1 a v d Q ho1 (rv_top ho1 r1 ha) hd fun F' H' z ex o' rz => q1 F' ρ1 H' z ex o' (.d rz)
    · exact q1.elim
  · exact q1.elim
variable {x : Str} {p : Pos} {bid T : String}
theorem re_b1 {r : List V → Hp → VK → Prop} {op : Dv → Option Dv} (hc : CallR X (.builtin bid) r) (c : CallC X tb r op) (hg : Gl X x) (hm : X.mg x = none) (hv : bootBuiltins x = some (.builtin bid)) (ha : RE X tb W e fa) (hn : x ≠ "__name__" := by decide) (hdb : (x == ("__debug__" : Str)) = false := by decide)
    (hs : starEach [e] X.env = (false, eval e X.env) :: starEach [] X.env := by rfl) (hpl : (backTo pos (starEach [] X.env)).any (·.1) = false := by rfl) : RE X tb W (.Call (.Name x p) [e] [] pos) (sUn op fa) :=
  PE.weak (pe_callB hc hg hm hv (pa_cons ha pa_nil hs) hn hdb hs hpl) fun σ H Q q => sUn_run c q
theorem re_t1 {r : List V → Hp → VK → Prop} {op : Dv → Option Dv} (hc : CallR X (.type T) r) (c : CallC X tb r op) (hg : Gl X x) (hm : X.mg x = none) (hv : bootBuiltins x = some (.type T)) (ha : RE X tb W e fa) (hn : x ≠ "__name__" := by decide) (hdb : (x == ("__debug__" : Str)) = false := by decide)
    (hs : starEach [e] X.env = (false, eval e X.env) :: starEach [] X.env := by rfl) (hpl : (backTo pos (starEach [] X.env)).any (·.1) = false := by rfl) : RE X tb W (.Call (.Name x p) [e] [] pos) (sUn op fa) :=
  PE.weak (pe_callTy hc hg hm hv (pa_cons ha pa_nil hs) hn hdb hs hpl) fun σ H Q q => sUn_run c q
def oLen : Dv → Option Dv
  | .lst xs => some (.int xs.length)
  | .tup xs => some (.int xs.length)
  | .scr ns => some (.int ns.length)
  | .str z => if z.length ≤ sizeLine then some (.int z.length) else none
  | _ => none
def rLen (K : PySem.W.Frag) : List V → Hp → VK → Prop := fun xs H Q => (∃ p ys, xs = [.ref p] ∧ (SqL K H p ys ∨ SqT K H p ys) ∧ Q (.int ys.length) H) ∨ (∃ z, xs = [.str z] ∧ z.length ≤ sizeLine ∧ Q (.int z.length) H)
theorem call_len2 : CallR X (.builtin "len") (rLen X.K) := call_len_seq.or call_len_str
theorem callC_len : CallC X tb (rLen X.K) oLen := by
  intro F ρ m H x v d Q o tx e k
  cases x <;> simp only [oLen, Option.some.injEq, Option.ite_none_right_eq_some, reduceCtorEq] at e
  · obtain ⟨e1, rfl⟩ := e
    exact .inr ⟨_, by rw [tx.str], e1, k F H _ (.refl _ _) o (.int _)⟩
  · subst e
    obtain ⟨l, vs, rfl, h1, r1⟩ := tx.sqt o.sub
    exact .inl ⟨l, vs, rfl, .inr h1, by rw [← r1.length]; exact k F H _ (.refl _ _) o (.int _)⟩
  · subst e
    obtain ⟨l, vs, rfl, h1, r1⟩ := tx.sql o.sub
    exact .inl ⟨l, vs, rfl, .inl h1, by rw [← r1.length]; exact k F H _ (.refl _ _) o (.int _)⟩
  · subst e
    cases tx with
    | of tx =>
    cases tx with
    | @scr l ns h1 => exact .inl ⟨l, _, rfl, .inl (o.sub.sql h1), by rw [List.length_map]; exact k F H _ (.refl _ _) o (.int _)⟩
def oAbs : Dv → Option Dv
  | .int i => some (.int (if i < 0 then -i else i))
  | _ => none
theorem callC_abs : CallC X tb (fun xs H Q => ∃ i, xs = [.int i] ∧ Q (.int (if i < 0 then -i else i)) H) oAbs := by
  intro F ρ m H x v d Q o tx e k
  cases x <;> simp only [oAbs, Option.some.injEq, reduceCtorEq] at e
  subst e
  exact ⟨_, by rw [tx.int], k F H _ (.refl _ _) o (.int _)⟩
def oInt : Dv → Option Dv
  | .int i => some (.int i)
  | .bl b => some (.int (if b then 1 else 0))
  | _ => none
theorem callC_int : CallC X tb (fun xs H Q => (∃ i, xs = [.int i] ∧ Q (.int i) H) ∨ ∃ k, xs = [.bl k] ∧ Q (.int (if k then 1 else 0)) H) oInt := by
  intro F ρ m H x v d Q o tx e k
  cases x <;> simp only [oInt, Option.some.injEq, reduceCtorEq] at e
  · subst e
    exact .inr ⟨_, by rw [tx.bl], k F H _ (.refl _ _) o (.int _)⟩
  · subst e
    exact .inl ⟨_, by rw [tx.int], k F H _ (.refl _ _) o (.int _)⟩
/-- lists of intsD, of truths -/
def intsD : List Dv → Option (List Int)
  | [] => some []
  | .int i :: xs => (intsD xs).map (i :: ·)
  | _ :: _ => none
def boolsD : List Dv → Option (List Bool)
  | [] => some []
  | .bl i :: xs => (boolsD xs).map (i :: ·)
  | _ :: _ => none
theorem ints_rep {F : Hp} : ∀ {xs : List Dv} {vs : List V} {ns : List Int}, RepL K tb F xs vs → intsD xs = some ns → vs = ns.map V.int
  | [], _, ns, .nil, e => by cases e; rfl
  | x :: xs, _, ns, .cons h r, e => by
    cases x <;> simp only [intsD, Option.map_eq_some_iff, reduceCtorEq] at e
    obtain ⟨l, h1, rfl⟩ := e
    cases h
    rw [ints_rep r h1]
    rfl
theorem bools_rep {F : Hp} : ∀ {xs : List Dv} {vs : List V} {ns : List Bool}, RepL K tb F xs vs → boolsD xs = some ns → vs = ns.map V.bl
  | [], _, ns, .nil, e => by cases e; rfl
  | x :: xs, _, ns, .cons h r, e => by
    cases x <;> simp only [boolsD, Option.map_eq_some_iff, reduceCtorEq] at e
    obtain ⟨l, h1, rfl⟩ := e
    cases h
    rw [bools_rep r h1]
    rfl
def onInts (g : List Int → Option Dv) : Dv → Option Dv
  | .lst xs => (intsD xs).bind g
  | _ => none
def onBools (g : List Bool → Dv) : Dv → Option Dv
  | .lst xs => (boolsD xs).map g
  | _ => none
abbrev oSum := onInts fun ns => some (.int ns.sum)
def maxI : List Int → Option Int
  | [] => none
  | x :: xs => some (xs.foldl max x)
def minI : List Int → Option Int
  | [] => none
  | x :: xs => some (xs.foldl min x)
abbrev oMax := onInts fun ns => (maxI ns).map Dv.int
abbrev oMin := onInts fun ns => (minI ns).map Dv.int
abbrev oAny := onBools fun bs => .bl (bs.any id)
abbrev oAll := onBools fun bs => .bl (bs.all id)
theorem callC_sum : CallC X tb (rSum X.K) oSum := by
  intro F ρ m H x v d Q o tx e k
  cases x <;> simp only [oSum, onInts, Option.bind_eq_some_iff, Option.some.injEq, reduceCtorEq] at e
  obtain ⟨ns, h1, rfl⟩ := e
  obtain ⟨l, vs, rfl, h2, r1⟩ := tx.sql o.sub
  have := ints_rep r1 h1
  subst this
  exact ⟨l, ns, rfl, h2, k F H _ (.refl _ _) o (.int _)⟩
theorem foldl_max_ge : ∀ (xs : List Int) (a : Int), a ≤ xs.foldl max a ∧ (∀ y ∈ xs, y ≤ xs.foldl max a) ∧ (xs.foldl max a = a ∨ xs.foldl max a ∈ xs)
  | [], a => ⟨Int.le_refl _, fun y h => absurd h (by simp), .inl rfl⟩
  | x :: xs, a => by
    obtain ⟨h1, h2, h3⟩ := foldl_max_ge xs (max a x)
    rw [List.foldl_cons]
    refine ⟨by omega, fun y hy => ?_, ?_⟩
    · rcases List.mem_cons.mp hy with rfl | hy
      · omega
      · exact h2 y hy
    · rcases h3 with h3 | h3
      · rw [h3]
        by_cases hx : a ≤ x
        · exact .inr (by rw [Int.max_eq_right hx]; simp)
        · exact .inl (Int.max_eq_left (by omega))
      · exact .inr (by simp [h3])
theorem foldl_min_le : ∀ (xs : List Int) (a : Int), xs.foldl min a ≤ a ∧ (∀ y ∈ xs, xs.foldl min a ≤ y) ∧ (xs.foldl min a = a ∨ xs.foldl min a ∈ xs)
  | [], a => ⟨Int.le_refl _, fun y h => absurd h (by simp), .inl rfl⟩
  | x :: xs, a => by
    obtain ⟨h1, h2, h3⟩ := foldl_min_le xs (min a x)
    rw [List.foldl_cons]
    refine ⟨by omega, fun y hy => ?_, ?_⟩
    · rcases List.mem_cons.mp hy with rfl | hy
      · omega
      · exact h2 y hy
    · rcases h3 with h3 | h3
      · rw [h3]
        by_cases hx : a ≤ x
        · exact .inl (Int.min_eq_left hx)
        · exact .inr (by rw [Int.min_eq_right (by omega)]; simp)
      · exact .inr (by simp [h3])
theorem maxI_ok {ns : List Int} {m : Int} (h : maxI ns = some m) : m ∈ ns ∧ ∀ y ∈ ns, y ≤ m := by
  cases ns with
  | nil => cases h
  | cons x xs =>
    cases h
    obtain ⟨h1, h2, h3⟩ := foldl_max_ge xs x
    refine ⟨?_, fun y hy => ?_⟩
    · rcases h3 with h3 | h3
      · rw [h3]; simp
      · simp [h3]
    · rcases List.mem_cons.mp hy with rfl | hy
      · exact h1
      · exact h2 y hy
theorem minI_ok {ns : List Int} {m : Int} (h : minI ns = some m) : m ∈ ns ∧ ∀ y ∈ ns, m ≤ y := by
  cases ns with
  | nil => cases h
  | cons x xs =>
    cases h
    obtain ⟨h1, h2, h3⟩ := foldl_min_le xs x
    refine ⟨?_, fun y hy => ?_⟩
    · rcases h3 with h3 | h3
      · rw [h3]; simp
      · simp [h3]
    · rcases List.mem_cons.mp hy with rfl | hy
      · exact h1
      · exact h2 y hy
theorem callC_max : CallC X tb (rMax X.K) oMax := by
  intro F ρ m H x v d Q o tx e k
  cases x <;> simp only [oMax, onInts, Option.bind_eq_some_iff, Option.map_eq_some_iff, reduceCtorEq] at e
  obtain ⟨ns, h1, mx, h3, rfl⟩ := e
  obtain ⟨l, vs, rfl, h2, r1⟩ := tx.sql o.sub
  have := ints_rep r1 h1
  subst this
  obtain ⟨a1, a2⟩ := maxI_ok h3
  refine ⟨l, ns, rfl, h2, List.length_pos_of_mem a1, fun m' b1 b2 => ?_⟩
  have : m' = mx := Int.le_antisymm (a2 _ b1) (b2 _ a1)
  subst this
  exact k F H _ (.refl _ _) o (.int _)
theorem callC_min : CallC X tb (rMin X.K) oMin := by
  intro F ρ m H x v d Q o tx e k
  cases x <;> simp only [oMin, onInts, Option.bind_eq_some_iff, Option.map_eq_some_iff, reduceCtorEq] at e
  obtain ⟨ns, h1, mx, h3, rfl⟩ := e
  obtain ⟨l, vs, rfl, h2, r1⟩ := tx.sql o.sub
  have := ints_rep r1 h1
  subst this
  obtain ⟨a1, a2⟩ := minI_ok h3
  refine ⟨l, ns, rfl, h2, List.length_pos_of_mem a1, fun m' b1 b2 => ?_⟩
  have : m' = mx := Int.le_antisymm (b2 _ a1) (a2 _ b1)
  subst this
  exact k F H _ (.refl _ _) o (.int _)
theorem callC_any : CallC X tb (rAny X.K) oAny := by
  intro F ρ m H x v d Q o tx e k
  cases x <;> simp only [oAny, onBools, Option.map_eq_some_iff, reduceCtorEq] at e
  obtain ⟨ns, h1, rfl⟩ := e
  obtain ⟨l, vs, rfl, h2, r1⟩ := tx.sql o.sub
  have := bools_rep r1 h1
  subst this
  exact ⟨l, ns, rfl, h2, k F H _ (.refl _ _) o (.bl _)⟩
theorem callC_all : CallC X tb (rAll X.K) oAll := by
  intro F ρ m H x v d Q o tx e k
  cases x <;> simp only [oAll, onBools, Option.map_eq_some_iff, reduceCtorEq] at e
  obtain ⟨ns, h1, rfl⟩ := e
  obtain ⟨l, vs, rfl, h2, r1⟩ := tx.sql o.sub
  have := bools_rep r1 h1
  subst this
  exact ⟨l, ns, rfl, h2, k F H _ (.refl _ _) o (.bl _)⟩
/-- tuple(xs) -/
def oTuple : Dv → Option Dv
  | .lst xs => some (.tup xs)
  | .tup xs => some (.tup xs)
  | _ => none
theorem callC_tuple : CallC X tb (fun xs H Q => ∃ p ys, xs = [.ref p] ∧ ((SqL X.K H p ys ∧ ∀ l, H l = none → Q (.ref l) (upd H l (.tup ys))) ∨ (SqT X.K H p ys ∧ Q (.ref p) H))) oTuple := by
  intro F ρ m H x v d Q o tx e k
  cases x <;> simp only [oTuple, Option.some.injEq, reduceCtorEq] at e
  · subst e
    cases tx with
    | of tx =>
    cases tx with
    | @tup l xs vs h1 r1 => exact ⟨l, vs, rfl, .inr ⟨o.sub.sqt h1, k F H _ (.refl _ _) o (.tup h1 r1)⟩⟩
  · subst e
    obtain ⟨l, vs, rfl, h2, r1⟩ := tx.sql o.sub
    refine ⟨l, vs, rfl, .inl ⟨h2, fun p hp => ?_⟩⟩
    obtain ⟨o3, e3⟩ := o.alloc hp (.tup vs)
    exact k _ _ _ e3 o3 (.tup (.inl (.inl upd_same)) (r1.mono e3.le))
theorem re_len (hg : Gl X "len") (hm : X.mg "len" = none) (ha : RE X tb W e fa) (hs : starEach [e] X.env = (false, eval e X.env) :: starEach [] X.env := by rfl) (hpl : (backTo pos (starEach [] X.env)).any (·.1) = false := by rfl) : RE X tb W (.Call (.Name "len" p) [e] [] pos) (sUn oLen fa) := re_b1 call_len2 callC_len hg hm PySem.boot_len ha (by decide) (by decide) hs hpl
theorem re_abs (hg : Gl X "abs") (hm : X.mg "abs" = none) (ha : RE X tb W e fa) (hs : starEach [e] X.env = (false, eval e X.env) :: starEach [] X.env := by rfl) (hpl : (backTo pos (starEach [] X.env)).any (·.1) = false := by rfl) : RE X tb W (.Call (.Name "abs" p) [e] [] pos) (sUn oAbs fa) := re_b1 call_abs callC_abs hg hm (by decide +kernel) ha (by decide) (by decide) hs hpl
theorem re_int1 (hg : Gl X "int") (hm : X.mg "int" = none) (ha : RE X tb W e fa) (hs : starEach [e] X.env = (false, eval e X.env) :: starEach [] X.env := by rfl) (hpl : (backTo pos (starEach [] X.env)).any (·.1) = false := by rfl) : RE X tb W (.Call (.Name "int" p) [e] [] pos) (sUn oInt fa) := re_t1 call_int1 callC_int hg hm (by decide +kernel) ha (by decide) (by decide) hs hpl
theorem re_sum (hc : X.calm = true) (hg : Gl X "sum") (hm : X.mg "sum" = none) (ha : RE X tb W e fa) (hs : starEach [e] X.env = (false, eval e X.env) :: starEach [] X.env := by rfl) (hpl : (backTo pos (starEach [] X.env)).any (·.1) = false := by rfl) : RE X tb W (.Call (.Name "sum" p) [e] [] pos) (sUn oSum fa) := re_b1 (cr_sum hc) callC_sum hg hm (by decide +kernel) ha (by decide) (by decide) hs hpl
theorem re_max (hc : X.calm = true) (hg : Gl X "max") (hm : X.mg "max" = none) (ha : RE X tb W e fa) (hs : starEach [e] X.env = (false, eval e X.env) :: starEach [] X.env := by rfl) (hpl : (backTo pos (starEach [] X.env)).any (·.1) = false := by rfl) : RE X tb W (.Call (.Name "max" p) [e] [] pos) (sUn oMax fa) := re_b1 (cr_max hc) callC_max hg hm (by decide +kernel) ha (by decide) (by decide) hs hpl
theorem re_min (hc : X.calm = true) (hg : Gl X "min") (hm : X.mg "min" = none) (ha : RE X tb W e fa) (hs : starEach [e] X.env = (false, eval e X.env) :: starEach [] X.env := by rfl) (hpl : (backTo pos (starEach [] X.env)).any (·.1) = false := by rfl) : RE X tb W (.Call (.Name "min" p) [e] [] pos) (sUn oMin fa) := re_b1 (cr_min hc) callC_min hg hm (by decide +kernel) ha (by decide) (by decide) hs hpl
theorem re_any (hc : X.calm = true) (hg : Gl X "any") (hm : X.mg "any" = none) (ha : RE X tb W e fa) (hs : starEach [e] X.env = (false, eval e X.env) :: starEach [] X.env := by rfl) (hpl : (backTo pos (starEach [] X.env)).any (·.1) = false := by rfl) : RE X tb W (.Call (.Name "any" p) [e] [] pos) (sUn oAny fa) := re_b1 (cr_any hc) callC_any hg hm (by decide +kernel) ha (by decide) (by decide) hs hpl
theorem re_all (hc : X.calm = true) (hg : Gl X "all") (hm : X.mg "all" = none) (ha : RE X tb W e fa) (hs : starEach [e] X.env = (false, eval e X.env) :: starEach [] X.env := by rfl) (hpl : (backTo pos (starEach [] X.env)).any (·.1) = false := by rfl) : RE X tb W (.Call (.Name "all" p) [e] [] pos) (sUn oAll fa) := re_b1 (cr_all hc) callC_all hg hm (by decide +kernel) ha (by decide) (by decide) hs hpl
theorem re_tuple (hg : Gl X "tuple") (hm : X.mg "tuple" = none) (ha : RE X tb W e fa) (hs : starEach [e] X.env = (false, eval e X.env) :: starEach [] X.env := by rfl) (hpl : (backTo pos (starEach [] X.env)).any (·.1) = false := by rfl) : RE X tb W (.Call (.Name "tuple" p) [e] [] pos) (sUn oTuple fa) := re_t1 call_tuple_of callC_tuple hg hm (by decide +kernel) ha (by decide) (by decide) hs hpl
/-- list(xs): fresh -/
def fUn (op : Dv → Option (List Dv)) (fa : Sem1) : SemF := fun en m => (fa en m).bind fun x m1 => match rv m1 x with
  | some a => (match op a with | some d => .ok d m1 | none => .no)
  | none => .no
def oList : Dv → Option (List Dv)
  | .lst xs => some xs
  | .tup xs => some xs
  | .scr ns => some (ns.map .int)
  | _ => none
theorem rf_list (hg : Gl X "list") (hm : X.mg "list" = none) (ha : RE X tb W e fa) (hs : starEach [e] X.env = (false, eval e X.env) :: starEach [] X.env := by rfl) (hpl : (backTo pos (starEach [] X.env)).any (·.1) = false := by rfl) : RF X tb W (.Call (.Name "list" p) [e] [] pos) (fUn oList fa) := by
  refine PE.weak (pe_callTy call_list_of hg hm (by decide +kernel) (pa_cons ha pa_nil hs) (by decide) (by decide) hs hpl) fun σ H Q q => ?_
  obtain ⟨F, ρ, en, m, he, ho, q⟩ := q
  refine tE_bindF he ho q fun x m1 F1 ρ1 H1 v e1 he1 ho1 r1 q1 => ?_
  split at q1
  · rename_i a ha
    have tx := rv_top ho1 r1 ha
    split at q1
    · rename_i d hd
      cases a <;> simp only [oList, Option.some.injEq, reduceCtorEq] at hd
      · subst hd
        obtain ⟨l, vs, rfl, h2, r2⟩ := tx.sqt ho1.sub
        exact ⟨l, vs, rfl, .inr h2, fun p hp => q1 F1 ρ1 H1 p vs (.refl _ _) ho1 hp r2⟩
      · subst hd
        obtain ⟨l, vs, rfl, h2, r2⟩ := tx.sql ho1.sub
        exact ⟨l, vs, rfl, .inl h2, fun p hp => q1 F1 ρ1 H1 p vs (.refl _ _) ho1 hp r2⟩
      · subst hd
        cases tx with
        | of tx =>
        cases tx with
        | @scr l _ h1 => exact ⟨l, _, rfl, .inl (ho1.sub.sql h1), fun p hp => q1 F1 ρ1 H1 p _ (.refl _ _) ho1 hp (RepL.ints _)⟩
    · exact q1.elim
  · exact q1.elim

/-! ### isinstance of a built-in type -/
def tyName : Dv → Option String
  | .non => some "NoneType"
  | .bl _ => some "bool"
  | .int _ => some "int"
  | .str _ => some "str"
  | .tup _ => some "tuple"
  | .lst _ => some "list"
  | .dic _ => some "dict"
  | .scr _ => some "list"
  | .fn _ => none
def isTyN (T n : String) : Bool := n == T || (n == "bool" && T == "int")
def isTy (T : String) (d : Dv) : Bool := match tyName d with
  | some n => isTyN T n
  | none => false
def knownT (T : String) : Bool := T == "int" || T == "bool" || T == "tuple" || T == "list" || T == "str"
theorem kit_all {d : Dv} {n T : String} (h : tyName d = some n) (hT : knownT T = true) : kitB n T = some (isTy T d) := by
  have e : isTy T d = isTyN T n := by unfold isTy; rw [h]
  rw [e]
  simp only [knownT, Bool.or_eq_true, beq_iff_eq] at hT
  have hn : n = "NoneType" ∨ n = "bool" ∨ n = "int" ∨ n = "str" ∨ n = "tuple" ∨ n = "list" ∨ n = "dict" := by
    cases d <;> simp only [tyName, Option.some.injEq, reduceCtorEq] at h <;> subst h <;> simp
  rcases hn with rfl | rfl | rfl | rfl | rfl | rfl | rfl <;> rcases hT with (((rfl | rfl) | rfl) | rfl) | rfl <;> decide +kernel
theorem sql_tyx {H : Hp} {a : Addr} {vs : List V} (h : SqL K H a vs) : TyX K H (.ref a) (.type "list") := by
  rcases h with (h | ⟨o, h⟩) | ⟨o, its, n, h, hc, _⟩
  · exact .base (.lst h)
  · exact .base (.frz h)
  · exact .kList h hc
theorem sqt_tyx {H : Hp} {a : Addr} {vs : List V} (h : SqT K H a vs) : TyX K H (.ref a) (.type "tuple") := by
  rcases h with (h | ⟨o, h⟩) | ⟨o, its, n, h, hc, _⟩
  · exact .base (.tup h)
  · exact .fTuple h
  · exact .kTuple h hc
theorem Top.tyx {F H : Hp} (l : Le F H) {d : Dv} {v : V} {n : String} (t : Top K tb F H d v) (h : tyName d = some n) : TyX K H v (.type n) := by
  cases t with
  | of r =>
    cases r <;> simp only [tyName, Option.some.injEq, reduceCtorEq] at h <;> subst h
    · exact .base .non
    · exact .base (.bl _)
    · exact .base (.int _)
    · exact .base (.str _)
    · rename_i h1 r1; exact sqt_tyx (l.sqt h1)
    · rename_i h1 r1; exact .base (.lst (l _ _ h1))
    · rename_i h1 r1; exact .base (.dK (l _ _ h1))
    · rename_i h1; exact sql_tyx (l.sql h1)
  | lst h1 r => cases h; exact .base (.lst h1)
  | dic h1 r => cases h; exact .base (.dK h1)
def oIs (T : String) (d : Dv) : Option Dv := match tyName d with
  | some _ => some (.bl (isTy T d))
  | none => none
theorem re_isi {nm : Str} {p2 : Pos} (hT : knownT T = true) (hg : Gl X "isinstance") (hm : X.mg "isinstance" = none) (hn : Gl X nm) (hm2 : X.mg nm = none) (hv : bootBuiltins nm = some (.type T)) (ha : RE X tb W e fa)
    (hne : nm ≠ "__name__" := by decide) (hdb : (nm == ("__debug__" : Str)) = false := by decide)
    (hs : starEach [e, .Name nm p2] X.env = (false, eval e X.env) :: starEach [.Name nm p2] X.env := by rfl) (hpl : (backTo pos (starEach [.Name nm p2] X.env)).any (·.1) = false := by rfl) :
    RE X tb W (.Call (.Name "isinstance" p) [e, .Name nm p2] [] pos) (sUn (oIs T) fa) := by
  refine PE.weak (pe_callB call_isi hg hm (by decide +kernel) (pa_cons ha (pa_cons (pe_bltn (v := .ty T) hn hm2 hv rfl hne hdb) pa_nil) hs) (by decide) (by decide) hs hpl) fun σ H Q q => ?_
  obtain ⟨F, ρ, en, m, he, ho, q⟩ := tE_iff.mp q
  refine tE_bind he ho q fun x m1 F1 ρ1 H1 v e1 he1 ho1 r1 q1 => ?_
  split at q1
  · rename_i a ha
    have tx := rv_top ho1 r1 ha
    split at q1
    · rename_i d hd
      unfold oIs at hd
      split at hd
      · rename_i n hn
        cases hd
        exact ⟨v, .ty T, .type n, .type T, _, rfl, .ty T, tx.tyx ho1.sub hn, kit_ty (kit_all hn hT), q1 F1 ρ1 H1 _ (.refl _ _) ho1 (.d (.bl _))⟩
      · cases hd
    · exact q1.elim
  · exact q1.elim

/-! ### calls of defs -/
/-- the def named x, with its promise on data -/
structure Fo (P : Program) (w : World) (K : PySem.W.Frag) (mg : Str → Option Value) (gb : Heap) (tb : Tb) (k : Nat) (x : Str) (ps : List Str) (g : Fs) (f : Addr) (fd : FuncData) : Prop where
  ok : FnG P w K mg gb k f fd ps (spE K tb ps.length g)
  mg : mg x = some (.ref f)
  kp : PySem.W.keepIn K (.ref f) = true
  bd : Binds K fd ps []
def sCall (g : Fs) (fl : SemL) : Sem1 := fun en m => (fl en m).bind fun xs m1 => g xs m1
theorem spE_of {n : Nat} {g : Fs} {F : Hp} {ρ : List Addr} {m : Store} {H : Hp} {σ : L2.St} {xs : List Sv} {vs : List V} {Q : VK} (hn : xs.length = n) (r : RepSL K tb F ρ xs vs) (o : Wo K tb F ρ m H) (q : PostE K tb W F ρ σ Q (g xs m)) : spE K tb n g vs H Q (WE W σ) := by
  refine ⟨by rw [← r.length, hn], F, ρ, xs, m, r, o, ?_⟩
  cases e : g xs m with
  | ok y m' => rw [e] at q; exact q
  | ex y m' => rw [e] at q; exact q
  | no => rw [e] at q; exact q
/-- the function asks for just so many -/
def Ar (n : Nat) (g : Fs) : Prop := ∀ xs m, xs.length ≠ n → g xs m = .no
theorem ar_of {n : Nat} {g : Fs} (h : Ar n g) {xs : List Sv} {m : Store} {F : Hp} {ρ : List Addr} {σ : L2.St} {Q : VK} (q : PostE K tb W F ρ σ Q (g xs m)) : xs.length = n := by
  by_cases e : xs.length = n
  · exact e
  · rw [h xs m e] at q; exact q.elim
theorem re_call {ps : List Str} {g : Fs} {f : Addr} {fd : FuncData} (F : Fo X.prog X.w X.K X.mg X.base tb k x ps g f fd) (hr : Room k X.A) (hgu : X.A.guards = some []) (tk : Takes X W) (ar : Ar ps.length g) (hg : Gl X x) (ha : RA X tb W (e :: es) fl)
    (hdb : (x == ("__debug__" : Str)) = false := by decide) (hs : starEach (e :: es) X.env = (false, eval e X.env) :: starEach es X.env := by rfl) (hpl : (backTo pos (starEach es X.env)).any (·.1) = false := by rfl) :
    RE X tb W (.Call (.Name x p) (e :: es) [] pos) (sCall g fl) := by
  refine PE.weak (pe_callG F.ok hr hgu hg F.mg F.kp F.bd .nil tk ha hdb hs hpl) fun σ H Q q => ?_
  obtain ⟨F', ρ, en, m, he, ho, q⟩ := tE_iff.mp q
  refine tEL_bind he ho q fun xs m1 F1 ρ1 H1 vs e1 he1 ho1 r1 q1 => ?_
  rw [List.append_nil]
  exact spE_of (ar_of ar q1) r1 ho1 q1
/-- keywords in the parameters' order -/
def KwB (K : PySem.W.Frag) (fd : FuncData) (ps : List Str) (n : Nat) (ks : List Str) : Prop := ∀ (s : Shared) (us ws : List Value), K.In s.heap → us.length = n → (us ++ ws).length = ps.length → BindsTo s fd ⟨us, ks.zip ws⟩ (ps.zip (us ++ ws))
theorem runKG {ps ks : List Str} {n : Nat} {f : Addr} {fd : FuncData} {sp : Sp} {pins : List (Addr × Obj)} {σ : L2.St} {H : Hp} {s : Shared} {Q : VK} {us ws : List Value} {vs zs : List V} (F : FnG X.prog X.w X.K X.mg X.base k f fd ps sp) (hr : Room k X.A) (hg : X.A.guards = some []) (hb : KwB X.K fd ps n ks) (hn : us.length = n) (tk : Takes X W)
    (I : Inv X pins σ H s) (r : Vals vs us) (rz : Vals zs ws) (h : sp (vs ++ zs) H Q (WE W σ)) : wpAny (model X.prog X.w) X.A (call (.ref f) us (ks.zip ws)) (EP X pins σ Q) X.xe s := by
  have rr : Vals (vs ++ zs) (us ++ ws) := r.append rz
  have ln : (us ++ ws).length = ps.length := rr.length.symm.trans (F.cnt _ _ _ _ h)
  refine wpAny_call (codeAny_mono (F.go X.A X.stack s H ⟨us, ks.zip ws⟩ (us ++ ws) (vs ++ zs) Q _ hr hg I.env0 (hb s us ws I.kIn hn ln) rr h) fun res s' hq => ?_)
  match res, hq with
  | .error e, hq => exact passAt tk σ pins H s e s' I hq
  | .ok (.ret u), hq => exact I.after hq
  | .ok .next, hq => exact hq.elim
  | .ok .brk, hq => exact hq.elim
  | .ok .cont, hq => exact hq.elim
abbrev RK (X : Cx) (tb : Tb) (W : WX) (kws : List Keyword) (f : SemL) : Prop := PK X kws (tEL X.K tb W f)
variable {kws : List Keyword} {fk : SemL} {nm : Option Str} {kpos : Pos}
theorem PK.weak {e : List Keyword} {t t' : TA} (h : PK X e t) (w : ∀ σ H Q, t' σ H Q → t σ H Q) : PK X e t' := ⟨fun pos pins s σ H Q I q => h.run pos pins s σ H Q I (w _ _ _ q)⟩
theorem rk_nil : RK X tb W [] lNil := by
  refine PK.weak pk_nil fun σ H Q q => ?_
  obtain ⟨F, ρ, en, m, he, ho, q⟩ := tEL_iff.mp q
  exact q F ρ H [] (.refl _ _) ho .nil
theorem rk_cons (ha : RE X tb W e fa) (hr : RK X tb W kws fk) : RK X tb W (⟨nm, e, kpos⟩ :: kws) (lCons fa fk) := by
  refine PK.weak (pk_cons ha hr) fun σ H Q q => ?_
  obtain ⟨F, ρ, en, m, he, ho, q⟩ := tEL_iff.mp q
  refine tE_bindL he ho q fun x m1 F1 ρ1 H1 v e1 he1 ho1 r1 q1 => ?_
  refine tEL_bindL he1 ho1 q1 fun xs m2 F2 ρ2 H2 vs e2 he2 ho2 r2 q2 => ?_
  exact q2 F2 ρ2 H2 (v :: vs) (.refl _ _) ho2 (.cons (r1.mono e2) r2)
/-- all by keywords -/
theorem re_callK0 {ps ks : List Str} {g : Fs} {f : Addr} {fd : FuncData} (F : Fo X.prog X.w X.K X.mg X.base tb k x ps g f fd) (kb : KwB X.K fd ps 0 ks) (hr : Room k X.A) (hgu : X.A.guards = some []) (tk : Takes X W) (ar : Ar ps.length g) (hg : Gl X x) (ha : RK X tb W kws fl)
    (hall : (backToKw pos (keywordEach kws X.env)).all (·.1.isSome) = true := by rfl) (hks : (backToKw pos (keywordEach kws X.env)).filterMap (·.1) = ks := by rfl) (hdb : (x == ("__debug__" : Str)) = false := by decide)
    (hpl : ((backTo pos (starEach [] X.env)).any (·.1) || (backToKw pos (keywordEach kws X.env)).any (·.1.isNone)) = false := by rfl) :
    RE X tb W (.Call (.Name x p) [] kws pos) (sCall g fl) := by
  refine ⟨fun pins s σ H Q I q => wpAny_Call_Name_kw (ld_glob I hg F.mg ?_ hdb)⟩
  obtain ⟨F', ρ, en, m, he, ho, q⟩ := tE_iff.mp q
  refine PySem.W.callWith_KW0 (h₀ := X.base) I.ok.mod.kin F.kp hall (thn (ha.run pos pins s σ H (fun vs H1 => spE X.K tb ps.length g vs H1 Q (WE W σ)) I ?_) fun us s1 hh => ?_) hpl
  · exact tEL_bind he ho q fun xs m1 F1 ρ1 H1 vs e1 he1 ho1 r1 q1 => spE_of (ar_of ar q1) r1 ho1 q1
  · obtain ⟨vs, H1, I1, r1, q1⟩ := hh
    refine ⟨I1.kIn, ?_⟩
    rw [hks]
    exact runKG (us := []) (vs := []) F.ok hr hgu kb rfl tk I1 .nil r1 q1
end
end EvL
end

section
set_option Elab.async false
set_option linter.all false
set_option maxRecDepth 100000
set_option maxHeartbeats 2000000
/-! E6: statements, the end of a def -/
namespace EvL
open PySem PySem.Spec PyProof.Rows L2
section
variable {K : PySem.W.Frag} {tb : Tb} {W : WX} {X : Cx} {a b c e tg : Expr} {es : List Expr} {fa fb fc f : Sem1} {fl : SemL} {ga gb : SemB} {pos pos' : Pos} {k : Nat} {x : Str} {D : Ends}
theorem tSt.ext {F F' : Hp} {ρ ρ' : List Addr} (ex : Ext F ρ F' ρ') {r : Sr} (h : tSt K tb W F ρ D r) : tSt K tb W F' ρ' D r := by
  cases r with
  | nx en m => exact fun F2 ρ2 σ2 H2 x2 => h F2 ρ2 σ2 H2 (ex.trans x2)
  | rt x m => exact fun F2 ρ2 H2 v x2 => h F2 ρ2 H2 v (ex.trans x2)
  | bk en m => exact fun F2 ρ2 σ2 H2 x2 => h F2 ρ2 σ2 H2 (ex.trans x2)
  | ct en m => exact fun F2 ρ2 σ2 H2 x2 => h F2 ρ2 σ2 H2 (ex.trans x2)
  | ex x en m => exact fun F2 ρ2 σ2 H2 c d x2 => h F2 ρ2 σ2 H2 c d (ex.trans x2)
  | no => exact h
/-! ### an expression, then what follows -/
def Rs.st {α : Type} (r : Rs α) (en : En) (f : α → Store → Sr) : Sr := match r with
  | .ok a m => f a m | .ex x m => .ex x en m | .no => .no
@[simp] theorem Rs.st_ok {α : Type} (a : α) (m : Store) (en : En) (f : α → Store → Sr) : (Rs.ok a m).st en f = f a m := rfl
@[simp] theorem Rs.st_ex {α : Type} (x : Ex) (m : Store) (en : En) (f : α → Store → Sr) : (Rs.ex x m : Rs α).st en f = .ex x en m := rfl
@[simp] theorem Rs.st_no {α : Type} (en : En) (f : α → Store → Sr) : (Rs.no : Rs α).st en f = .no := rfl
theorem tE_st {g : Sv → Store → Sr} {F : Hp} {ρ : List Addr} {en : En} {m : Store} {σ : L2.St} {H : Hp} {Q : VK} (he : EnvOk K tb F ρ en σ) (ho : Wo K tb F ρ m H) (h : tSt K tb W F ρ D ((f en m).st en g))
    (k : ∀ x m' F' ρ' H' v, Ext F ρ F' ρ' → EnvOk K tb F' ρ' en σ → Wo K tb F' ρ' m' H' → RepS K tb F' ρ' x v → tSt K tb W F' ρ' D (g x m') → Q v H') : tE K tb W f σ H Q := by
  refine tE_iff.mpr ⟨F, ρ, en, m, he, ho, ?_⟩
  cases e : f en m with
  | ok x m' =>
    rw [e] at h
    exact fun F' ρ' H' v ex o r => k x m' F' ρ' H' v ex (he.mono ex) o r (tSt.ext ex h)
  | ex x m' =>
    rw [e] at h
    exact fun F' ρ' H' c d ex o r => h F' ρ' σ H' c d ex (he.mono ex) o r
  | no => rw [e] at h; exact h
theorem tF_st {ff : SemF} {g : List Dv → Store → Sr} {F : Hp} {ρ : List Addr} {en : En} {m : Store} {σ : L2.St} {H : Hp} {Q : VK} (he : EnvOk K tb F ρ en σ) (ho : Wo K tb F ρ m H) (h : tSt K tb W F ρ D ((ff en m).st en g))
    (k : ∀ x m' F' ρ' H' p vs, Ext F ρ F' ρ' → EnvOk K tb F' ρ' en σ → Wo K tb F' ρ' m' H' → H' p = none → RepL K tb F' x vs → tSt K tb W F' ρ' D (g x m') → Q (.ref p) (upd H' p (.lst vs))) : tF K tb W ff σ H Q := by
  refine ⟨F, ρ, en, m, he, ho, ?_⟩
  cases e : ff en m with
  | ok x m' =>
    rw [e] at h
    exact fun F' ρ' H' p vs ex o hp r => k x m' F' ρ' H' p vs ex (he.mono ex) o hp r (tSt.ext ex h)
  | ex x m' =>
    rw [e] at h
    exact fun F' ρ' H' c d ex o r => h F' ρ' σ H' c d ex (he.mono ex) o r
  | no => rw [e] at h; exact h
theorem tB_st {g : Bool → Store → Sr} {F : Hp} {ρ : List Addr} {en : En} {m : Store} {σ : L2.St} {H : Hp} {Q : Bool → Hp → Prop} (he : EnvOk K tb F ρ en σ) (ho : Wo K tb F ρ m H) (h : tSt K tb W F ρ D ((ga en m).st en g))
    (k : ∀ x m' F' ρ' H', Ext F ρ F' ρ' → EnvOk K tb F' ρ' en σ → Wo K tb F' ρ' m' H' → tSt K tb W F' ρ' D (g x m') → Q x H') : EvL.tB K tb W ga σ H Q := by
  refine ⟨F, ρ, en, m, he, ho, ?_⟩
  cases e : ga en m with
  | ok x m' =>
    rw [e] at h
    exact fun F' ρ' H' ex o => k x m' F' ρ' H' ex (he.mono ex) o (tSt.ext ex h)
  | ex x m' =>
    rw [e] at h
    exact fun F' ρ' H' c d ex o r => h F' ρ' σ H' c d ex (he.mono ex) o r
  | no => rw [e] at h; exact h

/-! ### blocks -/
def gNext : SemS := fun en m => .nx en m
def gSeq (g1 g2 : SemS) : SemS := fun en m => match g1 en m with
  | .nx en' m' => g2 en' m'
  | r => r
theorem rss_nil : RSs X tb W [] gNext := by
  refine PSs.weak pss_nil fun D σ H q => ?_
  obtain ⟨F, ρ, en, m, he, ho, q⟩ := q
  exact q F ρ σ H (.refl _ _) he ho
variable {st : Stmt} {sts : List Stmt} {g1 g2 : SemS}
theorem rss_cons (h1 : RS X tb W st g1) (h2 : RSs X tb W sts g2) : RSs X tb W (st :: sts) (gSeq g1 g2) := by
  refine PSs.weak (pss_cons h1 h2) fun D σ H q => ?_
  obtain ⟨F, ρ, en, m, he, ho, q⟩ := q
  refine ⟨F, ρ, en, m, he, ho, ?_⟩
  unfold gSeq at q
  cases e : g1 en m with
  | nx en' m' =>
    rw [e] at q
    exact fun F' ρ' σ' H' ex he' ho' => ⟨F', ρ', en', m', he', ho', tSt.ext ex q⟩
  | rt x m' => rw [e] at q; exact q
  | bk x m' => rw [e] at q; exact q
  | ct x m' => rw [e] at q; exact q
  | ex x en' m' => rw [e] at q; exact q
  | no => rw [e] at q; exact q
theorem rss_one (h1 : RS X tb W st g1) : RSs X tb W [st] g1 := pss_one h1
def gPass : SemS := fun en m => .nx en m
def gBreak : SemS := fun en m => .bk en m
def gCont : SemS := fun en m => .ct en m
theorem rs_pass : RS X tb W (.Pass pos) gPass := PS.weak ps_pass fun D σ H ⟨F, ρ, en, m, he, ho, q⟩ => q F ρ σ H (.refl _ _) he ho
theorem rs_break : RS X tb W (.Break pos) gBreak := PS.weak ps_break fun D σ H ⟨F, ρ, en, m, he, ho, q⟩ => q F ρ σ H (.refl _ _) he ho
theorem rs_cont : RS X tb W (.Continue pos) gCont := PS.weak ps_continue fun D σ H ⟨F, ρ, en, m, he, ho, q⟩ => q F ρ σ H (.refl _ _) he ho
def gRet (f : Sem1) : SemS := fun en m => (f en m).st en fun x m' => .rt x m'
theorem rs_ret (he : RE X tb W e f) : RS X tb W (.Return (some e) pos) (gRet f) := by
  refine PS.weak (ps_ret he) fun D σ H q => ?_
  obtain ⟨F, ρ, en, m, he, ho, q⟩ := q
  exact tE_st he ho q fun x m' F' ρ' H' v ex he' ho' r q' => q' F' ρ' H' v (.refl _ _) ho' r
def gExpr (f : Sem1) : SemS := fun en m => (f en m).st en fun x m' => .nx en m'
theorem rs_expr (he : RE X tb W e f) (hs : swapsWith e none pos.line X.env = pure false := by rfl) : RS X tb W (.Expr e pos) (gExpr f) := by
  refine PS.weak (ps_expr he hs) fun D σ H q => ?_
  obtain ⟨F, ρ, en, m, he, ho, q⟩ := q
  exact tE_st he ho q fun x m' F' ρ' H' v ex he' ho' r q' => q' F' ρ' σ H' (.refl _ _) he' ho'
def gIf (t : SemB) (g1 g2 : SemS) : SemS := fun en m => (t en m).st en fun k m' => if k = true then g1 en m' else g2 en m'
theorem rs_if {s1 s2 : List Stmt} (hc : RT X tb W c ga) (h1 : RSs X tb W s1 g1) (h2 : RSs X tb W s2 g2) : RS X tb W (.If c s1 s2 pos) (gIf ga g1 g2) := by
  refine PS.weak (ps_if hc h1 h2) fun D σ H q => ?_
  obtain ⟨F, ρ, en, m, he, ho, q⟩ := q
  refine tB_st he ho q fun k m' F' ρ' H' ex he' ho' q' => ?_
  cases k with
  | true => rw [if_pos rfl] at q' ⊢; exact ⟨F', ρ', en, m', he', ho', q'⟩
  | false => rw [if_neg Bool.false_ne_true] at q' ⊢; exact ⟨F', ρ', en, m', he', ho', q'⟩

/-! ### stores -/
def gSet (i : Nat) (f : Sem1) : SemS := fun en m => (f en m).st en fun x m' => .nx (en.set i (some x)) m'
theorem rs_set {i : Nat} (hN : X.N.Nodup) (hi : X.N[i]? = some x) (hx : Loc X.env.scope x) (he : RE X tb W e f) (hf : X.fn x = true ∨ X.env.scope.names.lookup x = some .local) (hs : swapsWith e (some (.Name x pos')) pos.line X.env = pure false := by rfl) :
    RS X tb W (.Assign [.Name x pos'] e pos) (gSet i f) := by
  refine PS.weak (ps_set hN hi hx he hs hf) fun D σ H q => ?_
  obtain ⟨F, ρ, en, m, he, ho, q⟩ := q
  exact tE_st he ho q fun y m' F' ρ' H' v ex he' ho' r q' => q' F' ρ' _ H' (.refl _ _) (he'.set r i) ho'
/-- a new thing of the store -/
theorem Wo.push {F : Hp} {ρ : List Addr} {m : Store} {H : Hp} {p : Addr} {xs : List Dv} {vs : List V} (o : Wo K tb F ρ m H) (hp : H p = none) (r : RepL K tb F xs vs) : Wo K tb F (ρ ++ [p]) (m ++ [.lst xs]) (upd H p (.lst vs)) ∧ Ext F ρ F (ρ ++ [p]) := by
  have fp : F p = none := by
    cases e : F p with
    | none => rfl
    | some y => rw [o.sub p y e] at hp; cases hp
  have ne : ∀ q ∈ ρ, q ≠ p := fun q h e => o.has q h (by rw [e]; exact hp)
  refine ⟨⟨fun q y e => ?_, by simp [o.len], ?_, fun i q ys h1 h2 => ?_, fun i q ys h1 h2 => ?_, fun q h => ?_, tb.hpS _ _ o.hp fun b x e => .inr (.inr (by rw [upd_ne (ne_of_none e hp)]; exact e)), o.nt⟩, .refl F, List.prefix_append _ _⟩
  · rw [upd_ne (ne_of_none e fp)]; exact o.sub q y e
  · exact List.nodup_append.mpr ⟨o.nd, by simp, fun q h q' h' => by simp at h'; subst h'; exact ne q h⟩
  · by_cases hi : i < ρ.length
    · rw [List.getElem?_append_left hi] at h1
      rw [List.getElem?_append_left (by rw [← o.len]; exact hi)] at h2
      obtain ⟨q1, ws, q2, q3⟩ := o.lst i q ys h1 h2
      exact ⟨q1, ws, by rw [upd_ne (ne q (List.mem_of_getElem? h1))]; exact q2, q3⟩
    · rw [List.getElem?_append_right (by omega)] at h1
      rw [List.getElem?_append_right (by rw [← o.len]; omega)] at h2
      have e0 : i - ρ.length = 0 := by
        cases h : i - ρ.length with
        | zero => rfl
        | succ n => rw [h] at h1; simp at h1
      rw [e0] at h1
      rw [← o.len, e0] at h2
      simp at h1 h2
      subst h1; subst h2
      exact ⟨fp, vs, upd_same, r⟩
  · by_cases hi : i < ρ.length
    · rw [List.getElem?_append_left hi] at h1
      rw [List.getElem?_append_left (by rw [← o.len]; exact hi)] at h2
      obtain ⟨q1, ws, q2, q3⟩ := o.dic i q ys h1 h2
      exact ⟨q1, ws, by rw [upd_ne (ne q (List.mem_of_getElem? h1))]; exact q2, q3⟩
    · rw [List.getElem?_append_right (by rw [← o.len]; omega)] at h2
      cases h : i - m.length with
      | zero => rw [h] at h2; simp at h2
      | succ n => rw [h] at h2; simp at h2
  · rcases List.mem_append.mp h with h | h
    · rw [upd_ne (ne q h)]; exact o.has q h
    · simp at h; subst h; rw [upd_same]; simp
def gNew (i : Nat) (f : SemF) : SemS := fun en m => (f en m).st en fun xs m' => .nx (en.set i (some (.o m'.length))) (m' ++ [.lst xs])
theorem rs_new {i : Nat} {ff : SemF} (hN : X.N.Nodup) (hi : X.N[i]? = some x) (hx : Loc X.env.scope x) (he : RF X tb W e ff) (hf : X.fn x = true ∨ X.env.scope.names.lookup x = some .local) (hs : swapsWith e (some (.Name x pos')) pos.line X.env = pure false := by rfl) :
    RS X tb W (.Assign [.Name x pos'] e pos) (gNew i ff) := by
  refine PS.weak (ps_set hN hi hx he hs hf) fun D σ H q => ?_
  obtain ⟨F, ρ, en, m, he, ho, q⟩ := q
  refine tF_st he ho q fun xs m' F' ρ' H' p vs ex he' ho' hp r q' => ?_
  obtain ⟨o3, e3⟩ := ho'.push hp r
  refine q' F' (ρ' ++ [p]) _ _ e3 ((he'.mono e3).set (.o ?_) i) o3
  rw [← ho'.len, List.getElem?_append_right (Nat.le_refl _)]
  simp
/-! targets -/
abbrev Tgt := Sv → En → Store → Option En
/-- at most the slots sl are changed -/
def But (sl : List Nat) (σ σ' : L2.St) : Prop := σ'.length = σ.length ∧ ∀ i, i ∉ sl → σ'[i]? = σ[i]?
theorem But.trans {sl sl' : List Nat} {σ σ1 σ2 : L2.St} (h : But sl σ σ1) (h' : But sl' σ1 σ2) : But (sl ++ sl') σ σ2 :=
  ⟨h'.1.trans h.1, fun i hi => (h'.2 i fun z => hi (by simp [z])).trans (h.2 i fun z => hi (by simp [z]))⟩
theorem But.mono {sl sl' : List Nat} {σ σ' : L2.St} (h : But sl σ σ') (hs : ∀ i ∈ sl, i ∈ sl') : But sl' σ σ' := ⟨h.1, fun i hi => h.2 i fun z => hi (hs i z)⟩
theorem But.set (σ : L2.St) (i : Nat) (o : Option V) : But [i] σ (σ.set i o) := ⟨by simp, fun j hj => List.getElem?_set_ne (fun e => hj (by simp [e]))⟩
def tG (K : PySem.W.Frag) (tb : Tb) (G : Tgt) (sl : List Nat) : TG := fun v σ H Q => ∃ F ρ en m y, EnvOk K tb F ρ en σ ∧ Wo K tb F ρ m H ∧ RepS K tb F ρ y v ∧ match G y en m with
  | some en' => ∀ σ', EnvOk K tb F ρ en' σ' → But sl σ σ' → Q σ' H
  | none => False
theorem PG.weak {t t' : TG} (h : PG X e t) (w : ∀ v σ H Q, t' v σ H Q → t v σ H Q) : PG X e t' := ⟨fun pins s σ H v u Q I r q => h.run pins s σ H v u Q I r (w _ _ _ _ q)⟩
theorem PGs.weak {t t' : TGs} (h : PGs X es t) (w : ∀ v σ H Q, t' v σ H Q → t v σ H Q) : PGs X es t' := ⟨fun pins s σ H v u Q I r q => h.run pins s σ H v u Q I r (w _ _ _ _ q)⟩
abbrev RG (X : Cx) (tb : Tb) (e : Expr) (G : Tgt) (sl : List Nat) : Prop := PG X e (tG X.K tb G sl)
def tgN (i : Nat) : Tgt := fun y en _ => some (en.set i (some y))
theorem rg_name {i : Nat} (hN : X.N.Nodup) (hi : X.N[i]? = some x) (hx : Loc X.env.scope x) (hf : X.fn x = true ∨ X.env.scope.names.lookup x = some .local) : RG X tb (.Name x pos) (tgN i) [i] := by
  refine PG.weak (pg_name hN hi hx hf) fun v σ H Q q => ?_
  obtain ⟨F, ρ, en, m, y, he, ho, r, q⟩ := q
  exact q _ (he.set r i) (But.set _ _ _)
abbrev Tgts := List Dv → En → Store → Option En
def tGs (K : PySem.W.Frag) (tb : Tb) (G : Tgts) (sl : List Nat) : TGs := fun vs σ H Q => ∃ F ρ en m ys, EnvOk K tb F ρ en σ ∧ Wo K tb F ρ m H ∧ RepL K tb F ys vs ∧ match G ys en m with
  | some en' => ∀ σ', EnvOk K tb F ρ en' σ' → But sl σ σ' → Q σ' H
  | none => False
abbrev RGs (X : Cx) (tb : Tb) (es : List Expr) (G : Tgts) (sl : List Nat) : Prop := PGs X es (tGs X.K tb G sl)
def tgNil : Tgts := fun ys en _ => match ys with | [] => some en | _ => none
def tgCons (G : Tgt) (Gs : Tgts) : Tgts := fun ys en m => match ys with
  | y :: r => (match G (.d y) en m with | some en' => Gs r en' m | none => none)
  | [] => none
theorem rgs_nil : RGs X tb [] tgNil [] := by
  refine PGs.weak pgs_nil fun vs σ H Q q => ?_
  obtain ⟨F, ρ, en, m, ys, he, ho, r, q⟩ := q
  cases r with
  | nil => exact ⟨rfl, q σ he ⟨rfl, fun _ _ => rfl⟩⟩
  | cons h r => exact q.elim
theorem rgs_cons {G : Tgt} {Gs : Tgts} {s1 s2 : List Nat} (h1 : RG X tb e G s1) (h2 : RGs X tb es Gs s2) (hs : (assignEach (e :: es) X.env).map (·.2) = assign e X.env :: (assignEach es X.env).map (·.2) := by rfl) : RGs X tb (e :: es) (tgCons G Gs) (s1 ++ s2) := by
  refine PGs.weak (pgs_cons h1 h2 hs) fun vs σ H Q q => ?_
  obtain ⟨F, ρ, en, m, ys, he, ho, r, q⟩ := q
  cases r with
  | nil => exact q.elim
  | @cons y v ys vs h r =>
    refine ⟨v, vs, rfl, F, ρ, en, m, .d y, he, ho, .d h, ?_⟩
    unfold tgCons at q
    dsimp only at q
    cases e : G (.d y) en m with
    | none => rw [e] at q; exact q.elim
    | some en' =>
      rw [e] at q
      refine fun σ' he' hb => ⟨F, ρ, en', m, ys, he', ho, r, ?_⟩
      dsimp only at q
      cases e2 : Gs ys en' m with
      | none => rw [e2] at q; exact q.elim
      | some en2 =>
        rw [e2] at q
        exact fun σ2 he2 hb2 => q σ2 he2 (hb.trans hb2)
def tgTup (n : Nat) (Gs : Tgts) : Tgt := fun y en m => match y with
  | .d (.tup xs) => if xs.length = n then Gs xs en m else none
  | _ => none
theorem rg_tup {n : Nat} {k : Nat} {Gs : Tgts} {sl : List Nat} (hc : X.calm = true) (h : RGs X tb es Gs sl) (hn : (assignEach es X.env).length = n := by rfl) (hst : (assignEach es X.env).findIdx? (·.1) = none := by rfl) : RG X tb (.Tuple es k pos) (tgTup n Gs) sl := by
  refine PG.weak (pg_tup hc h hn hst) fun v σ H Q q => ?_
  obtain ⟨F, ρ, en, m, y, he, ho, r, q⟩ := q
  cases r with
  | @d y v r =>
    cases r with
    | @tup a xs vs h1 r1 =>
      unfold tgTup at q
      dsimp only at q
      split at q
      · rename_i en' hq
        split at hq
        · rename_i hl
          refine ⟨a, vs, rfl, ho.sub.sqt h1, by rw [← r1.length]; exact hl, F, ρ, en, m, xs, he, ho, r1, ?_⟩
          rw [hq]
          exact q
        · cases hq
      · exact q.elim
    | _ => exact q.elim
  | o h => exact q.elim
  | c h => exact q.elim
/-- a list unpacked -/
def tgLst (n : Nat) (Gs : Tgts) : Tgt := fun y en m => match y with
  | .d (.lst xs) => if xs.length = n then Gs xs en m else none
  | _ => none
theorem rg_lst {n : Nat} {k : Nat} {Gs : Tgts} {sl : List Nat} (hc : X.calm = true) (h : RGs X tb es Gs sl) (hn : (assignEach es X.env).length = n := by rfl) (hst : (assignEach es X.env).findIdx? (·.1) = none := by rfl) : RG X tb (.Tuple es k pos) (tgLst n Gs) sl := by
  refine PG.weak (pg_lst hc h hn hst) fun v σ H Q q => ?_
  obtain ⟨F, ρ, en, m, y, he, ho, r, q⟩ := q
  cases r with
  | @d y v r =>
    cases r with
    | @lst a xs vs h1 r1 =>
      unfold tgLst at q
      dsimp only at q
      split at q
      · rename_i en' hq
        split at hq
        · rename_i hl
          refine ⟨a, vs, rfl, .inl (.inl (ho.sub _ _ h1)), by rw [← r1.length]; exact hl, F, ρ, en, m, xs, he, ho, r1, ?_⟩
          rw [hq]
          exact q
        · cases hq
      · exact q.elim
    | _ => exact q.elim
  | o h => exact q.elim
  | c h => exact q.elim
def gAsg (f : Sem1) (G : Tgt) : SemS := fun en m => (f en m).st en fun x m' => match G x en m' with
  | some en' => .nx en' m'
  | none => .no
theorem rs_asg {G : Tgt} {sl : List Nat} (he : RE X tb W e f) (hg : RG X tb tg G sl) (hs : swapsWithSole [tg] e pos.line X.env = pure false := by rfl) (hw : swappedStores [tg] e X.env = pure none := by rfl)
    (h1 : (assignEach [tg] X.env).map (·.2) = [assign tg X.env] := by rfl) : RS X tb W (.Assign [tg] e pos) (gAsg f G) := by
  refine PS.weak (ps_asg he hg hs hw h1) fun D σ H q => ?_
  obtain ⟨F, ρ, en, m, he, ho, q⟩ := q
  refine tE_st he ho q fun y m' F' ρ' H' v ex he' ho' r q' => ?_
  refine ⟨F', ρ', en, m', y, he', ho', r, ?_⟩
  cases e : G y en m' with
  | none => rw [e] at q'; exact q'.elim
  | some en' =>
    rw [e] at q'
    exact fun σ' he2 _ => q' F' ρ' σ' H' (.refl _ _) he2 ho'
/-- a, b = x, y -/
def gPar (i j : Nat) (fl : SemL) : SemS := fun en m => (fl en m).st en fun xs m' => match xs with
  | [u, w] => .nx ((en.set i (some u)).set j (some w)) m'
  | _ => .no
theorem tEL_st {g : List Sv → Store → Sr} {F : Hp} {ρ : List Addr} {en : En} {m : Store} {σ : L2.St} {H : Hp} {Q : List V → Hp → Prop} (he : EnvOk K tb F ρ en σ) (ho : Wo K tb F ρ m H) (h : tSt K tb W F ρ D ((fl en m).st en g))
    (k : ∀ x m' F' ρ' H' v, Ext F ρ F' ρ' → EnvOk K tb F' ρ' en σ → Wo K tb F' ρ' m' H' → RepSL K tb F' ρ' x v → tSt K tb W F' ρ' D (g x m') → Q v H') : tEL K tb W fl σ H Q := by
  refine tEL_iff.mpr ⟨F, ρ, en, m, he, ho, ?_⟩
  cases e : fl en m with
  | ok x m' =>
    rw [e] at h
    exact fun F' ρ' H' v ex o r => k x m' F' ρ' H' v ex (he.mono ex) o r (tSt.ext ex h)
  | ex x m' =>
    rw [e] at h
    exact fun F' ρ' H' c d ex o r => h F' ρ' σ H' c d ex (he.mono ex) o r
  | no => rw [e] at h; exact h
variable {i j : Nat} {y : Str} {px py pt pt2 : Pos} {kt k2 : Nat}
theorem rs_par (hc : X.calm = true) (hN : X.N.Nodup) (hi : X.N[i]? = some x) (hj : X.N[j]? = some y) (hij : i ≠ j) (hx : X.env.scope.names.lookup x = some .local) (hy : X.env.scope.names.lookup y = some .local) (ha : RA X tb W [a, b] fl)
    (hw : swappedStores [.Tuple [.Name x px, .Name y py] kt pt] (.Tuple [a, b] k2 pt2) X.env = pure (some [x, y]) := by rfl) (hs : swapsWithSole [.Tuple [.Name x px, .Name y py] kt pt] (.Tuple [a, b] k2 pt2) pos.line X.env = pure false := by rfl) :
    RS X tb W (.Assign [.Tuple [.Name x px, .Name y py] kt pt] (.Tuple [a, b] k2 pt2) pos) (gPar i j fl) := by
  refine PS.weak (ps_par hc hN hi hj hij hx hy ha hw hs) fun D σ H q => ?_
  obtain ⟨F, ρ, en, m, he, ho, q⟩ := q
  refine tEL_st he ho q fun xs m' F' ρ' H' vs ex he' ho' r q' => ?_
  cases r with
  | nil => exact q'.elim
  | cons r1 r =>
    cases r with
    | nil => exact q'.elim
    | cons r2 r =>
      cases r with
      | nil => exact ⟨_, _, rfl, q' F' ρ' _ H' (.refl _ _) ((he'.set r1 i).set r2 j) ho'⟩
      | cons r3 r => exact q'.elim
/-- x += e of ints -/
def gAug (i : Nat) (op : Int → Int → Int) (f : Sem1) : SemS := fun en m => match en[i]? with
  | some (some (.d (.int u))) => (f en m).st en fun y m' => match rv m' y with
    | some (.int w) => .nx (en.set i (some (.d (.int (op u w))))) m'
    | _ => .no
  | _ => .no
theorem rs_aug {op : Operator} {g : Int → Int → Int} (ho : PIp X op (ipI g)) (hN : X.N.Nodup) (hi : X.N[i]? = some x) (hx : Loc X.env.scope x) (he : RE X tb W e f) (hf : X.fn x = true ∨ X.env.scope.names.lookup x = some .local) :
    RS X tb W (.AugAssign (.Name x pos') op e pos) (gAug i g f) := by
  refine PS.weak (ps_aug hN hi hx he ho hf) fun D σ H q => ?_
  obtain ⟨F, ρ, en, m, he, ho, q⟩ := q
  unfold gAug at q
  split at q
  · rename_i u hu
    obtain ⟨v, hv, r⟩ := he.at_ i _ hu
    cases r with
    | d r =>
    cases r
    refine ⟨_, hv, tE_st he ho q fun y m' F' ρ' H' w ex he' ho' r q' => ?_⟩
    split at q'
    · rename_i w' hw
      exact ⟨u, w', rfl, (rv_top ho' r hw).int, q' F' ρ' _ H' (.refl _ _) (he'.set (.d (.int _)) i) ho'⟩
    · exact q'.elim
  · exact q.elim
/-! ### lists of the store, changed -/
theorem Wo.setL {F : Hp} {ρ : List Addr} {m : Store} {H : Hp} {i : Nat} {p : Addr} {xs ys : List Dv} {vs : List V} (o : Wo K tb F ρ m H) (hp : ρ[i]? = some p) (hm : m[i]? = some (.lst xs)) (r : RepL K tb F ys vs) : Wo K tb F ρ (m.set i (.lst ys)) (upd H p (.lst vs)) := by
  obtain ⟨q1, ws, q2, q3⟩ := o.lst i p xs hp hm
  refine ⟨fun q y e => ?_, by rw [List.length_set]; exact o.len, o.nd, fun l q zs h1 h2 => ?_, fun l q zs h1 h2 => ?_, fun q h => ?_, tb.hpS _ _ o.hp fun b x e => if h : b = p then .inl ⟨ws, by subst h; rw [q2] at e; cases e; rfl⟩ else .inr (.inr (by rw [upd_ne h]; exact e)), o.nt⟩
  · rw [upd_ne (ne_of_none e q1)]; exact o.sub q y e
  · by_cases h : i = l
    · subst h
      rw [hp] at h1; cases h1
      rw [List.getElem?_set_self (List.getElem?_eq_some_iff.mp hm).1] at h2
      cases h2
      exact ⟨q1, vs, upd_same, r⟩
    · rw [List.getElem?_set_ne h] at h2
      obtain ⟨a1, ws', a2, a3⟩ := o.lst l q zs h1 h2
      exact ⟨a1, ws', by rw [upd_ne (get_nodup o.nd h1 hp (Ne.symm h))]; exact a2, a3⟩
  · by_cases h : i = l
    · subst h
      rw [List.getElem?_set_self (List.getElem?_eq_some_iff.mp hm).1] at h2
      cases h2
    · rw [List.getElem?_set_ne h] at h2
      obtain ⟨a1, ws', a2, a3⟩ := o.dic l q zs h1 h2
      exact ⟨a1, ws', by rw [upd_ne (get_nodup o.nd h1 hp (Ne.symm h))]; exact a2, a3⟩
  · by_cases h' : q = p
    · subst h'; rw [upd_same]; simp
    · rw [upd_ne h']; exact o.has q h
def gApp (i : Nat) (f : Sem1) : SemS := fun en m => match en[i]? with
  | some (some (.o j)) => (match m[j]? with
    | some (.lst _) => (f en m).st en fun y m' => match frz m' y with
      | some (d, m2) => (match m2[j]? with
        | some (.lst xs) => if fits (xs.length + 1) then .nx en (m2.set j (.lst (xs ++ [d]))) else .no
        | _ => .no)
      | none => .no
    | _ => .no)
  | _ => .no
variable {p1 p2 p3 : Pos}
theorem rs_app (hi : PE X (.Name x p1) (tVar i)) (he : RE X tb W e f) (hs : swapsWith (.Call (.Attribute (.Name x p1) "append" p2) [e] [] p3) none pos.line X.env = pure false := by rfl)
    (hst : starEach [e] X.env = (false, eval e X.env) :: starEach [] X.env := by rfl)
    (hb : PE X (.Call (.Attribute (.Name x p1) "append" p2) [e] [] p3) (tBM X.K "list" rAppend (tVar i) (tCons (tE X.K tb W f) tNil))) : RS X tb W (.Expr (.Call (.Attribute (.Name x p1) "append" p2) [e] [] p3) pos) (gApp i f) := by
  refine PS.weak (ps_expr hb hs) fun D σ H q => ?_
  obtain ⟨F, ρ, en, m, he, ho, q⟩ := q
  unfold gApp at q
  split at q
  · rename_i j hj
    obtain ⟨v, hv, r⟩ := he.at_ i _ hj
    cases r with
    | @o j p hp =>
    split at q
    · rename_i ys hys
      obtain ⟨_, ws, hws, _⟩ := ho.lst j p ys hp hys
      refine ⟨_, hv, .inl ⟨rfl, ws, .inl (.inl hws)⟩, tE_st he ho q fun y m' F' ρ' H' w ex he' ho' r q' => ?_⟩
      split at q'
      · rename_i d m2 hd
        obtain ⟨F2, e2, o2, r2⟩ := frz_ok ho' r hd
        split at q'
        · rename_i xs hx
          split at q'
          · rename_i hz
            have hp' := pre_get ex.pre hp
            obtain ⟨_, us, hus, ru⟩ := o2.lst j p xs hp' hx
            refine ⟨p, us, w, rfl, rfl, hus, ?_, ?_⟩
            · rw [← ru.length]
              exact Nat.lt_of_lt_of_le (Nat.lt_succ_self _) (fits_ok hz)
            · exact q' F2 ρ' σ _ e2 (he'.mono e2) (o2.setL hp' hx (ru.append (.cons r2 .nil)))
          · exact q'.elim
        · exact q'.elim
      · exact q'.elim
    · exact q.elim
  · exact q.elim
/-- xs[a] = e, xs a list of the store -/
def gPutL (i : Nat) (fa f : Sem1) : SemS := fun en m => (f en m).st en fun y m1 => match en[i]? with
  | some (some (.o j)) => (fa en m1).st en fun z m2 => match frz m2 y with
    | some (d, m3) => (match rv m3 z, m3[j]? with
      | some (.int l), some (.lst xs) => (match ixN xs.length l with | some n => .nx en (m3.set j (.lst (xs.set n d))) | none => .no)
      | _, _ => .no)
    | none => .no
  | _ => .no
theorem rs_putL (hi : PE X (.Name x p1) (tVar i)) (hx : RE X tb W a fa) (he : RE X tb W e f)
    (ha : ∀ v, assign (.Subscript (.Name x p1) a p2) X.env v = (do
      let ov ← holding [v] (eval (.Name x p1) X.env)
      let iv ← holding [v, ov] (eval a X.env)
      standAt p2
      holding [v, ov, iv] (setItem ov iv v)
      release [v, ov, iv] []) := by intro _; rfl)
    (hs : swapsWithSole [.Subscript (.Name x p1) a p2] e pos.line X.env = pure false := by rfl) (hw : swappedStores [.Subscript (.Name x p1) a p2] e X.env = pure none := by rfl)
    (h1 : (assignEach [.Subscript (.Name x p1) a p2] X.env).map (·.2) = [assign (.Subscript (.Name x p1) a p2) X.env] := by rfl) : RS X tb W (.Assign [.Subscript (.Name x p1) a p2] e pos) (gPutL i fa f) := by
  refine PS.weak (ps_asg he (pg_sub hi hx set_list ha) hs hw h1) fun D σ H q => ?_
  obtain ⟨F, ρ, en, m, he, ho, q⟩ := q
  refine tE_st he ho q fun y m1 F1 ρ1 H1 v e1 he1 ho1 r1 q1 => ?_
  split at q1
  · rename_i j hj
    obtain ⟨u, hu, r⟩ := he1.at_ i _ hj
    refine ⟨u, hu, tE_st he1 ho1 q1 fun z m2 F2 ρ2 H2 w e2 he2 ho2 r2 q2 => ?_⟩
    cases r with
    | @o j p hp =>
    split at q2
    · rename_i d m3 hd
      obtain ⟨F3, e3, o3, r3⟩ := frz_ok ho2 (r1.mono e2) hd
      split at q2
      · rename_i l xs hl hx
        split at q2
        · rename_i n hn
          have hp' := pre_get e2.pre hp
          obtain ⟨_, us, hus, ru⟩ := o3.lst j p xs hp' hx
          refine ⟨p, us, l, n, rfl, (rv_top o3 (r2.mono e3) hl).int, hus, by rw [← ru.length]; exact hn, ?_⟩
          exact q2 F3 ρ2 σ _ e3 (he2.mono e3) (o3.setL hp' hx (ru.set r3 n))
        · exact q2.elim
      · exact q2.elim
    · exact q2.elim
  · exact q1.elim
end
end EvL
end

section
set_option Elab.async false
set_option linter.all false
set_option maxRecDepth 100000
set_option maxHeartbeats 2000000
/-! E7: what is walked, for, while, comprehensions -/
namespace EvL
open PySem PySem.Spec PyProof.Rows L2 RZ
section
variable {K : PySem.W.Frag} {tb : Tb} {W : WX} {X : Cx} {a b c e tg : Expr} {es : List Expr} {fa fb fc f : Sem1} {fl : SemL} {ga gb : SemB} {pos pos' : Pos} {k : Nat} {x : Str} {D : Ends}
theorem PI.weak {iter : Expr} {t t' : TI} (h : PI X tg iter t) (w : ∀ σ H R, t' σ H R → t σ H R) : PI X tg iter t' := ⟨fun pins s σ H R I q => h.run pins s σ H R I (w _ _ _ q)⟩
/-- J walks these items over F -/
def WalkE (K : PySem.W.Frag) (tb : Tb) (F : Hp) (J : It) (items : List Dv) : Prop := ∃ (G : Hp → Prop) (Y : Nat → Hp → V → Hp → Prop), Walk J items.length G Y ∧ (∀ H, Le F H → G H) ∧
  ∀ i H x H' F1 ρ1 m1, i < items.length → Le F F1 → Wo K tb F1 ρ1 m1 H → Y i H x H' → ∃ F2 d, Ext F1 ρ1 F2 ρ1 ∧ Wo K tb F2 ρ1 m1 H' ∧ items[i]? = some d ∧ Rep K tb F2 d x
def PostI (K : PySem.W.Frag) (tb : Tb) (W : WX) (F : Hp) (ρ : List Addr) (σ : L2.St) (R : It → Hp → Prop) : Rs (List Dv) → Prop
  | .ok items m' => ∀ F' ρ' H' J, Ext F ρ F' ρ' → Wo K tb F' ρ' m' H' → WalkE K tb F' J items → R J H'
  | .ex x m' => ∀ F' ρ' H' c d, Ext F ρ F' ρ' → Wo K tb F' ρ' m' H' → XRep K tb F' x c d → W c d σ H'
  | .no => False
def tI (K : PySem.W.Frag) (tb : Tb) (W : WX) (fi : SemF) : TI := fun σ H R => ∃ F ρ en m, EnvOk K tb F ρ en σ ∧ Wo K tb F ρ m H ∧ PostI K tb W F ρ σ R (fi en m)
abbrev RI (X : Cx) (tb : Tb) (W : WX) (tg iter : Expr) (fi : SemF) : Prop := PI X tg iter (tI X.K tb W fi)
theorem PostI.ext {F F' : Hp} {ρ ρ' : List Addr} {σ : L2.St} {R : It → Hp → Prop} (ex : Ext F ρ F' ρ') {r : Rs (List Dv)} (h : PostI K tb W F ρ σ R r) : PostI K tb W F' ρ' σ R r := by
  cases r with
  | ok y m2 => exact fun F2 ρ2 H2 J x2 => h F2 ρ2 H2 J (ex.trans x2)
  | ex y m2 => exact fun F2 ρ2 H2 c d x2 => h F2 ρ2 H2 c d (ex.trans x2)
  | no => exact h
theorem tE_bindI {g : Sv → Store → Rs (List Dv)} {F : Hp} {ρ : List Addr} {en : En} {m : Store} {σ : L2.St} {H : Hp} {Q : VK} {R : It → Hp → Prop} (he : EnvOk K tb F ρ en σ) (ho : Wo K tb F ρ m H) (h : PostI K tb W F ρ σ R ((f en m).bind g))
    (k : ∀ x m' F' ρ' H' v, Ext F ρ F' ρ' → EnvOk K tb F' ρ' en σ → Wo K tb F' ρ' m' H' → RepS K tb F' ρ' x v → PostI K tb W F' ρ' σ R (g x m') → Q v H') : tE K tb W f σ H Q := by
  refine tE_iff.mpr ⟨F, ρ, en, m, he, ho, ?_⟩
  cases e : f en m with
  | ok x m' =>
    rw [e] at h
    exact fun F' ρ' H' v ex o r => k x m' F' ρ' H' v ex (he.mono ex) o r (PostI.ext ex h)
  | ex x m' => rw [e] at h; exact h
  | no => rw [e] at h; exact h
theorem tEL_bindI {g : List Sv → Store → Rs (List Dv)} {F : Hp} {ρ : List Addr} {en : En} {m : Store} {σ : L2.St} {H : Hp} {Q : List V → Hp → Prop} {R : It → Hp → Prop} (he : EnvOk K tb F ρ en σ) (ho : Wo K tb F ρ m H) (h : PostI K tb W F ρ σ R ((fl en m).bind g))
    (k : ∀ x m' F' ρ' H' v, Ext F ρ F' ρ' → EnvOk K tb F' ρ' en σ → Wo K tb F' ρ' m' H' → RepSL K tb F' ρ' x v → PostI K tb W F' ρ' σ R (g x m') → Q v H') : tEL K tb W fl σ H Q := by
  refine tEL_iff.mpr ⟨F, ρ, en, m, he, ho, ?_⟩
  cases e : fl en m with
  | ok x m' =>
    rw [e] at h
    exact fun F' ρ' H' v ex o r => k x m' F' ρ' H' v ex (he.mono ex) o r (PostI.ext ex h)
  | ex x m' => rw [e] at h; exact h
  | no => rw [e] at h; exact h

/-! ### lists, tuples -/
def iAny (K : PySem.W.Frag) (tl : TE) : TI := fun σ H R => tl σ H fun x H1 => ∃ p, x = .ref p ∧ ((∃ xs, SqL K H1 p xs ∧ R (Itl K p) H1) ∨ (∃ xs, SqT K H1 p xs ∧ R (Itt K p) H1))
theorem pi_any {l : Expr} {tl : TE} (hl : PE X l tl) : PI X tg l (iAny X.K tl) := by
  refine ⟨fun pins s σ H R I h => thn (hl.run pins s σ H _ I h) fun v s1 hh => ?_⟩
  obtain ⟨y, H1, I1, r1, p, rfl, hq⟩ := hh
  obtain rfl : v = Value.ref p := r1
  have fp : ∀ q : List Addr, ∀ b ∈ [s1.heap.objs.size], FpOk X pins H1 b := fun _ b hb => by
    obtain rfl : b = s1.heap.objs.size := by simpa using hb
    exact I1.fpOk (Nat.le_refl _) (I1.hok.fresh (Nat.le_refl _))
  rcases hq with ⟨xs, hq, q⟩ | ⟨xs, hq, q⟩
  · obtain ⟨its, rv, pl, hz⟩ := I1.list hq
    exact wpAny_pyIter_list pl.isList ⟨_, _, _, _, H1, rfl, I1.kept (t' := s1.toks) fun b o z => Heap.get?_push_of_some _ z, turn_list p _, ⟨_, Heap.get?_push_size _ rfl, rfl, rfl⟩, fp [], q⟩
  · obtain ⟨its, rv, pl, hz⟩ := I1.tuple hq
    exact wpAny_pyIter_tuple (show s1.heap.IsTuple p its.toArray from pl) ⟨_, _, _, _, H1, rfl, I1.kept (t' := s1.toks) fun b o z => Heap.get?_push_of_some _ z, turn_tuple p _, ⟨_, Heap.get?_push_size _ rfl, rfl, rfl⟩, fp [], q⟩
theorem walkE_list {F : Hp} {p : Addr} {xs : List Dv} {vs : List V} (h : SqL K F p vs) (r : RepL K tb F xs vs) : WalkE K tb F (Itl K p) xs := by
  refine ⟨fun H => SqL K H p vs, YAt vs, by rw [r.length]; exact walk_list, fun H l => l.sql h, fun i H y H' F1 ρ1 m1 hi l o q => ?_⟩
  obtain ⟨rfl, hx⟩ := q
  obtain ⟨d, hd, rr⟩ := r.getV hx
  exact ⟨F1, d, .refl _ _, o, hd, rr.mono l⟩
theorem walkE_tup {F : Hp} {p : Addr} {xs : List Dv} {vs : List V} (h : SqT K F p vs) (r : RepL K tb F xs vs) : WalkE K tb F (Itt K p) xs := by
  refine ⟨fun H => SqT K H p vs, YAt vs, by rw [r.length]; exact walk_tup, fun H l => l.sqt h, fun i H y H' F1 ρ1 m1 hi l o q => ?_⟩
  obtain ⟨rfl, hx⟩ := q
  obtain ⟨d, hd, rr⟩ := r.getV hx
  exact ⟨F1, d, .refl _ _, o, hd, rr.mono l⟩
def items (d : Dv) : Option (List Dv) := match d with
  | .lst xs => some xs
  | .tup xs => some xs
  | .scr ns => some (ns.map .int)
  | _ => none
def iSeq (f : Sem1) : SemF := fun en m => (f en m).bind fun x m1 => match frz m1 x with
  | some (d, m2) => (match items d with | some xs => .ok xs m2 | none => .no)
  | none => .no
theorem ri_seq {l : Expr} (hl : RE X tb W l f) : RI X tb W tg l (iSeq f) := by
  refine PI.weak (pi_any hl) fun σ H R q => ?_
  obtain ⟨F, ρ, en, m, he, ho, q⟩ := q
  refine tE_bindI he ho q fun y m1 F1 ρ1 H1 v e1 he1 ho1 r1 q1 => ?_
  split at q1
  · rename_i d m2 hd
    obtain ⟨F2, e2, o2, r2⟩ := frz_ok ho1 r1 hd
    split at q1
    · rename_i xs hx
      cases r2 <;> simp only [items, Option.some.injEq, reduceCtorEq] at hx
      · subst hx
        rename_i p ys vs h r
        exact ⟨p, rfl, .inr ⟨vs, o2.sub.sqt h, q1 F2 ρ1 H1 _ e2 o2 (walkE_tup h r)⟩⟩
      · subst hx
        rename_i p ys vs h r
        exact ⟨p, rfl, .inl ⟨vs, .inl (.inl (o2.sub _ _ h)), q1 F2 ρ1 H1 _ e2 o2 (walkE_list (.inl (.inl h)) r)⟩⟩
      · subst hx
        rename_i p ns h
        exact ⟨p, rfl, .inl ⟨_, o2.sub.sql h, q1 F2 ρ1 H1 _ e2 o2 (walkE_list h (RepL.ints ns))⟩⟩
    · exact q1.elim
  · exact q1.elim
/-! ### range -/
def rngOk (i : Int) : Bool := decide (-(2 ^ 62) ≤ i) && decide (i < 2 ^ 62)
def rng (lo hi : Int) : List Dv := (List.range (hi - lo).toNat).map fun (i : Nat) => Dv.int (lo + (i : Int))
theorem walkE_rng {F : Hp} {lo : Int} {n : Nat} : WalkE K tb F (Itr lo n) ((List.range n).map fun (i : Nat) => Dv.int (lo + (i : Int))) := by
  refine ⟨fun _ => True, YFn fun i => .int (lo + (i : Int)), by rw [List.length_map, List.length_range]; exact walk_range, fun _ _ => trivial, fun i H y H' F1 ρ1 m1 hi l o q => ?_⟩
  obtain ⟨rfl, rfl⟩ := q
  rw [List.length_map, List.length_range] at hi
  exact ⟨F1, .int (lo + (i : Int)), .refl _ _, o, by simp [hi], .int _⟩
def iRange1 (f : Sem1) : SemF := fun en m => (f en m).bind fun x m1 => match rv m1 x with
  | some (.int j) => if rngOk j then .ok (rng 0 j) m1 else .no
  | _ => .no
variable {p : Pos}
theorem ri_range1 (hg : Gl X "range") (hm : X.mg "range" = none) (ha : RE X tb W a fa) (hs : starEach [a] X.env = [(false, eval a X.env)] := by rfl) (hs2 : starEach [a] X.env = (false, eval a X.env) :: starEach [] X.env := by rfl) : RI X tb W tg (.Call (.Name "range" p) [a] [] pos) (iRange1 fa) := by
  refine PI.weak (pi_range1 hg hm (pa_cons ha pa_nil hs2) hs) fun σ H R q => ?_
  obtain ⟨F, ρ, en, m, he, ho, q⟩ := q
  refine tE_bindI he ho q fun y m1 F1 ρ1 H1 v e1 he1 ho1 r1 q1 => ?_
  split at q1
  · rename_i j hj
    split at q1
    · rename_i hz
      simp only [rngOk, Bool.and_eq_true, decide_eq_true_eq] at hz
      refine ⟨j, by rw [(rv_top ho1 r1 hj).int], hz.1, hz.2, q1 F1 ρ1 H1 _ (.refl _ _) ho1 ?_⟩
      have := walkE_rng (K := X.K) (tb := tb) (F := F1) (lo := 0) (n := j.toNat)
      unfold rng
      rw [Int.sub_zero]
      exact this
    · exact q1.elim
  · exact q1.elim
def iRange2 (f g : Sem1) : SemF := fun en m => (f en m).bind fun x m1 => (g en m1).bind fun y m2 => match rv m2 x, rv m2 y with
  | some (.int i), some (.int j) => if rngOk i && rngOk j then .ok (rng i j) m2 else .no
  | _, _ => .no
theorem ri_range2 (hg : Gl X "range") (hm : X.mg "range" = none) (ha : RE X tb W a fa) (hb : RE X tb W b fb) (hs : starEach [a, b] X.env = [(false, eval a X.env), (false, eval b X.env)] := by rfl) (hs2 : starEach [a, b] X.env = (false, eval a X.env) :: starEach [b] X.env := by rfl) (hs3 : starEach [b] X.env = (false, eval b X.env) :: starEach [] X.env := by rfl) (hs4 : starEach [b] X.env = [(false, eval b X.env)] := by rfl) :
    RI X tb W tg (.Call (.Name "range" p) [a, b] [] pos) (iRange2 fa fb) := by
  refine PI.weak (pi_range2 hg hm (pa_cons ha (pa_cons hb pa_nil hs3) hs2) hs hs4) fun σ H R q => ?_
  obtain ⟨F, ρ, en, m, he, ho, q⟩ := q
  refine tE_bindI he ho q fun y m1 F1 ρ1 H1 v e1 he1 ho1 r1 q1 => ?_
  refine tE_bindI he1 ho1 q1 fun z m2 F2 ρ2 H2 w e2 he2 ho2 r2 q2 => ?_
  split at q2
  · rename_i i j hi hj
    split at q2
    · rename_i hz
      simp only [rngOk, Bool.and_eq_true, decide_eq_true_eq] at hz
      exact ⟨i, j, by rw [(rv_top ho2 (r1.mono e2) hi).int, (rv_top ho2 r2 hj).int], ⟨hz.1.1, hz.1.2, hz.2.1, hz.2.2⟩, q2 F2 ρ2 H2 _ (.refl _ _) ho2 walkE_rng⟩
    · exact q2.elim
  · exact q2.elim
/-! ### zip of two lists, of two tuples -/
def pairs (xs ys : List Dv) : List Dv := List.zipWith (fun x y => Dv.tup [x, y]) xs ys
theorem walkE_pair {F : Hp} {J : It} {xs ys : List Dv} {vs ws : List V} {G : Hp → Prop} {n : Nat} (hn : n = min vs.length ws.length) (w : Walk J n G (YPair (fun i => vs[i]?) (fun i => ws[i]?))) (g : ∀ H, Le F H → G H) (r1 : RepL K tb F xs vs) (r2 : RepL K tb F ys ws) : WalkE K tb F J (pairs xs ys) := by
  have ln : (pairs xs ys).length = n := by rw [hn]; unfold pairs; rw [List.length_zipWith, r1.length, r2.length]
  refine ⟨G, _, by rw [ln]; exact w, g, fun i H y H' F1 ρ1 m1 hi l o q => ?_⟩
  obtain ⟨T, u, z, rfl, hT, rfl, hu, hz⟩ := q
  obtain ⟨d1, h1, s1⟩ := r1.getV hu
  obtain ⟨d2, h2, s2⟩ := r2.getV hz
  obtain ⟨o3, e3⟩ := o.alloc hT (.tup [u, z])
  refine ⟨_, .tup [d1, d2], e3, o3, ?_, .tup (.inl (.inl upd_same)) (.cons ((s1.mono l).mono e3.le) (.cons ((s2.mono l).mono e3.le) .nil))⟩
  unfold pairs
  rw [List.getElem?_zipWith, h1, h2]
def zipD (x y : Dv) : Option (List Dv) := match x, y with
  | .lst xs, .lst ys => some (pairs xs ys)
  | .tup xs, .tup ys => some (pairs xs ys)
  | _, _ => none
def iZip (f g : Sem1) : SemF := fun en m => (f en m).bind fun x m1 => (g en m1).bind fun y m2 => match frz m2 x with
  | some (d, m3) => (match frz m3 y with
    | some (e, m4) => (match zipD d e with | some xs => .ok xs m4 | none => .no)
    | none => .no)
  | none => .no
theorem ri_zip {elts : List Expr} {kk : Nat} {tpos : Pos} (hg : Gl X "zip") (hm : X.mg "zip" = none) (ha : RE X tb W a fa) (hb : RE X tb W b fb) (hs : starEach [a, b] X.env = (false, eval a X.env) :: starEach [b] X.env := by rfl) (hs3 : starEach [b] X.env = (false, eval b X.env) :: starEach [] X.env := by rfl) (hpl : (backTo pos (starEach [b] X.env)).any (·.1) = false := by rfl) :
    RI X tb W (.Tuple elts kk tpos) (.Call (.Name "zip" p) [a, b] [] pos) (iZip fa fb) := by
  refine PI.weak (pi_zipA hg hm (pa_cons ha (pa_cons hb pa_nil hs3) hs) hs hpl) fun σ H R q => ?_
  obtain ⟨F, ρ, en, m, he, ho, q⟩ := q
  refine tE_bindI he ho q fun y m1 F1 ρ1 H1 v e1 he1 ho1 r1 q1 => ?_
  refine tE_bindI he1 ho1 q1 fun z m2 F2 ρ2 H2 w e2 he2 ho2 r2 q2 => ?_
  split at q2
  · rename_i d m3 hd
    obtain ⟨F3, e3, o3, r3⟩ := frz_ok ho2 (r1.mono e2) hd
    split at q2
    · rename_i d' m4 hd'
      obtain ⟨F4, e4, o4, r4⟩ := frz_ok o3 (r2.mono e3) hd'
      have r5 := r3.mono e4.le
      split at q2
      · rename_i xs hx
        cases r5 <;> cases r4 <;> simp only [zipD, Option.some.injEq, reduceCtorEq] at hx
        · subst hx
          rename_i p1 ys vs h r p2 ys2 vs2 h2 r2'
          exact ⟨p1, p2, vs, vs2, rfl, .inr ⟨o4.sub.sqt h, o4.sub.sqt h2, q2 F4 ρ2 H2 _ (e3.trans e4) o4 (walkE_pair rfl (walk_zipT rfl) (fun H l => ⟨l.sqt h, l.sqt h2⟩) r r2')⟩⟩
        · subst hx
          rename_i p1 ys vs h r p2 ys2 vs2 h2 r2'
          exact ⟨p1, p2, vs, vs2, rfl, .inl ⟨.inl (.inl (o4.sub _ _ h)), .inl (.inl (o4.sub _ _ h2)), q2 F4 ρ2 H2 _ (e3.trans e4) o4 (walkE_pair rfl (walk_zip rfl) (fun H l => ⟨.inl (.inl (l _ _ h)), .inl (.inl (l _ _ h2))⟩) r r2')⟩⟩
      · exact q2.elim
    · exact q2.elim
  · exact q2.elim
where
  walk_zipT {K : PySem.W.Frag} {a b : Addr} {xs ys : List V} {n : Nat} (hn : n = min xs.length ys.length) : Walk (ItzT K a b) n (fun H => SqT K H a xs ∧ SqT K H b ys) (YPair (fun i => xs[i]?) (fun i => ys[i]?)) := by
    subst hn
    refine ⟨fun i H hi q => ⟨xs, ys, xs[i]'(by omega), ys[i]'(by omega), q.1, q.2, by simp, by simp⟩, fun H q => ⟨xs, ys, q.1, q.2, by omega⟩, fun i H v H' hi q z => ?_⟩
    obtain ⟨T, u, w, h1, h2, h3, h4, h5⟩ := z
    exact ⟨T, u, w, h1, h2, h3, h4 xs q.1, h5 ys q.2⟩

/-! ### for -/
def loop (G : Tgt) (body : SemS) : List Dv → SemS
  | [], en, m => .nx en m
  | d :: ds, en, m => match G (.d d) en m with
    | none => .no
    | some en' => match body en' m with
      | .nx e2 m2 => loop G body ds e2 m2
      | .ct e2 m2 => loop G body ds e2 m2
      | .bk e2 m2 => .nx e2 m2
      | .rt y m2 => .rt y m2
      | .ex y e2 m2 => .ex y e2 m2
      | .no => .no
def gFor (fi : SemF) (G : Tgt) (body : SemS) : SemS := fun en m => (fi en m).st en fun xs m' => loop G body xs en m'
theorem tI_st {fi : SemF} {g : List Dv → Store → Sr} {F : Hp} {ρ : List Addr} {en : En} {m : Store} {σ : L2.St} {H : Hp} {R : It → Hp → Prop} (he : EnvOk K tb F ρ en σ) (ho : Wo K tb F ρ m H) (h : tSt K tb W F ρ D ((fi en m).st en g))
    (k : ∀ xs m' F' ρ' H' J, Ext F ρ F' ρ' → EnvOk K tb F' ρ' en σ → Wo K tb F' ρ' m' H' → WalkE K tb F' J xs → tSt K tb W F' ρ' D (g xs m') → R J H') : tI K tb W fi σ H R := by
  refine ⟨F, ρ, en, m, he, ho, ?_⟩
  cases e : fi en m with
  | ok x m' =>
    rw [e] at h
    exact fun F' ρ' H' J ex o w => k x m' F' ρ' H' J ex (he.mono ex) o w (tSt.ext ex h)
  | ex x m' =>
    rw [e] at h
    exact fun F' ρ' H' c d ex o r => h F' ρ' σ H' c d ex (he.mono ex) o r
  | no => rw [e] at h; exact h
variable {iter : Expr} {fi : SemF} {G : Tgt} {sl : List Nat} {body : List Stmt} {g : SemS}
theorem rs_for (hp : PassesOwn (model X.prog X.w) X.A X.env X.xe) (hc : X.calm = true) (hi : RI X tb W tg iter fi) (hg : RG X tb tg G sl) (hb : RSs X tb W body g) (hfs : ∀ x, foldedSetIterable iter X.env x = pure x := by intro _; rfl) : RS X tb W (.For tg iter body [] pos) (gFor fi G g) := by
  refine PS.weak (ps_for hp hc hi hg hb hfs) fun D σ H q => ?_
  obtain ⟨F, ρ, en, m, he, ho, q⟩ := q
  refine tI_st he ho q fun xs m' F' ρ' H' J ex he' ho' w q' => ?_
  obtain ⟨Gp, Y, wk, hG, hY⟩ := w
  refine for_it wk (fun i σ1 H1 => ∃ F1 ρ1 en1 m1, Ext F' ρ' F1 ρ1 ∧ EnvOk X.K tb F1 ρ1 en1 σ1 ∧ Wo X.K tb F1 ρ1 m1 H1 ∧ tSt X.K tb W F1 ρ1 D (loop G g (xs.drop i) en1 m1)) ⟨F', ρ', en, m', .refl _ _, he', ho', q'⟩ (fun i σ1 H1 _ ⟨F1, ρ1, en1, m1, e1, _, o1, _⟩ => hG H1 (e1.le.trans o1.sub)) ?_ ?_
  · rintro i y σ1 H1 H2 hi ⟨F1, ρ1, en1, m1, e1, he1, o1, q1⟩ hy
    obtain ⟨F2, d, e2, o2, hd, rd⟩ := hY i H1 y H2 F1 ρ1 m1 hi e1.le o1 hy
    rw [List.drop_eq_getElem_cons hi] at q1
    have hd' : xs[i] = d := by
      rw [List.getElem?_eq_getElem hi] at hd
      exact Option.some.inj hd
    rw [hd'] at q1
    refine ⟨F2, ρ1, en1, m1, .d d, he1.mono e2, o2, .d rd, ?_⟩
    have q1 := tSt.ext e2 q1
    unfold loop at q1
    cases eg : G (.d d) en1 m1 with
    | none => rw [eg] at q1; exact q1.elim
    | some en' =>
      rw [eg] at q1
      refine fun σ' he2 _ => ⟨F2, ρ1, en', m1, he2, o2, ?_⟩
      dsimp only at q1
      cases eb : g en' m1 with
      | nx e3 m3 => rw [eb] at q1; exact fun F3 ρ3 σ3 H3 x3 he3 o3 => ⟨F3, ρ3, e3, m3, (e1.trans e2).trans x3, he3, o3, tSt.ext x3 q1⟩
      | ct e3 m3 => rw [eb] at q1; exact fun F3 ρ3 σ3 H3 x3 he3 o3 => ⟨F3, ρ3, e3, m3, (e1.trans e2).trans x3, he3, o3, tSt.ext x3 q1⟩
      | bk e3 m3 => rw [eb] at q1; exact q1
      | rt y3 m3 => rw [eb] at q1; exact q1
      | ex y3 e3 m3 => rw [eb] at q1; exact q1
      | no => rw [eb] at q1; exact q1
  · rintro σ1 H1 ⟨F1, ρ1, en1, m1, e1, he1, o1, q1⟩
    rw [List.drop_length] at q1
    exact q1 F1 ρ1 σ1 H1 (.refl _ _) he1 o1
/-! ### while -/
def gWhile (t : SemB) (body : SemS) : Nat → SemS
  | 0, _, _ => .no
  | n + 1, en, m => match t en m with
    | .ok true m1 => (match body en m1 with
      | .nx e2 m2 => gWhile t body n e2 m2
      | .ct e2 m2 => gWhile t body n e2 m2
      | .bk e2 m2 => .nx e2 m2
      | .rt y m2 => .rt y m2
      | .ex y e2 m2 => .ex y e2 m2
      | .no => .no)
    | .ok false m1 => .nx en m1
    | .ex y m1 => .ex y en m1
    | .no => .no
theorem rs_while (n : Nat) (hp : PassesOwn (model X.prog X.w) X.A X.env X.xe) (hc : RT X tb W c ga) (hb : RSs X tb W body g) : RS X tb W (.While c body [] pos) (gWhile ga g n) := by
  refine PS.weak (ps_while hp hc hb) fun D σ H q => ?_
  obtain ⟨F, ρ, en, m, he, ho, q⟩ := q
  refine ⟨fun k σ1 H1 => ∃ F1 ρ1 en1 m1, Ext F ρ F1 ρ1 ∧ EnvOk X.K tb F1 ρ1 en1 σ1 ∧ Wo X.K tb F1 ρ1 m1 H1 ∧ tSt X.K tb W F1 ρ1 D (gWhile ga g k en1 m1), ⟨n, F, ρ, en, m, .refl _ _, he, ho, q⟩, ?_⟩
  rintro k σ1 H1 ⟨F1, ρ1, en1, m1, e1, he1, o1, q1⟩
  cases k with
  | zero => exact q1.elim
  | succ k =>
    unfold gWhile at q1
    refine ⟨F1, ρ1, en1, m1, he1, o1, ?_⟩
    cases et : ga en1 m1 with
    | ok kk m2 =>
      rw [et] at q1
      intro F2 ρ2 H2 x2 o2
      cases kk with
      | false =>
        rw [if_neg Bool.false_ne_true]
        exact q1 F2 ρ2 σ1 H2 x2 (he1.mono x2) o2
      | true =>
        rw [if_pos rfl]
        dsimp only at q1
        refine ⟨fun σ3 H3 => ∃ F3 ρ3 e3 m3, Ext F ρ F3 ρ3 ∧ EnvOk X.K tb F3 ρ3 e3 σ3 ∧ Wo X.K tb F3 ρ3 m3 H3 ∧ tSt X.K tb W F3 ρ3 D (gWhile ga g k e3 m3), fun σ3 H3 h3 => ⟨k, Nat.lt_succ_self _, h3⟩, F2, ρ2, en1, m2, he1.mono x2, o2, ?_⟩
        have q1 := tSt.ext x2 q1
        cases eb : g en1 m2 with
        | nx e3 m3 => rw [eb] at q1; exact fun F3 ρ3 σ3 H3 x3 he3 o3 => ⟨F3, ρ3, e3, m3, (e1.trans x2).trans x3, he3, o3, tSt.ext x3 q1⟩
        | ct e3 m3 => rw [eb] at q1; exact fun F3 ρ3 σ3 H3 x3 he3 o3 => ⟨F3, ρ3, e3, m3, (e1.trans x2).trans x3, he3, o3, tSt.ext x3 q1⟩
        | bk e3 m3 => rw [eb] at q1; exact q1
        | rt y3 m3 => rw [eb] at q1; exact q1
        | ex y3 e3 m3 => rw [eb] at q1; exact q1
        | no => rw [eb] at q1; exact q1
    | ex y m2 =>
      rw [et] at q1
      exact fun F' ρ' H' cc d ex o r => q1 F' ρ' σ1 H' cc d ex (he1.mono ex) o r
    | no => rw [et] at q1; exact q1
end
end EvL
end

section
set_option Elab.async false
set_option linter.all false
set_option maxRecDepth 100000
set_option maxHeartbeats 2000000
/-! E8: comprehensions -/
namespace EvL
open PySem PySem.Spec PyProof.Rows L2
section
variable {K : PySem.W.Frag} {tb : Tb} {W : WX} {X : Cx} {a b c e tg elt iter : Expr} {ifs : List Expr} {fa fb fc f : Sem1} {fi : SemF} {ga gb : SemB} {pos pos' : Pos} {k : Nat} {x : Str} {own : List (Str × Nat)} {scope : Scope} {G : Tgt} {sl : List Nat}
/-- no error is taken -/
def WN : WX := fun _ _ _ _ => False
theorem takesN {s : Shared} {H : Hp} {scope : Scope} {cenv : Env} {fp : List Addr} : Takes (X.blk s H scope cenv fp) WN := fun _ _ ⟨_, _, _, _, _, _, _, _, _, _, _, _, _, _, _, _, w⟩ => w.elim
/-- a block's own slots are empty at the start -/
def wipeE (en : En) : List Nat → En
  | [] => en
  | v :: vs => (wipeE en vs).set v none
theorem EnvOk.wipes {F : Hp} {ρ : List Addr} {en : En} {σ : L2.St} (h : EnvOk K tb F ρ en σ) : ∀ vs : List Nat, EnvOk K tb F ρ (wipeE en vs) (L2.wipe σ vs)
  | [] => h
  | v :: vs => (EnvOk.wipes h vs).wipe v none
theorem wipe_len {σ : L2.St} : ∀ vs : List Nat, (wipe σ vs).length = σ.length
  | [] => rfl
  | v :: vs => by unfold wipe; rw [List.length_set, wipe_len vs]
theorem wipe_at {σ : L2.St} {i : Nat} : ∀ vs : List Nat, (wipe σ vs)[i]? = if i ∈ vs then (if i < σ.length then some none else none) else σ[i]?
  | [] => by simp [wipe]
  | v :: vs => by
    unfold wipe
    by_cases h : v = i
    · subst h
      by_cases hl : v < σ.length
      · rw [List.getElem?_set_self (by rw [wipe_len]; exact hl)]; simp [hl]
      · rw [List.getElem?_eq_none (by rw [List.length_set, wipe_len]; omega)]; simp [hl]
    · rw [List.getElem?_set_ne h, wipe_at vs]
      have : (i ∈ v :: vs) ↔ i ∈ vs := by simp [Ne.symm h]
      by_cases h2 : i ∈ vs
      · rw [if_pos h2, if_pos (this.mpr h2)]
      · rw [if_neg h2, if_neg (fun z => h2 (this.mp z))]
theorem But.wiped {σ σ' : L2.St} {vs : List Nat} (h : But sl (wipe σ vs) σ') (hs : ∀ i ∈ sl, i ∈ vs) : wipe σ' vs = wipe σ vs := by
  apply List.ext_getElem?
  intro i
  have hl : σ'.length = σ.length := by rw [h.1, wipe_len]
  rw [wipe_at, wipe_at, hl]
  by_cases hi : i ∈ vs
  · rw [if_pos hi, if_pos hi]
  · rw [if_neg hi, if_neg hi]
    have := h.2 i fun z => hi (hs i z)
    rw [this, wipe_at, if_neg hi]
/-- the tests of a block -/
def bYes : SemB := fun _ m => .ok true m
abbrev RTs (X : Cx) (tb : Tb) (W : WX) (es : List Expr) (f : SemB) : Prop := PTs X es (tB X.K tb W f)
theorem PTs.weak {t t' : TT} {es : List Expr} (h : PTs X es t) (w : ∀ σ H Q, t' σ H Q → t σ H Q) : PTs X es t' := ⟨fun pins s σ H Q I q => h.run pins s σ H Q I (w _ _ _ q)⟩
theorem rts_nil : RTs X tb W [] bYes := PTs.weak pts_nil fun σ H Q ⟨F, ρ, en, m, he, ho, q⟩ => q F ρ H (.refl _ _) ho
theorem rts_one (h : RT X tb W c ga) : RTs X tb W [c] ga := pts_one h
/-- the turns of a comprehension; the list that grows is the store's thing n -/
def lcLoop (n : Nat) (G : Tgt) (t : SemB) (f : Sem1) (en : En) : List Dv → Store → Rs (List Dv)
  | [], m => if m.length = n + 1 then (match m[n]? with | some (.lst acc) => .ok acc (m.take n) | _ => .no) else .no
  | d :: ds, m => match G (.d d) en m with
    | none => .no
    | some en' => match t en' m with
      | .ok true m1 => (match f en' m1 with
        | .ok y m2 => (match frz m2 y with
          | some (z, m3) => (match m3[n]? with
            | some (.lst acc) => if fits (acc.length + 1) then lcLoop n G t f en ds (m3.set n (.lst (acc ++ [z]))) else .no
            | _ => .no)
          | none => .no)
        | _ => .no)
      | .ok false m1 => lcLoop n G t f en ds m1
      | _ => .no
def fComp (fi : SemF) (G : Tgt) (t : SemB) (f : Sem1) (vs : List Nat) : SemF := fun en m => (fi en m).bind fun xs m1 => lcLoop m1.length G t f (wipeE en vs) xs (m1 ++ [.lst []])
theorem tI_bind {fi : SemF} {g : List Dv → Store → Rs (List Dv)} {F : Hp} {ρ : List Addr} {en : En} {m : Store} {σ : L2.St} {H : Hp} {Q : VK} {R : It → Hp → Prop} (he : EnvOk K tb F ρ en σ) (ho : Wo K tb F ρ m H) (h : PostF K tb W F ρ σ Q ((fi en m).bind g))
    (k : ∀ xs m' F' ρ' H' J, Ext F ρ F' ρ' → EnvOk K tb F' ρ' en σ → Wo K tb F' ρ' m' H' → WalkE K tb F' J xs → PostF K tb W F' ρ' σ Q (g xs m') → R J H') : tI K tb W fi σ H R := by
  refine ⟨F, ρ, en, m, he, ho, ?_⟩
  cases e : fi en m with
  | ok x m' =>
    rw [e] at h
    exact fun F' ρ' H' J ex o w => k x m' F' ρ' H' J ex (he.mono ex) o w (PostF.ext ex h)
  | ex x m' =>
    rw [e] at h
    exact h
  | no => rw [e] at h; exact h
/-- the last thing of the store let go -/
theorem Wo.pop {F : Hp} {ρ ρ' : List Addr} {m : Store} {H : Hp} {D : Addr} {acc : List Dv} {vs : List V} (o : Wo K tb F ρ' m H) (hp : ρ ++ [D] <+: ρ') (hl : m.length = ρ.length + 1) (hm : m[ρ.length]? = some (.lst acc)) : Wo K tb F ρ (m.take ρ.length) (fun a => if a = D then none else H a) ∧
    ∃ vs, H D = some (.lst vs) ∧ RepL K tb F acc vs := by
  have e : ρ' = ρ ++ [D] := by
    obtain ⟨t, rfl⟩ := hp
    have := o.len
    rw [hl] at this
    simp at this
    rw [this, List.append_nil]
  subst e
  have hD : (ρ ++ [D])[ρ.length]? = some D := by simp
  obtain ⟨q1, vs, q2, q3⟩ := o.lst _ _ _ hD hm
  have nd := o.nd
  rw [List.nodup_append] at nd
  have dj : ∀ a ∈ ρ, a ≠ D := fun a ha => nd.2.2 a ha D (by simp)
  have up : ∀ {i : Nat} {a : Addr}, ρ[i]? = some a → (ρ ++ [D])[i]? = some a ∧ i < ρ.length ∧ a ≠ D := fun {i a} h => by
    obtain ⟨hi, _⟩ := List.getElem?_eq_some_iff.mp h
    exact ⟨by rw [List.getElem?_append_left hi]; exact h, hi, dj a (List.mem_of_getElem? h)⟩
  refine ⟨⟨fun a x h => ?_, by simp [hl], nd.1, fun i a xs h1 h2 => ?_, fun i a xs h1 h2 => ?_, fun a ha => ?_, tb.hpS _ _ o.hp fun b x e => if h : b = D then .inl ⟨vs, by subst h; rw [q2] at e; cases e; rfl⟩ else .inr (.inr (by show (if b = D then none else H b) = some x; rw [if_neg h]; exact e)), o.nt⟩, vs, q2, q3⟩
  · have : a ≠ D := fun z => by rw [z, q1] at h; cases h
    simp only [this, if_false]
    exact o.sub a x h
  · obtain ⟨h3, hi, hne⟩ := up h1
    rw [List.getElem?_take_of_lt hi] at h2
    obtain ⟨p1, ws, p2, p3⟩ := o.lst i a xs h3 h2
    exact ⟨p1, ws, by simp only [hne, if_false]; exact p2, p3⟩
  · obtain ⟨h3, hi, hne⟩ := up h1
    rw [List.getElem?_take_of_lt hi] at h2
    obtain ⟨p1, ws, p2, p3⟩ := o.dic i a xs h3 h2
    exact ⟨p1, ws, by simp only [hne, if_false]; exact p2, p3⟩
  · have hne := dj a ha
    simp only [hne, if_false]
    exact o.has a (by simp [ha])
theorem fits_lt {n : Nat} (h : fits (n + 1) = true) : n < sizeLine := by
  have := fits_ok h
  omega
theorem comp_run {own : List Nat} {σ : L2.St} {H : Hp} {Q : VK} (hsl : ∀ i ∈ sl, i ∈ own) (q : tF K tb W (fComp fi G ga f own) σ H Q) : tLc (tI K tb W fi) (tG K tb G sl) (tB K tb WN ga) (tE K tb WN f) own σ H Q := by
  obtain ⟨F, ρ, en, m, he, ho, q⟩ := q
  refine tI_bind he ho q fun xs m1 F1 ρ1 H1 J e1 he1 ho1 w q1 => ?_
  intro D hD
  obtain ⟨Gp, Y, wk, hG, hY⟩ := w
  obtain ⟨o0, x0⟩ := ho1.push (xs := []) (vs := []) hD .nil
  have hl : ρ1.length = m1.length := ho1.len
  refine lc_it wk (fun i H1 => ∃ F2 ρ2 m2, Ext F1 (ρ1 ++ [D]) F2 ρ2 ∧ Wo K tb F2 ρ2 m2 H1 ∧ PostF K tb W F2 ρ1 σ Q (lcLoop m1.length G ga f (wipeE en own) (xs.drop i) m2)) ⟨F1, _, _, .refl _ _, o0, q1⟩ (fun i H2 _ ⟨F2, ρ2, m2, e2, o2, _⟩ => hG H2 (e2.le.trans o2.sub)) ?_ ?_
  · rintro i y H2 H3 hi ⟨F2, ρ2, m2, e2, o2, q2⟩ hy
    obtain ⟨F3, d, e3, o3, hd, rd⟩ := hY i H2 y H3 F2 ρ2 m2 hi e2.le o2 hy
    rw [List.drop_eq_getElem_cons hi] at q2
    have hd' : xs[i] = d := by
      rw [List.getElem?_eq_getElem hi] at hd
      exact Option.some.inj hd
    rw [hd'] at q2
    have q2 := PostF.ext (⟨e3.le, List.prefix_refl _⟩ : Ext F2 ρ1 F3 ρ1) q2
    have he3 : EnvOk K tb F3 ρ2 (wipeE en own) (wipe σ own) := (((he1.mono x0).mono e2).mono e3).wipes _
    refine ⟨F3, ρ2, _, m2, .d d, he3, o3, .d rd, ?_⟩
    unfold lcLoop at q2
    cases eg : G (.d d) (wipeE en own) m2 with
    | none => rw [eg] at q2; exact q2.elim
    | some en' =>
      rw [eg] at q2
      dsimp only at q2
      refine fun σ' he' bu => ⟨But.wiped bu hsl, F3, ρ2, en', m2, he', o3, ?_⟩
      cases et : ga en' m2 with
      | no => rw [et] at q2; exact q2.elim
      | ex _ _ => rw [et] at q2; exact q2.elim
      | ok kk m3 =>
        rw [et] at q2
        intro F4 ρ4 H4 x4 o4
        cases kk with
        | false =>
          rw [if_neg Bool.false_ne_true]
          exact ⟨F4, ρ4, m3, (e2.trans e3).trans x4, o4, PostF.ext ⟨x4.le, List.prefix_refl _⟩ q2⟩
        | true =>
          rw [if_pos rfl]
          dsimp only at q2
          refine ⟨F4, ρ4, en', m3, he'.mono x4, o4, ?_⟩
          cases ef : f en' m3 with
          | no => rw [ef] at q2; exact q2.elim
          | ex _ _ => rw [ef] at q2; exact q2.elim
          | ok z m4 =>
            rw [ef] at q2
            dsimp only at q2
            intro F5 ρ5 H5 v x5 o5 r5
            split at q2
            · rename_i zz m5 hz
              obtain ⟨F6, x6, o6, r6⟩ := frz_ok o5 r5 hz
              split at q2
              · rename_i acc hacc
                have hD6 : ρ5[m1.length]? = some D := pre_get (((e2.trans e3).trans x4).trans x5).pre (by rw [← hl]; simp)
                obtain ⟨p1, vs, p2, p3⟩ := o6.lst _ _ _ hD6 hacc
                split at q2
                · rename_i hf
                  refine ⟨vs, p2, by rw [← p3.length]; exact fits_lt hf, F6, ρ5, _, (((e2.trans e3).trans x4).trans x5).trans x6, o6.setL hD6 hacc (p3.append (.cons r6 .nil)), ?_⟩
                  exact PostF.ext ⟨(x4.le.trans x5.le).trans x6.le, List.prefix_refl _⟩ q2
                · exact q2.elim
              · exact q2.elim
            · exact q2.elim
  · rintro H2 ⟨F2, ρ2, m2, e2, o2, q2⟩
    rw [List.drop_length] at q2
    unfold lcLoop at q2
    split at q2
    · rename_i hlen
      split at q2
      · rename_i acc hacc
        rw [← hl] at hacc q2 hlen
        obtain ⟨o3, vs, p2, p3⟩ := Wo.pop (vs := []) o2 e2.pre hlen hacc
        have := q2 F2 ρ1 _ D vs (.refl _ _) o3 (by simp) p3
        have e : upd (fun a => if a = D then none else H2 a) D (.lst vs) = H2 := by
          funext a
          by_cases h : a = D
          · subst h; rw [upd_same]; exact p2.symm
          · rw [upd_ne h, if_neg h]
        rw [e] at this
        exact this
      · exact q2.elim
    · exact q2.elim
theorem rf_comp (hc : X.calm = true) (hN : X.N.Nodup) (hi : RI X tb W tg iter fi) (ok : BlkOk X.N X.env.scope scope own)
    (hg : ∀ (s : Shared) (H : Hp) (C : Addr) (cl : List (Str × Addr)) (fp : List Addr), RG (X.blk s H scope (compEnvC scope cl C X.env) fp) tb tg G sl)
    (ht : ∀ (s : Shared) (H : Hp) (C : Addr) (cl : List (Str × Addr)) (fp : List Addr), RTs (X.blk s H scope (compEnvC scope cl C X.env) fp) tb WN ifs ga)
    (he : ∀ (s : Shared) (H : Hp) (C : Addr) (cl : List (Str × Addr)) (fp : List Addr), RE (X.blk s H scope (compEnvC scope cl C X.env) fp) tb WN elt f)
    (hsl : ∀ i ∈ sl, i ∈ own.map (·.2)) (hs : ∀ x, foldedSetIterable iter X.env x = pure x := by intro _; rfl) :
    RF X tb W (.ListComp elt [⟨tg, iter, ifs, 0⟩] scope pos) (fComp fi G ga f (own.map (·.2))) :=
  PE.weak (pe_lc (g := tG X.K tb G sl) (tt := tB X.K tb WN ga) (te := tE X.K tb WN f) hc hN hi ok hg ht he hs) fun σ H Q q => comp_run hsl q
/-- name = [..] on one line -/
theorem rs_newC {i : Nat} {y : Str} {py spos : Pos} (hc : X.calm = true) (hN : X.N.Nodup) (hy : X.N[i]? = some y) (hyl : X.env.scope.names.lookup y = some .local)
    (hsw : swapsWith (.ListComp elt [⟨tg, iter, ifs, 0⟩] scope pos) (some (.Name y py)) spos.line X.env = pure true) (hi : RI X tb W tg iter fi) (ok : BlkOk X.N X.env.scope scope own)
    (hg : ∀ (s : Shared) (H : Hp) (C : Addr) (cl : List (Str × Addr)) (fp : List Addr), RG (X.blk s H scope (compEnvC scope cl C X.env) fp) tb tg G sl)
    (ht : ∀ (s : Shared) (H : Hp) (C : Addr) (cl : List (Str × Addr)) (fp : List Addr), RTs (X.blk s H scope (compEnvC scope cl C X.env) fp) tb WN ifs ga)
    (he : ∀ (s : Shared) (H : Hp) (C : Addr) (cl : List (Str × Addr)) (fp : List Addr), RE (X.blk s H scope (compEnvC scope cl C X.env) fp) tb WN elt f)
    (hsl : ∀ i ∈ sl, i ∈ own.map (·.2)) (hs : ∀ x, foldedSetIterable iter X.env x = pure x := by intro _; rfl) :
    RS X tb W (.Assign [.Name y py] (.ListComp elt [⟨tg, iter, ifs, 0⟩] scope pos) spos) (gNew i (fComp fi G ga f (own.map (·.2)))) := by
  refine PS.weak (ps_setLc (g := tG X.K tb G sl) (tt := tB X.K tb WN ga) (te := tE X.K tb WN f) hc hN hy hyl hsw hi ok hg ht he hs) fun D σ H q => ?_
  obtain ⟨F, ρ, en, m, he, ho, q⟩ := q
  refine comp_run hsl ?_
  refine tF_st he ho q fun xs m1 F1 ρ1 H1 p vs e1 he1 ho1 hp r1 q1 => ?_
  obtain ⟨o2, e2⟩ := ho1.push hp r1
  exact q1 F1 _ _ _ e2 ((he1.mono e2).set (.o (by rw [← ho1.len]; simp)) i) o2
end
end EvL
end

section
set_option Elab.async false
set_option linter.all false
set_option maxRecDepth 100000
set_option maxHeartbeats 2000000
/-! E9: dicts with text keys; the end of a def -/
namespace EvL
open PySem PySem.Spec PyProof.Rows L2
section
variable {K : PySem.W.Frag} {tb : Tb} {W : WX} {X : Cx} {a b c e : Expr} {fa fb fc f : Sem1} {fl : SemL} {pos p1 p2 p3 : Pos} {k : Nat} {x : Str} {D : Ends} {j : Nat}
theorem Wo.pushD {F : Hp} {ρ : List Addr} {m : Store} {H : Hp} {p : Addr} {xs : List (Key × Dv)} {vs : List (Key × V)} (o : Wo K tb F ρ m H) (hp : H p = none) (r : RepK K tb F xs vs) : Wo K tb F (ρ ++ [p]) (m ++ [.dic xs]) (upd H p (.dK vs)) ∧ Ext F ρ F (ρ ++ [p]) := by
  have fp : F p = none := by
    cases e : F p with
    | none => rfl
    | some y => rw [o.sub p y e] at hp; cases hp
  have ne : ∀ q ∈ ρ, q ≠ p := fun q h e => o.has q h (by rw [e]; exact hp)
  refine ⟨⟨fun q y e => ?_, by simp [o.len], ?_, fun i q ys h1 h2 => ?_, fun i q ys h1 h2 => ?_, fun q h => ?_, tb.hpS _ _ o.hp fun b x e => .inr (.inr (by rw [upd_ne (ne_of_none e hp)]; exact e)), o.nt⟩, .refl F, List.prefix_append _ _⟩
  · rw [upd_ne (ne_of_none e fp)]; exact o.sub q y e
  · exact List.nodup_append.mpr ⟨o.nd, by simp, fun q h q' h' => by simp at h'; subst h'; exact ne q h⟩
  · by_cases hi : i < ρ.length
    · rw [List.getElem?_append_left hi] at h1
      rw [List.getElem?_append_left (by rw [← o.len]; exact hi)] at h2
      obtain ⟨q1, ws, q2, q3⟩ := o.lst i q ys h1 h2
      exact ⟨q1, ws, by rw [upd_ne (ne q (List.mem_of_getElem? h1))]; exact q2, q3⟩
    · rw [List.getElem?_append_right (by rw [← o.len]; omega)] at h2
      cases h : i - m.length with
      | zero => rw [h] at h2; simp at h2
      | succ n => rw [h] at h2; simp at h2
  · by_cases hi : i < ρ.length
    · rw [List.getElem?_append_left hi] at h1
      rw [List.getElem?_append_left (by rw [← o.len]; exact hi)] at h2
      obtain ⟨q1, ws, q2, q3⟩ := o.dic i q ys h1 h2
      exact ⟨q1, ws, by rw [upd_ne (ne q (List.mem_of_getElem? h1))]; exact q2, q3⟩
    · rw [List.getElem?_append_right (by omega)] at h1
      rw [List.getElem?_append_right (by rw [← o.len]; omega)] at h2
      have e0 : i - ρ.length = 0 := by
        cases h : i - ρ.length with
        | zero => rfl
        | succ n => rw [h] at h1; simp at h1
      rw [e0] at h1
      rw [← o.len, e0] at h2
      simp at h1 h2
      subst h1; subst h2
      exact ⟨fp, vs, upd_same, r⟩
  · rcases List.mem_append.mp h with h | h
    · rw [upd_ne (ne q h)]; exact o.has q h
    · simp at h; subst h; rw [upd_same]; simp
theorem Wo.setD {F : Hp} {ρ : List Addr} {m : Store} {H : Hp} {i : Nat} {p : Addr} {xs ys : List (Key × Dv)} {vs : List (Key × V)} (o : Wo K tb F ρ m H) (hp : ρ[i]? = some p) (hm : m[i]? = some (.dic xs)) (r : RepK K tb F ys vs) : Wo K tb F ρ (m.set i (.dic ys)) (upd H p (.dK vs)) := by
  obtain ⟨q1, ws, q2, q3⟩ := o.dic i p xs hp hm
  refine ⟨fun q y e => ?_, by rw [List.length_set]; exact o.len, o.nd, fun l q zs h1 h2 => ?_, fun l q zs h1 h2 => ?_, fun q h => ?_, tb.hpS _ _ o.hp fun b x e => if h : b = p then .inr (.inl ⟨ws, by subst h; rw [q2] at e; cases e; rfl⟩) else .inr (.inr (by rw [upd_ne h]; exact e)), o.nt⟩
  · rw [upd_ne (ne_of_none e q1)]; exact o.sub q y e
  · by_cases h : i = l
    · subst h
      rw [List.getElem?_set_self (List.getElem?_eq_some_iff.mp hm).1] at h2
      cases h2
    · rw [List.getElem?_set_ne h] at h2
      obtain ⟨a1, ws', a2, a3⟩ := o.lst l q zs h1 h2
      exact ⟨a1, ws', by rw [upd_ne (get_nodup o.nd h1 hp (Ne.symm h))]; exact a2, a3⟩
  · by_cases h : i = l
    · subst h
      rw [hp] at h1; cases h1
      rw [List.getElem?_set_self (List.getElem?_eq_some_iff.mp hm).1] at h2
      cases h2
      exact ⟨q1, vs, upd_same, r⟩
    · rw [List.getElem?_set_ne h] at h2
      obtain ⟨a1, ws', a2, a3⟩ := o.dic l q zs h1 h2
      exact ⟨a1, ws', by rw [upd_ne (get_nodup o.nd h1 hp (Ne.symm h))]; exact a2, a3⟩
  · by_cases h' : q = p
    · subst h'; rw [upd_same]; simp
    · rw [upd_ne h']; exact o.has q h
/-! keys -/
def kGet (kvs : List (Key × Dv)) (k : Key) : Option Dv := match kvs with
  | [] => none
  | (j, d) :: r => if j = k then some d else kGet r k
def kHas (kvs : List (Key × Dv)) (k : Key) : Bool := match kvs with
  | [] => false
  | (j, _) :: r => decide (j = k) || kHas r k
def kPut (kvs : List (Key × Dv)) (k : Key) (v : Dv) : List (Key × Dv) := if kHas kvs k = true then kvs.map (fun kv => if kv.1 = k then (kv.1, v) else kv) else kvs ++ [(k, v)]
theorem RepK.get {F : Hp} {k : Key} {d : Dv} : ∀ {kvs : List (Key × Dv)} {vs : List (Key × V)}, RepK K tb F kvs vs → kGet kvs k = some d → ∃ v, valV vs k = some v ∧ Rep K tb F d v
  | _, _, .nil, h => by cases h
  | _, _, .cons (k := j) (xs := r) h t, e => by
    unfold kGet at e
    by_cases z : j = k
    · rw [if_pos z] at e
      cases e
      exact ⟨_, valV_pos z, h⟩
    · rw [if_neg z] at e
      obtain ⟨v, h1, h2⟩ := RepK.get t e
      exact ⟨v, by rw [valV_neg z]; exact h1, h2⟩
theorem RepK.has {F : Hp} {k : Key} : ∀ {kvs : List (Key × Dv)} {vs : List (Key × V)}, RepK K tb F kvs vs → (vs.any fun kv => decide (kv.1 = k)) = kHas kvs k
  | _, _, .nil => rfl
  | _, _, .cons (k := j) (xs := r) h t => by
    rw [List.any_cons, RepK.has t]
    rfl
theorem RepK.app {F : Hp} {k : Key} {d : Dv} {v : V} (q : Rep K tb F d v) : ∀ {kvs : List (Key × Dv)} {vs : List (Key × V)}, RepK K tb F kvs vs → RepK K tb F (kvs ++ [(k, d)]) (vs ++ [(k, v)])
  | _, _, .nil => .cons q .nil
  | _, _, .cons h t => .cons h (RepK.app q t)
theorem RepK.map {F : Hp} {k : Key} {d : Dv} {v : V} (q : Rep K tb F d v) : ∀ {kvs : List (Key × Dv)} {vs : List (Key × V)}, RepK K tb F kvs vs → RepK K tb F (kvs.map (fun kv => if kv.1 = k then (kv.1, d) else kv)) (vs.map (fun kv => if kv.1 = k then (kv.1, v) else kv))
  | _, _, .nil => .nil
  | _, _, .cons (k := j) h t => by
    rw [List.map_cons, List.map_cons]
    by_cases z : j = k
    · simp only [z, if_true]
      exact .cons q (RepK.map q t)
    · simp only [z, if_false]
      exact .cons h (RepK.map q t)
theorem RepK.put {F : Hp} {k : Key} {d : Dv} {v : V} {kvs : List (Key × Dv)} {vs : List (Key × V)} (r : RepK K tb F kvs vs) (q : Rep K tb F d v) : RepK K tb F (kPut kvs k d) (putK vs k v) := by
  unfold kPut putK
  rw [r.has]
  split
  · exact r.map q
  · exact r.app q
/-! x['k'] -/
theorem Top.dk {F H : Hp} {xs : List (Key × Dv)} {v : V} (l : Le F H) (t : Top K tb F H (.dic xs) v) : ∃ a vs, v = .ref a ∧ H a = some (.dK vs) ∧ RepK K tb F xs vs := by
  cases t with
  | of h => cases h with | dic h r => exact ⟨_, _, rfl, l _ _ h, r⟩
  | dic h r => exact ⟨_, _, rfl, h, r⟩
def oDGet (k : Str) : Dv → Option Dv
  | .dic kvs => kGet kvs (.inr k)
  | _ => none
theorem noSl_str {k : Str} {j : Nat} {p : Pos} : NoSl (.Constant (.str k) j p) := fun _ _ => rfl
theorem re_dget {kk : Str} (hu : X.A.units + 1 < cLine) (ha : RE X tb W a fa) : RE X tb W (.Subscript a (.Constant (.str kk) j p1) pos) (sUn (oDGet kk) fa) := by
  refine PE.weak (pe_dget hu ha pe_str noSl_str) fun σ H Q q => ?_
  obtain ⟨F, ρ, en, m, he, ho, q⟩ := tE_iff.mp q
  refine tE_bind he ho q fun x m1 F1 ρ1 H1 v e1 he1 ho1 r1 q1 => ?_
  split at q1
  · rename_i d hd
    split at q1
    · rename_i r hr
      have t := rv_top ho1 r1 hd
      cases d <;> simp only [oDGet, reduceCtorEq] at hr
      obtain ⟨p, vs, rfl, h1, h2⟩ := t.dk ho1.sub
      obtain ⟨u, hu', ru⟩ := h2.get hr
      refine ⟨p, u, rfl, ?_, q1 F1 ρ1 H1 u (.refl _ _) ho1 (.d ru)⟩
      have := DGet.k (k := .inr kk) h1
      rw [hu'] at this
      exact this
    · exact q1.elim
  · exact q1.elim
/-! x['k'] = e -/
def gPutD (i : Nat) (k : Str) (f : Sem1) : SemS := fun en m => (f en m).st en fun y m1 => match en[i]? with
  | some (some (.o j)) => (match frz m1 y with
    | some (d, m2) => (match m2[j]? with
      | some (.dic kvs) => if fits (kvs.length + 1) then .nx en (m2.set j (.dic (kPut kvs (.inr k) d))) else .no
      | _ => .no)
    | none => .no)
  | _ => .no
theorem rs_putD {i : Nat} {kk : Str} (hu : X.A.units + 1 < cLine) (hi : PE X (.Name x p1) (tVar i)) (he : RE X tb W e f) (hs : swapsWith e (some (.Subscript (.Name x p1) (.Constant (.str kk) j p3) p2)) pos.line X.env = pure false := by rfl) :
    RS X tb W (.Assign [.Subscript (.Name x p1) (.Constant (.str kk) j p3) p2] e pos) (gPutD i kk f) := by
  refine PS.weak (ps_dput hu hi pe_str he hs) fun D σ H q => ?_
  obtain ⟨F, ρ, en, m, he, ho, q⟩ := q
  refine tE_st he ho q fun y m1 F1 ρ1 H1 v e1 he1 ho1 r1 q1 => ?_
  split at q1
  · rename_i jj hj
    obtain ⟨u, hu, r⟩ := he1.at_ i _ hj
    cases r with
    | @o jj p hp =>
    split at q1
    · rename_i d m2 hd
      obtain ⟨F2, e2, o2, r2⟩ := frz_ok ho1 r1 hd
      split at q1
      · rename_i kvs hk
        split at q1
        · rename_i hf
          obtain ⟨_, vs, h1, h2⟩ := o2.dic jj p kvs hp hk
          refine ⟨_, hu, p, _, rfl, DPut.k (k := .inr kk) h1 (by rw [← h2.length]; exact fits_lt hf), ?_⟩
          exact q1 F2 ρ1 σ _ e2 (he1.mono e2) (o2.setD hp hk (h2.put r2))
        · exact q1.elim
      · exact q1.elim
    · exact q1.elim
  · exact q1.elim
/-! {'k': e, ..} -/
structure RD (X : Cx) (tb : Tb) (W : WX) (pos : Pos) (ks : List Str) (keys : List (Option Expr)) (values : List Expr) (fl : SemL) : Prop where
  ex : ∃ trs, PPs X pos keys values trs ∧ ∀ σ H (Q : List (V × V) → Hp → Prop), tEL X.K tb W fl σ H (fun vs H' => Q ((ks.zip vs).map fun p => (V.str p.1, p.2)) H') → tPairs trs σ H Q
  all : keys.all (·.isSome) = true
  len : keys.length = values.length
  lenk : keys.length = ks.length
theorem rd_nil : RD X tb W pos [] [] [] lNil := by
  refine ⟨⟨[], pps_nil, fun σ H Q q => ?_⟩, rfl, rfl, rfl⟩
  obtain ⟨F, ρ, en, m, he, ho, q⟩ := tEL_iff.mp q
  exact q F ρ H [] (.refl _ _) ho .nil
theorem rd_cons {kk : Str} {ks : List Str} {keys : List (Option Expr)} {values : List Expr} (he : RE X tb W e f) (hr : RD X tb W pos ks keys values fl) : RD X tb W pos (kk :: ks) (some (.Constant (.str kk) j p1) :: keys) (e :: values) (lCons f fl) := by
  obtain ⟨⟨trs, h1, h2⟩, h3, h4, h5⟩ := hr
  refine ⟨⟨_, pps_cons pe_str he h1, fun σ H Q q => ?_⟩, by rw [List.all_cons, h3]; rfl, by simp [h4], by simp [h5]⟩
  obtain ⟨F, ρ, en, m, he, ho, q⟩ := tEL_iff.mp q
  refine tE_bindL he ho q fun x m1 F1 ρ1 H1 v e1 he1 ho1 r1 q1 => h2 _ _ _ ?_
  refine tEL_bindL he1 ho1 q1 fun xs m2 F2 ρ2 H2 vs e2 he2 ho2 r2 q2 => ?_
  exact q2 F2 ρ2 H2 (v :: vs) (.refl _ _) ho2 (.cons (r1.mono e2) r2)
def kMerge (kvs : List (Key × Dv)) : List (Str × Dv) → List (Key × Dv)
  | [] => kvs
  | p :: r => kMerge (kPut kvs (.inr p.1) p.2) r
/-- a new dict in the store -/
def sDisp (ks : List Str) (fl : SemL) : Sem1 := fun en m => (fl en (m ++ [.dic []])).bind fun xs m1 => match frzL m1 xs with
  | some (ds, m2) => (match m2[m.length]? with
    | some (.dic []) => .ok (.o m.length) (m2.set m.length (.dic (kMerge [] (ks.zip ds))))
    | _ => .no)
  | none => .no
theorem kMerge_ok {F : Hp} : ∀ {ks : List Str} {ds : List Dv} {vs : List V} {kvs : List (Key × Dv)} {us : List (Key × V)}, RepL K tb F ds vs → RepK K tb F kvs us → RepK K tb F (kMerge kvs (ks.zip ds)) (mergeK us ((ks.zip vs).map fun p => (Sum.inr p.1, p.2)))
  | [], _, _, _, _, _, r => by simpa [kMerge, mergeK] using r
  | _ :: _, _, _, _, _, .nil, r => by simpa [kMerge, mergeK] using r
  | k :: ks, _, _, _, _, .cons h t, r => by
    have := kMerge_ok (ks := ks) t (r.put (k := Sum.inr k) h)
    simpa [kMerge, mergeK] using this
theorem re_disp {ks : List Str} {keys : List (Option Expr)} {values : List Expr} (h : RD X tb W pos ks keys values fl) (h0 : ks ≠ [] := by simp) (h15 : ks.length ≤ 15 := by decide) : RE X tb W (.Dict keys values pos) (sDisp ks fl) := by
  obtain ⟨⟨trs, h1, h2⟩, h3, h4, h5⟩ := h
  refine PE.weak (pe_disp h1 h3 h4 (fun z => h0 (by rw [z] at h5; exact List.eq_nil_of_length_eq_zero h5.symm)) (by omega)) fun σ H Q q => ?_
  obtain ⟨F, ρ, en, m, he, ho, q⟩ := tE_iff.mp q
  intro p hp
  refine h2 _ _ _ ?_
  obtain ⟨o1, e1⟩ := ho.pushD hp (.nil : RepK X.K tb F [] [])
  have q := PostE.ext e1 q
  refine tEL_bind (he.mono e1) o1 q fun xs m1 F1 ρ1 H1 vs e2 he2 ho2 r2 q2 => ?_
  split at q2
  · rename_i ds m2 hd
    obtain ⟨F2, e3, o3, r3⟩ := frzL_ok ho2 r2 hd
    split at q2
    · rename_i hk
      have hp' : ρ1[m.length]? = some p := pre_get e2.pre (by rw [← ho.len]; simp)
      obtain ⟨_, us, u1, u2⟩ := o3.dic _ p _ hp' hk
      cases u2
      refine ⟨u1, (ks.zip vs).map fun p => (Sum.inr p.1, p.2), by simp [kV], ?_, ?_⟩
      · rw [List.length_map, List.length_zip]; omega
      · refine q2 F2 ρ1 _ _ e3 (o3.setD hp' hk (kMerge_ok r3 .nil)) (.o hp')
    · exact q2.elim
  · exact q2.elim
end
end EvL
end

section
set_option Elab.async false
set_option linter.all false
set_option maxRecDepth 100000
set_option maxHeartbeats 2000000
/-! E10: the end of a def -/
namespace EvL
open PySem PySem.Spec PyProof.Rows L2
def fnEnd (n : Nat) : Sr → Rs Sv
  | .nx _ m => .ok (.d .non) (m.take n)
  | .rt (.d d) m => .ok (.d d) (m.take n)
  | .rt (.o i) m => if i < n then .ok (.o i) (m.take n) else match m[i]? with
    | some (.lst xs) => .ok (.d (.lst xs)) (m.take n)
    | some (.dic kvs) => .ok (.o (m.take n).length) (m.take n ++ [.dic kvs])
    | _ => .no
  | .ex x _ m => .ex x (m.take n)
  | _ => .no
def start0 (ns : Nat) (xs : List Sv) : En := xs.map some ++ List.replicate (ns - xs.length) none
def fnS (ns np : Nat) (g : SemS) : Fs := fun xs m => if xs.length = np then fnEnd m.length (g (start0 ns xs) m) else .no
theorem ar_fnS {ns np : Nat} {g : SemS} : Ar np (fnS ns np g) := fun xs m h => by unfold fnS; rw [if_neg h]
section
variable {K : PySem.W.Frag} {tb : Tb} {P : Program} {w : World} {mg : Str → Option Value} {gb : Heap}
theorem Wo.cut {F : Hp} {ρ : List Addr} {m : Store} {H : Hp} (o : Wo K tb F ρ m H) (n : Nat) : Wo K tb F (ρ.take n) (m.take n) H := by
  refine ⟨o.sub, by simp [o.len], o.nd.sublist (List.take_sublist _ _), fun i a xs h1 h2 => ?_, fun i a xs h1 h2 => ?_, fun a h => o.has a (List.mem_of_mem_take h), o.hp, o.nt⟩
  · rw [List.getElem?_take] at h1 h2
    split at h1
    · rename_i hi
      rw [if_pos hi] at h2
      exact o.lst i a xs h1 h2
    · cases h1
  · rw [List.getElem?_take] at h1 h2
    split at h1
    · rename_i hi
      rw [if_pos hi] at h2
      exact o.dic i a xs h1 h2
    · cases h1
theorem Wo.one {F : Hp} {ρ : List Addr} {m : Store} {H : Hp} (o : Wo K tb F ρ m H) {n i : Nat} {a : Addr} {kvs : List (Key × Dv)} (hn : n ≤ i) (ha : ρ[i]? = some a) (hm : m[i]? = some (.dic kvs)) : Wo K tb F (ρ.take n ++ [a]) (m.take n ++ [.dic kvs]) H := by
  have c := o.cut n
  obtain ⟨q1, vs, q2, q3⟩ := o.dic i a kvs ha hm
  have na : ∀ b ∈ ρ.take n, b ≠ a := fun b hb => by
    obtain ⟨j, hj⟩ := List.getElem?_of_mem hb
    rw [List.getElem?_take] at hj
    split at hj
    · exact get_nodup o.nd hj ha (by omega)
    · cases hj
  have ln : (ρ.take n).length = (m.take n).length := c.len
  refine ⟨c.sub, by simp [ln], List.nodup_append.mpr ⟨c.nd, by simp, fun b hb b' hb' => by simp at hb'; subst hb'; exact na b hb⟩, fun j b xs h1 h2 => ?_, fun j b xs h1 h2 => ?_, fun b hb => ?_, c.hp, c.nt⟩
  · by_cases hj : j < (ρ.take n).length
    · rw [List.getElem?_append_left hj] at h1
      rw [List.getElem?_append_left (by omega)] at h2
      exact c.lst j b xs h1 h2
    · rw [List.getElem?_append_right (by omega)] at h2
      cases h : j - (m.take n).length with
      | zero => rw [h] at h2; simp at h2
      | succ k => rw [h] at h2; simp at h2
  · by_cases hj : j < (ρ.take n).length
    · rw [List.getElem?_append_left hj] at h1
      rw [List.getElem?_append_left (by omega)] at h2
      exact c.dic j b xs h1 h2
    · rw [List.getElem?_append_right (by omega)] at h1
      rw [List.getElem?_append_right (by omega)] at h2
      cases h : j - (m.take n).length with
      | zero =>
        rw [ln, h] at h1
        rw [h] at h2
        simp at h1 h2
        subst h1; subst h2
        exact ⟨q1, vs, q2, q3⟩
      | succ k => rw [h] at h2; simp at h2
  · rcases List.mem_append.mp hb with hb | hb
    · exact c.has b hb
    · simp at hb; subst hb; rw [q2]; simp
theorem pre_take {ρ ρ' : List Addr} (h : ρ <+: ρ') {n : Nat} (hn : ρ.length = n) : ρ'.take n = ρ := by
  obtain ⟨t, rfl⟩ := h
  subst hn
  simp
theorem start_ok {F : Hp} {ρ : List Addr} {N : List Str} : ∀ {xs : List Sv} {vs : List V}, RepSL K tb F ρ xs vs → ∀ k, EnvOk K tb F ρ (xs.map some ++ List.replicate k none) (vs.map some ++ List.replicate k none)
  | _, _, .nil, k => ⟨by simp, fun i x q => by
    simp only [List.map_nil, List.nil_append, List.getElem?_replicate] at q
    split at q <;> cases q⟩
  | _, _, .cons (x := y) (v := u) h t, k => by
    have ih := start_ok (N := N) t k
    refine ⟨by simpa using ih.len, fun i x q => ?_⟩
    cases i with
    | zero =>
      simp at q
      subst q
      exact ⟨u, by simp, h⟩
    | succ i => exact ih.at_ i x (by simpa using q)
theorem fnE {x qual : Str} {st : Stmt} {f : Addr} {fd : FuncData} {N ps : List Str} {k : Nat} {g : SemS} (F : Fun K x qual st f fd) (S : FnScope N ps (defScope st))
    (body : ∀ (cdv : Value) (A : Around) (up : List Env) (s : Shared) (H : Hp) (E : XK), Room k (A.deeper (envOfC qual (defScope st) s.heap.objs.size f cdv)) → A.guards = some [] →
      ∀ W : WX, Takes (cxOf (L2.CX P w) P w K mg gb N qual (defScope st) f cdv A up s H E) W → RSs (cxOf (L2.CX P w) P w K mg gb N qual (defScope st) f cdv A up s H E) tb W (defBody st) g) :
    FnG P w K mg gb (k + 1) f fd ps (spE K tb ps.length (fnS N.length ps.length g)) := by
  refine fnG_of F S (fun vs H Q E q => q.1) fun cdv A up s H vs Q E hr hg q => ?_
  have tk : Takes (cxOf (L2.CX P w) P w K mg gb N qual (defScope st) f cdv A up s H E) (fun cls d _ H => E cls d H) := takes_of rfl rfl rfl rfl
  refine ⟨_, body cdv A up s H E hr hg _ tk, ?_⟩
  obtain ⟨hl, F0, ρ, xs, m, r, o, q⟩ := q
  refine ⟨F0, ρ, start0 N.length xs, m, ?_, o, ?_⟩
  · unfold start0 L2.start
    rw [r.length]
    exact start_ok (N := N) r _
  · unfold fnS at q
    rw [if_pos (by rw [r.length]; exact hl)] at q
    have hlen : ρ.length = m.length := o.len
    cases e : g (start0 N.length xs) m with
    | nx en m1 =>
      rw [e] at q
      intro F' ρ' σ' H' ex he ho
      have c := ho.cut m.length
      rw [pre_take ex.pre hlen] at c
      exact q F' ρ H' .non ⟨ex.le, List.prefix_refl _⟩ c (.d .non)
    | rt y m1 =>
      rw [e] at q
      intro F' ρ' H' v ex ho r'
      have c := ho.cut m.length
      rw [pre_take ex.pre hlen] at c
      cases r' with
      | d r' => exact q F' ρ H' v ⟨ex.le, List.prefix_refl _⟩ c (.d r')
      | c z => exact q.elim
      | @o i a ha =>
        unfold fnEnd at q
        dsimp only at q
        by_cases hi : i < m.length
        · rw [if_pos hi] at q
          have ha' : ρ[i]? = some a := by
            rw [← pre_take ex.pre hlen, List.getElem?_take, if_pos hi]
            exact ha
          exact q F' ρ H' _ ⟨ex.le, List.prefix_refl _⟩ c (.o ha')
        · rw [if_neg hi] at q
          cases em : m1[i]? with
          | none => rw [em] at q; exact q.elim
          | some so => cases so with
            | gone => rw [em] at q; exact q.elim
            | lst ys =>
              rw [em] at q
              obtain ⟨q1, ws, q2, q3⟩ := ho.lst i a ys ha em
              obtain ⟨o', ex'⟩ := ho.gone ha q1 q2
              have c' := o'.cut m.length
              rw [pre_take ex.pre hlen] at c'
              have e1 : (m1.set i .gone).take m.length = m1.take m.length := by
                apply List.ext_getElem?
                intro j
                rw [List.getElem?_take, List.getElem?_take]
                split
                · rw [List.getElem?_set_ne (by omega)]
                · rfl
              rw [e1] at c'
              exact q _ ρ H' _ ⟨ex.le.trans ex'.le, List.prefix_refl _⟩ c' (.d (.lst upd_same (q3.mono ex'.le)))
            | dic ys =>
              rw [em] at q
              have c' := ho.one (Nat.le_of_not_lt hi) ha em
              rw [pre_take ex.pre hlen] at c'
              have ln : ρ.length = (m1.take m.length).length := c.len
              exact q F' (ρ ++ [a]) H' _ ⟨ex.le, List.prefix_append _ _⟩ c' (.o (by rw [← ln]; simp))
    | bk _ _ => rw [e] at q; exact q.elim
    | ct _ _ => rw [e] at q; exact q.elim
    | no => rw [e] at q; exact q.elim
    | ex y en m1 =>
      rw [e] at q
      intro F' ρ' σ' H' c d ex he ho xr
      have c' := ho.cut m.length
      rw [pre_take ex.pre hlen] at c'
      exact q F' ρ H' c d ⟨ex.le, List.prefix_refl _⟩ c' xr
end
end EvL
end

section
set_option Elab.async false
set_option linter.all false
set_option maxRecDepth 100000
set_option maxHeartbeats 2000000
/-! E11: an own error whose __init__ says super().__init__(f'..{v!r}') and keeps v -/
namespace PySem
namespace EvX
open PySem.W PySem.Calls PyProof.Rows PySem.HandSPX
/-- the text of such an __init__ -/
def eArgs (f : Str) (p1 p2 : Pos) : Arguments := { posonlyargs := [], args := [{ arg := "self", annotation := none, pos := p1 }, { arg := f, annotation := none, pos := p2 }], vararg := none, kwonlyargs := [], kw_defaults := [], kwarg := none, defaults := [] }
def eMsg (pref f : Str) (j : Nat) (q4 q5 q6 q7 : Pos) : Expr := .JoinedStr [.Constant (.str pref) j q4, .FormattedValue (.Name f q5) 114 none q6] q7
def eBody (pref f : Str) (j : Nat) (q1 q2 q3 q4 q5 q6 q7 q8 q9 q10 q11 q12 q13 : Pos) : List Stmt :=
  [.Expr (.Call (.Attribute (.Call (.Name "super" q1) [] [] q2) "__init__" q3) [eMsg pref f j q4 q5 q6 q7] [] q8) q9, .Assign [.Attribute (.Name "self" q10) f q11] (.Name f q12) q13]
def eScope (f : Str) : Scope := { kind := .function, names := [(PySem.Str.ofString "self", .local), (f, .local), (PySem.Str.ofString "__class__", .free), (PySem.Str.ofString "super", .globalImplicit)], isGenerator := false, isCoroutine := false, more := [] }
/-- a name of a field -/
def okF (f : Str) : Bool := !(f == ("self" : Str)) && !(f == ("__class__" : Str)) && !(f == ("super" : Str)) && !(f == ("__debug__" : Str)) && !(f == ("__classdict__" : Str))
/-- what the written part says of the class x at C, of its __init__ at fI -/
structure ErrTxt (P : Program) (K : Frag) (mg : Str → Option Value) (x f pref : Str) (C fI : Addr) : Prop where
  gC : mg x = some (.ref C)
  cls : ∃ nm q N bs bm sn sub ab col dd k0 k1 k2 k3 k5, K.lookup C = some (excClassObj nm q C N bs bm true sn sub ab col dd k0 k1 k2 k3 k5 "ValueError.__new__") ∧ refsVE bm = true
  sa : findIn K (.ref C) "__setattr__" = some (some (.builtin "object.__setattr__"))
  noN : findIn K (.ref C) f = some none
  iC : findIn K (.ref C) "__init__" = some (some (.ref fI))
  tC : typeIn K (.ref fI) = some (.type "function")
  kC : keepIn K (.ref C) = true
  exC : subIn K (.ref C) (.type "BaseException") = some true
  veC : subIn K (.ref C) (.type "ValueError") = some true
  tyC : typeIn K (.ref C) = some (.type "type")
  su : ks_superIn K C C "__init__" = some (some (.builtin "ValueError.__init__"))
  op : nsIn K cStatics "thirdparty.any" = some none
  mr : mroIn K C (.ref C) = some true
  fn : ∃ (oc : Value) (od : Option Addr) (qual : Str) (doc pm kV : Value) (an : Option Addr) (ct : Value) (osl : Array (Option Value)) (cda cc : Addr) (j : Nat) (p1 p2 q1 q2 q3 q4 q5 q6 q7 q8 q9 q10 q11 q12 q13 : Pos),
    K.lookup fI = some ⟨oc, od, .func (fnX "__init__" qual (eArgs f p1 p2) (eBody pref f j q1 q2 q3 q4 q5 q6 q7 q8 q9 q10 q11 q12 q13) (eScope f) [("__class__", cc)] .none kV doc pm an (.ref cda) ct), osl⟩ ∧ (q3.endLine == q8.line) = true ∧ (∀ a b : Value, bindArgs (fnX "__init__" qual (eArgs f p1 p2) (eBody pref f j q1 q2 q3 q4 q5 q6 q7 q8 q9 q10 q11 q12 q13) (eScope f) [("__class__", cc)] .none kV doc pm an (.ref cda) ct) ⟨[a, b], []⟩ = (pure [(("self" : Str), a), (f, b)] : Sem (List (Str × Value)))) ∧ codeIn K (.ref cda) qual = true ∧
    (∃ ccl cdd vs ccs file tf, K.lookup cda = some ⟨ccl, cdd, .fields vs, ccs⟩ ∧ vs[2]? = some (.str file tf) ∧ ((P.main.file : Str) == file) = true) ∧ (∃ cl cld csl, K.lookup cc = some ⟨cl, cld, .cell (some (.ref C)), csl⟩)
  sp : mg "super" = none
  top : (P.main.scope.names.lookup ("super" : Str)).isSome = false
  okf : okF f = true
  hp : pref.length ≤ 1000
/-- the text of a value -/
def Shows (P : Program) (w : World) (h₀ : Heap) (v : Value) (y : Str) (n : Nat) : Prop := ∀ (A : Around) (s : Shared) (Q : Value → Shared → Prop) (E : Value → Shared → Prop), A.guards = some [] → A.units + n < cLine → (∀ b o, h₀.get? b = some o → s.heap.get? b = some o) →
  (∀ h' u tk, (∀ b o, s.heap.get? b = some o → h'.get? b = some o) → Q (.str y u) { s with heap := h', toks := tk }) → wpAny (model P w) A (pyReprObj v) Q E s
structure InitEnd (h h' : Heap) (x C dx t1 : Addr) (f : Str) (v : Value) : Prop where
  keep : ∀ b o, b ≠ x → h.get? b = some o → h'.get? b = some o
  obj : h'.get? x = some { cls := .ref C, dict := some dx, data := .fields #[.ref t1, .none, .none, .none, .bool false, .none] }
  dbig : h.objs.size ≤ dx
  dne : dx ≠ x
  ns : h'.Ns1 dx (fun y => if y = f then some v else none)
section
variable {P : Program} {w : World} {A : Around} {E : Value → Shared → Prop} {R : Result → Shared → Prop} {s : Shared} {K : Frag} {mg mb : Str → Option Value} {C fI : Addr} {x f pref : Str}
theorem kind_f {f qual : Str} {L a : Addr} {cd : Value} {cl : List (Str × Addr)} (ok : okF f = true) : (envX qual (eScope f) L a cd cl).kindOf f = some .local ∧ (envX qual (eScope f) L a cd cl).kindOf "self" = some .local ∧ (envX qual (eScope f) L a cd cl).kindOf "__class__" = some .free ∧ (envX qual (eScope f) L a cd cl).kindOf "super" = some .globalImplicit := by
  unfold okF at ok
  simp only [Bool.and_eq_true, Bool.not_eq_true'] at ok
  obtain ⟨⟨⟨⟨h1, h2⟩, h3⟩, h4⟩, h5⟩ := ok
  have h1' : f ≠ ("self" : Str) := by simpa using h1
  have h2' : f ≠ ("__class__" : Str) := by simpa using h2
  have h3' : f ≠ ("super" : Str) := by simpa using h3
  have e1 : (("self" : Str) == ("__class__" : Str)) = false := by decide
  have e2 : (("super" : Str) == ("self" : Str)) = false := by decide
  have e3 : (("super" : Str) == ("__class__" : Str)) = false := by decide
  have e4 : (("__class__" : Str) == ("self" : Str)) = false := by decide
  refine ⟨?_, ?_, ?_, ?_⟩
  · show List.lookup f _ = _
    simp [eScope, List.lookup, h1]
  · rfl
  · show List.lookup _ _ = _
    have : (("__class__" : Str) == f) = false := by simpa using Ne.symm h2'
    simp [eScope, List.lookup, e4, this]
  · show List.lookup _ _ = _
    have : (("super" : Str) == f) = false := by simpa using Ne.symm h3'
    simp [eScope, List.lookup, e2, e3, this]
theorem call_mw {h : Heap} {g : Array GenState} {d : Drawn} {t : Nat} {os : OsState} {nm q : Str} {N : Addr} {bs bm : List Value} {hdct : Bool} {sn : List Str} {sub : List Value} {ab : Bool} {col : Option Bool} {dd : Option Addr} {k0 k1 k2 k3 k5 : Option Value} {u e t0 : Addr} {m : Value} {Q : Value → Shared → Prop}
    (hC : h.get? C = some (excClassObj nm q C N bs bm hdct sn sub ab col dd k0 k1 k2 k3 k5 "ValueError.__new__")) (he : h.get? e = some (excO C t0)) (hu : h.get? u = some (kxs_mw "ValueError.__init__" e))
    (hq : ∀ h' t1, (∀ b o, b ≠ e → h.get? b = some o → h'.get? b = some o) → h'.get? e = some (excO C t1) → Q .none ⟨h', g, d, t, os⟩) : wpAny (model P w) A (call (.ref u) [m]) Q E ⟨h, g, d, t, os⟩ := by
  have FB := F.excBase_ValueError
  refine wpAny_call (codeAny_of_tree ?_)
  show wpAny _ A.in1 (callAny (.ref u) ⟨[m], []⟩) _ _ _
  unfold callAny
  refine wpAny_bind (wpAny_load hu ?_)
  have z : (Value.type "method-wrapper" == Value.type "method" || Value.type "method-wrapper" == Value.type "builtin_function_or_method" || Value.type "method-wrapper" == Value.type "method-wrapper") = true := by decide
  simp only [kxs_mw, z, if_true]
  refine KFB.if_so (by decide) (wpAny_bind (check_bound_init FB.toExcCallFacts hC he rfl (wpAny_bind (wpAny_pure (wpAny_pure ?_)))))
  refine ⟨plainId_quiet FB.init.plain _, codeAny_builtin FB.initEntry ?_⟩
  exact exc_init_tree (cls := .ref C) (t0 := t0) (dv := none) (c2 := .none) (c3 := .none) (b4 := .bool false) he (by rw [sizeLine_eq]; exact (by decide : (1 : Nat) ≤ 16777216)) fun h' a1 a2 _ => hq h' _ a1 a2
theorem loc_ev {M : Model} {env : Env} {y : Str} {m : Str → Option Value} {p : Pos} {v : Value} {Q : Value → Shared → Prop} (hk : env.scope.kind = .function) (hl : env.kindOf y = some .local) (hn : s.heap.Ns env.locals m) (hv : m y = some v) (hd : (y == ("__debug__" : Str)) = false) (h : Q v s) : wpAny M A (eval (.Name y p) env) Q E s :=
  wpAny_Name (wpAny_loadName_local hk hl hn hv h) hd
theorem kf_deb (ok : okF f = true) : (f == ("__debug__" : Str)) = false := by
  unfold okF at ok
  simp only [Bool.and_eq_true, Bool.not_eq_true'] at ok
  exact ok.1.2
theorem kf_self (ok : okF f = true) : (f == ("self" : Str)) = false := by
  unfold okF at ok
  simp only [Bool.and_eq_true, Bool.not_eq_true'] at ok
  exact ok.1.1.1.1
/-- the message -/
theorem msg_ev {env : Env} {m : Str → Option Value} {j n : Nat} {q4 q5 q6 q7 : Pos} {v : Value} {y : Str} {h₀ : Heap} {Q : Value → Shared → Prop} (hk : env.scope.kind = .function) (hl : env.kindOf f = some .local) (hn : s.heap.Ns env.locals m) (hv : m f = some v) (hd : (f == ("__debug__" : Str)) = false)
    (sh : Shows P w h₀ v y n) (hg : A.guards = some []) (hu : A.units + n < cLine) (k0 : ∀ b o, h₀.get? b = some o → s.heap.get? b = some o) (hp : pref.length ≤ 1000) (hy : y.length ≤ 1000000)
    (h : ∀ h' tk u, (∀ b o, s.heap.get? b = some o → h'.get? b = some o) → Q (.str (Str.empty ++ pref ++ y) u) { s with heap := h', toks := tk }) : wpAny (model P w) A (eval (eMsg pref f j q4 q5 q6 q7) env) Q E s := by
  have zp : (Str.empty ++ pref).length ≤ 1000 := by rw [strLen_append]; have z : Str.empty.length = 0 := rfl; omega
  have zy : (Str.empty ++ pref ++ y).length ≤ sizeLine := by rw [strLen_append, sizeLine_eq]; omega
  refine wpAny_JoinedStr ?_
  have e1 : evalEach [Expr.Constant (.str pref) j q4, Expr.FormattedValue (.Name f q5) 114 none q6] env = [eval (.Constant (.str pref) j q4) env, eval (.FormattedValue (.Name f q5) 114 none q6) env] := by first | rfl | simp [evalEach]
  rw [e1]
  show wpAny _ _ _ _ _ _
  refine Constant_str ⟨pref, s.toks, rfl, by rw [sizeLine_eq]; omega, ?_⟩
  show wpAny _ _ _ _ _ _
  refine wpAny_FormattedValue_repr (loc_ev hk hl hn hv hd (sh A _ _ _ hg hu k0 fun h' u tk kk => ?_))
  have zy' : y.length ≤ sizeLine := by rw [sizeLine_eq]; omega
  exact wpAny_formatField_str ⟨y, u, rfl, zy, zy, h h' _ _ kk⟩ ⟨y, tk, rfl, zy, zy, h h' _ _ kk⟩ zy'
/-- __init__ runs -/
theorem err_init (T : ErrTxt P K mg x f pref C fI) {h₀ : Heap} {e t0 : Addr} {v : Value} {y : Str} {n : Nat} (X : K.In s.heap) (hlim : s.heap.NoLimit) (G : s.heap.Ns mainGlobals mg) (Gb : s.heap.Ns builtinsNs mb) (hb : mb "super" = some (.type "super")) (he : s.heap.get? e = some (excO C t0)) (hne : K.lookup e = none)
    (hroom : A.depth < recursionLimit) (hg : A.guards = some []) (hu : A.units + n + 10 < cLine) (sh : Shows P w h₀ v y n) (k0 : ∀ b o, h₀.get? b = some o → s.heap.get? b = some o) (hy : y.length ≤ 1000000)
    (hq : ∀ h' tk dx t1, InitEnd s.heap h' e C dx t1 f v → R (.ok (.ret .none)) { s with heap := h', toks := tk }) :
    codeAny (model P w) A (.call (.ref fI) ⟨[.ref e, v], []⟩) R s := by
  obtain ⟨oc, od, qual, doc, pm, kV, an, ct, osl, cda, cc, j, p1, p2, q1, q2, q3, q4, q5, q6, q7, q8, q9, q10, q11, q12, q13, ho, hln, hbn, hcd, ⟨ccl, cdd, vs, ccs, file, tf, hcode, hvs, hfile⟩, ⟨cl, cld, csl, hcell⟩⟩ := T.fn
  obtain ⟨nm, q, N, bs, bm, sn, sub, ab, col, dd, k0', k1, k2, k3, k5, hC, hbm⟩ := T.cls
  have hcl : clsIn K C = some { name := nm, bases := bs, mro := .ref C :: bm, ns := N, qualname := q, hasDict := true, slotNames := sn, subclasses := sub, abstract := ab, collection := col, hasDel := false } := by unfold clsIn; rw [hC] <;> rfl
  have nf := kf_self T.okf
  have nf' : ("self" : Str) ≠ f := fun z => by rw [← z] at nf; cases nf
  refine ks_codeAny_call_defAt (binds := [(("self" : Str), Value.ref e), (f, v)]) hroom (X _ _ ho) rfl hlim (codeRec_of X hcd) rfl (BindsTo.of_eq (hbn _ _)) ?_ ?_ (fun h₁ hns kk => ?_) rfl rfl rfl
  · intro z hz
    simp only [eScope, List.mem_cons, List.not_mem_nil, or_false] at hz
    rcases hz with rfl | rfl | rfl | rfl <;> simp
  · intro z hz
    obtain ⟨w1, w2, _⟩ := kind_f (f := f) (qual := qual) (L := 0) (a := 0) (cd := .none) (cl := []) T.okf
    simp only [List.mem_cons, List.not_mem_nil, or_false] at hz
    rcases hz with rfl | rfl
    · exact w2
    · exact w1
  obtain ⟨w1, w2, w3, w4⟩ := kind_f (f := f) (qual := qual) (L := s.heap.objs.size) (a := fI) (cd := .ref cda) (cl := [("__class__", cc)]) T.okf
  have X1 : K.In h₁ := X.keeps kk
  have hC1 := X1 _ _ hC
  have he1 := kk _ _ he
  have eC : e ≠ C := fun z => by rw [z, hC] at hne; cases hne
  have eL : s.heap.objs.size ≠ e := Nat.ne_of_gt (Heap.lt_size he)
  have ms : ([(("self" : Str), Value.ref e), (f, v)].reverse).lookup ("self" : Str) = some (.ref e) := by
    have : (("self" : Str) == f) = false := by simpa using nf'
    simp [List.lookup, this]
  have mf : ([(("self" : Str), Value.ref e), (f, v)].reverse).lookup f = some v := by simp [List.lookup]
  have nsK : ∀ {h' : Heap}, (∀ b o, b ≠ e → h₁.get? b = some o → h'.get? b = some o) → h'.Ns s.heap.objs.size (fun y => [(("self" : Str), Value.ref e), (f, v)].reverse.lookup y) := fun {h'} k => by
    obtain ⟨oL, es, ep, hL, r⟩ := hns
    exact ⟨oL, es, ep, k _ _ eL hL, r⟩
  refine ks_wpAt_execs_cons (ks_wpAt_Expr_any (ks_wpAt_MethodCall (pl := L2.plainOf (.Call (.Name "super" q1) [] [] q2) (envX qual (eScope f) s.heap.objs.size fI (.ref cda) [("__class__", cc)])) ?_ ?_))
  rotate_left
  · rw [arm_eval_Call]
    refine congrArg _ (funext fun ov => ?_)
    refine congrArg _ (funext fun _ => ?_)
    exact L2.mcall_line (by rfl) hln
  refine ks_wpAt_super_base (env := envX qual (eScope f) s.heap.objs.size fI (.ref cda) [("__class__", cc)]) w4 w3 (by decide) rfl (X1 _ _ ho) rfl rfl rfl (X1 _ _ hcode) rfl hvs hfile T.top ?_
  refine ks_loadName_global rfl w4 (loadGlobal_builtin (env := envX qual (eScope f) s.heap.objs.size fI (.ref cda) [("__class__", cc)]) (G.keeps kk) T.sp (Gb.keeps kk) hb ⟨rfl, ?_⟩)
  refine wpAny_loadName_free rfl w3 rfl ⟨_, X1 _ _ hcell, rfl⟩ ?_
  refine wpAny_loadName_local rfl w2 hns ms ?_
  refine ks_wpAny_isType_cls hC1 rfl ⟨rfl, ?_⟩
  refine ks_wpAny_call_super hC1 rfl he1 rfl (fun c z => by cases z) (looks_mroIn X1 T.mr) fun h2 eso k2 => ?_
  have X2 : K.In h2 := X1.keeps k2
  have he2 := k2 _ _ he1
  have I2 : InstAt h2 e (excO C t0) C none := ⟨he2, rfl, rfl, trivial⟩
  have su := T.su
  unfold ks_superIn at su
  rw [hcl] at su
  refine kxs_getMethod kxs_ValueError eso (looks_opaque X2 T.op) (fun A Q E s k q => wpAny_bind ((looks_clsIn X2 hcl) A _ E s k (wpAny_pure q))) rfl X2 su (I2.type.andThen (looks_subIn X2 T.veC)) eC (by decide) ?_
  have k3 : ∀ b o, h2.get? b = some o → (h2.push (kxs_mw "ValueError.__init__" e)).get? b = some o := fun b o z => Heap.get?_push_of_some _ z
  have hu3 : (h2.push (kxs_mw "ValueError.__init__" e)).get? h2.objs.size = some (kxs_mw "ValueError.__init__" e) := Heap.get?_push_at rfl rfl
  show wpAny _ _ (callWith _ _ _ _ _) _ _ _
  refine kxs_callWith (i := "ValueError.__init__") (x := e) (by rfl) (evalArgs_plain ?_)
  show wpAny _ _ (spliced ((false, _) :: [])) _ _ _
  refine spliced_cons (msg_ev (y := y) (q7 := q7) rfl w1 (nsK fun b o _ z => k3 _ _ (k2 _ _ z)) mf (kf_deb T.okf) sh hg (by show A.units + 3 + n < cLine; omega) (fun b o z => k3 _ _ (k2 _ _ (kk _ _ (k0 b o z)))) T.hp hy fun h4 tk4 u4 k4 => spliced_nil ?_)
  have keepA : ∀ b o, h₁.get? b = some o → h4.get? b = some o := fun b o z => k4 _ _ (k3 _ _ (k2 _ _ z))
  have hu4 := k4 _ _ hu3
  refine ⟨hu4, ?_⟩
  refine call_mw (keepA _ _ hC1) (keepA _ _ he1) hu4 fun h5 t1 k5' he5 => ?_
  have keepB : ∀ b o, b ≠ e → h₁.get? b = some o → h5.get? b = some o := fun b o hb z => k5' _ _ hb (keepA _ _ z)
  have keepS : ∀ b o, b ≠ e → s.heap.get? b = some o → h5.get? b = some o := fun b o hb z => keepB _ _ hb (kk _ _ z)
  have X5 : K.In h5 := fun a o z => keepB a o (fun q => by rw [q, hne] at z; cases z) (X1 a o z)
  have ns5 := nsK keepB
  show wpAt _ _ _ _ _ _ _
  refine wpAt_of_wpAny (wpAny_execs_cons (plainObj_wpAny_Assign_Attribute ?_))
  refine loc_ev rfl w1 ns5 mf (kf_deb T.okf) (loc_ev rfl w2 ns5 ms (by decide) ?_)
  refine set_plain X5 (ox := excO C t1) (od := none) ⟨he5, rfl, rfl, trivial⟩ T.sa ?_
  refine exc_osa X5 he5 hcl (show refsVE (.ref C :: bm) = true from hbm) rfl T.noN fun h6 tk6 dx k6 dn dne hx6 hn6 => ?_
  show wpAny _ _ (execs _ _) _ _ _
  refine wpAny_execs_nil (hq h6 tk6 dx t1 ⟨fun b o hb z => k6 b o hb (keepS b o hb z), hx6, ?_, dne, hn6⟩)
  exact Nat.le_of_lt (Nat.lt_of_lt_of_le ns5.lt dn)
end
end EvX
end PySem
end

section
set_option Elab.async false
set_option linter.all false
set_option maxRecDepth 100000
set_option maxHeartbeats 2000000
/-! E12: raise -/
namespace PySem
namespace EvX
open PySem.W PySem.Calls PyProof.Rows PySem.HandSPX
theorem shows_of {P : Program} {w : World} {h₀ : Heap} {v : Value} {d : PyData} {as : List Addr} (r : Reads h₀ v d as) (hs : d.showable = true) (hd : d.hasDict = true → sysModules ∉ as) (hsz : d.shown.length ≤ 1000000) : Shows P w h₀ v d.shown (d.depth + 1) := by
  intro A s Q E hg hu k0 hq
  have hz : d.shown.length ≤ sizeLine := by rw [sizeLine_eq]; omega
  cases v with
  | ref a => exact pyReprObj_of_reads r hs hd hg (by omega) k0 (fun h' u tk k => hq h' u tk k) hz
  | none => cases r; exact pyReprObj_none (hq _ _ _ fun _ _ z => z)
  | bool b => cases r; exact pyReprObj_bool (by cases b <;> exact hq _ _ _ fun _ _ z => z)
  | int i t =>
    cases r
    refine pyReprObj_int (by simpa [PyData.showable] using hs) ?_
    exact hq _ _ _ fun _ _ z => z
  | str x t => cases r; exact pyReprObj_str (hq _ _ _ fun _ _ z => z) hz
  | _ => cases r
structure Made (h h' : Heap) (e C d : Addr) (f : Str) (v : Value) : Prop where
  keep : ∀ b o, h.get? b = some o → h'.get? b = some o
  new : h.objs.size ≤ e
  obj : ∃ oe vs, h'.get? e = some oe ∧ oe.cls = .ref C ∧ oe.dict = some d ∧ oe.data = .fields vs ∧ vs[1]? = some .none
  dbig : h.objs.size ≤ d
  dne : d ≠ e
  ns : h'.Ns1 d (fun y => if y = f then some v else none)
section
variable {P : Program} {w : World} {A : Around} {E : Value → Shared → Prop} {R : Result → Shared → Prop} {s : Shared} {K : Frag} {mg mb : Str → Option Value} {C fI : Addr} {x f pref : Str}
theorem err_made (T : ErrTxt P K mg x f pref C fI) {v : Value} {y : Str} {n : Nat} (X : K.In s.heap) (hlim : s.heap.NoLimit) (G : s.heap.Ns mainGlobals mg) (Gb : s.heap.Ns builtinsNs mb) (hb : mb "super" = some (.type "super"))
    (hroom : A.depth + 1 < recursionLimit) (hg : A.guards = some []) (hu : A.units + n + 20 < cLine) (sh : Shows P w s.heap v y n) (hy : y.length ≤ 1000000)
    (hq : ∀ h' tk e d, Made s.heap h' e C d f v → R (.ok (.ret (.ref e))) { s with heap := h', toks := tk }) :
    codeAny (model P w) A (.call (.ref C) ⟨[v], []⟩) R s := by
  obtain ⟨nm, q, N, bs, bm, sn, sub, ab, col, dd, k0, k1, k2, k3, k5, hC, hbm⟩ := T.cls
  obtain ⟨hp, g, dr, tk, os⟩ := s
  have k : ∀ b o, hp.get? b = some o → ((hp.push (kdv_tup [v])).push (excO C hp.objs.size)).get? b = some o := fun b o e => Heap.get?_push_of_some _ (Heap.get?_push_of_some _ e)
  have hget : ((hp.push (kdv_tup [v])).push (excO C hp.objs.size)).get? (hp.objs.size + 1) = some (excO C hp.objs.size) := by heap_get
  have hnx : K.lookup (hp.objs.size + 1) = none := by
    cases e : K.lookup (hp.objs.size + 1) with
    | none => rfl
    | some o => exact absurd (Nat.lt_of_succ_lt (Heap.lt_size (show hp.get? (hp.objs.size + 1) = some o from X _ _ e))) (Nat.lt_irrefl _)
  refine call_own F.excBase_ValueError (fun X => refsVE_contains X bm hbm) (X _ _ hC) (looks_findIn X T.iC) (fun self => bind_fn X self T.tC) (by show 1 ≤ sizeLine; rw [sizeLine_eq]; decide) ?_
  refine err_init (s := ⟨(hp.push (kdv_tup [v])).push (excO C hp.objs.size), g, dr, tk, os⟩) (h₀ := hp) T (X.keeps k) (hlim.keeps k) (G.keeps k) (Gb.keeps k) hb hget hnx ?_ ?_ ?_ sh k hy fun h' tk' dx t1 ⟨k', hx, dn, dne, hns⟩ => ?_
  · exact hroom
  · exact hg
  · have z : (Code.builtin "type.__call__" ⟨[Value.ref C, v], []⟩).cUnits ≤ 4 := by
      first
        | exact Nat.le_of_eq (show _ = 4 by rfl)
        | exact Nat.le_trans (Nat.le_of_eq (show _ = 1 by rfl)) (by decide)
    show A.units + (Code.builtin "type.__call__" ⟨[Value.ref C, v], []⟩).cUnits + n + 10 < cLine
    omega
  · have old : ∀ b o, hp.get? b = some o → h'.get? b = some o := fun b o e => k' b o (Nat.ne_of_lt (Nat.lt_succ_of_lt (Heap.lt_size e))) (k b o e)
    have z : hp.objs.size + 1 + 1 ≤ dx := by
      have q := dn
      rw [Heap.size_push, Heap.size_push] at q
      exact q
    exact ⟨rfl, hq h' tk' (hp.objs.size + 1) dx ⟨old, Nat.le_succ _, ⟨_, _, hx, rfl, rfl, rfl, rfl⟩, Nat.le_trans (Nat.le_trans (Nat.le_succ _) (Nat.le_succ _)) z, dne, hns⟩⟩
end
end EvX
end PySem
namespace EvL
open PySem PySem.Spec PyProof.Rows L2
/-- data whose repr is told -/
def showOk (d : Dv) : Bool := good d && (cv d).showable && !(cv d).hasDict && decide ((cv d).shown.length ≤ 1000000) && decide ((cv d).depth ≤ 100)
theorem showOk_iff {d : Dv} (h : showOk d = true) : flat d = true ∧ (cv d).showable = true ∧ (cv d).hasDict = false ∧ (cv d).shown.length ≤ 1000000 ∧ (cv d).depth ≤ 100 := by
  unfold showOk good at h
  simp only [Bool.and_eq_true, Bool.not_eq_true', decide_eq_true_eq] at h
  exact ⟨h.1.1.1.1.1, h.1.1.1.2, h.1.1.2, h.1.2, h.2⟩
/-! data without lists, its dicts empty -/
mutual
def noLst : Dv → Bool
  | .non => true
  | .bl _ => true
  | .int _ => true
  | .str _ => true
  | .tup xs => noLstL xs
  | .dic kvs => kvs.isEmpty
  | .lst _ => false
  | .scr _ => false
  | .fn _ => false
def noLstL : List Dv → Bool
  | [] => true
  | x :: xs => noLst x && noLstL xs
end
section
variable {X : Cx} {pins : List (Addr × Obj)} {σ : L2.St} {H F : Hp} {s : Shared} {tb : Tb}
/-- an empty dict's object -/
theorem dic0 (I : Inv X pins σ H s) (l : Le F H) {a : Addr} {vs : List (Key × V)} (h : F a = some (.dK vs)) (r : RepK X.K tb F [] vs) : (a == sysModules) = false ∧ ∃ o n, s.heap.get? a = some o ∧ o.cls = .type "dict" ∧ o.data = .dict #[] n := by
  cases r
  obtain ⟨_, hs, vs', kv, o, es, ep, h1, h2, h3, h4, h5, h6⟩ := I.hok a _ (l _ _ h)
  cases kv
  have e : es.toList = [] := by
    cases hes : es.toList with
    | nil => rfl
    | cons z zs => rw [hes] at h5; cases h5
  have e2 : es = #[] := by simpa using e
  subst e2
  exact ⟨hs, o, ep, h1, h2.1, h3⟩
mutual
theorem Rep.rdN (I : Inv X pins σ H s) (l : Le F H) : ∀ {d : Dv} {v : V} {u : Value}, Rep X.K tb F d v → RelV v u → noLst d = true → ∃ as, Reads s.heap u (cv d) as ∧ sysModules ∉ as
  | _, _, _, .non, r, _ => by cases r; unfold cv; exact ⟨_, .none, by simp⟩
  | _, _, _, .bl b, r, _ => by cases r; unfold cv; exact ⟨_, .bool b, by simp⟩
  | _, _, _, .int i, r, _ => by obtain ⟨t, rfl⟩ := r; unfold cv; exact ⟨_, .int i t, by simp⟩
  | _, _, _, .str x, r, _ => by obtain ⟨t, rfl⟩ := r; unfold cv; exact ⟨_, .str x t, by simp⟩
  | .tup xs, _, _, .tup h rs, r, q => by
    cases r
    obtain ⟨its, rv, ⟨o, ho, hc, n, hd⟩, _⟩ := I.tuple (l.sqt h)
    obtain ⟨as, h1, h2⟩ := RepL.rdN I l rs rv (by simpa [noLst] using q)
    unfold cv
    exact ⟨as, .tuple ho hc hd (by simpa using h1), h2⟩
  | .dic kvs, _, _, .dic h rs, r, q => by
    cases r
    have e : kvs = [] := by simpa [noLst] using q
    subst e
    obtain ⟨hs, o, n, h1, h2, h3⟩ := dic0 I l h rs
    unfold cv
    refine ⟨_, .dict (kvs := []) h1 h2 h3 .nil .nil, ?_⟩
    have hs2 := beq_eq_false_iff_ne.mp hs
    simp
    exact fun z => hs2 z.symm
  | .lst _, _, _, .lst _ _, _, q => by simp [noLst] at q
  | .fn _, _, _, .fn _ _, _, q => by simp [noLst] at q
  | .fn _, _, _, .lam _, _, q => by simp [noLst] at q
  | .scr _, _, _, .scr _, _, q => by simp [noLst] at q
theorem RepL.rdN (I : Inv X pins σ H s) (l : Le F H) : ∀ {d : List Dv} {v : List V} {u : List Value}, RepL X.K tb F d v → Vals v u → noLstL d = true → ∃ as, ReadsAll s.heap u (cvL d) as ∧ sysModules ∉ as
  | _, _, _, .nil, r, _ => by cases r; unfold cvL; exact ⟨_, .nil, by simp⟩
  | _, _, _, .cons h rs, r, q => by
    cases r with
    | cons r1 r2 =>
      simp only [noLstL, Bool.and_eq_true] at q
      obtain ⟨as, a1, a2⟩ := Rep.rdN I l h r1 q.1
      obtain ⟨bs, b1, b2⟩ := RepL.rdN I l rs r2 q.2
      unfold cvL
      exact ⟨_, .cons a1 b1, by simp [a2, b2]⟩
end
/-- how it reads, whatever the state -/
def RdD (X : Cx) (H : Hp) (v : V) (d : PyData) : Prop := ∀ (pins : List (Addr × Obj)) (σ : L2.St) (s : Shared) (u : Value), Inv X pins σ H s → RelV v u → ∃ as, Reads s.heap u d as ∧ (d.hasDict = true → sysModules ∉ as)
theorem RdD.flat {v : V} {d : PyData} (h : Dp X.K H v d) (hd : d.hasDict = false) : RdD X H v d := fun pins σ s u I r => by
  obtain ⟨as, q⟩ := Dp.reads I d v u h r
  exact ⟨as, q, fun z => by rw [hd] at z; cases z⟩
theorem RdD.noLst {v : V} {d : Dv} (l : Le F H) (h : Rep X.K tb F d v) (q : noLst d = true) : RdD X H v (cv d) := fun pins σ s u I r => by
  obtain ⟨as, q1, q2⟩ := Rep.rdN I l h r q
  exact ⟨as, q1, fun _ => q2⟩
end
/-- data that an error of its own may hold -/
def showX (d : Dv) : Bool := showOk d || (noLst d && ((cv d).showable && (decide ((cv d).shown.length ≤ 1000000) && decide ((cv d).depth ≤ 100))))
theorem showX_iff {d : Dv} (h : showX d = true) : (flat d = true ∧ (cv d).hasDict = false ∨ noLst d = true) ∧ (cv d).showable = true ∧ (cv d).shown.length ≤ 1000000 ∧ (cv d).depth ≤ 100 := by
  unfold showX at h
  rw [Bool.or_eq_true] at h
  rcases h with h | h
  · obtain ⟨a, b, c, d, e⟩ := showOk_iff h
    exact ⟨.inl ⟨a, c⟩, b, d, e⟩
  · simp only [Bool.and_eq_true, decide_eq_true_eq] at h
    exact ⟨.inr h.1, h.2.1, h.2.2.1, h.2.2.2⟩
theorem showX_of {d : Dv} (h : showOk d = true) : showX d = true := by
  unfold showX
  rw [h]
  rfl
theorem relO_one {v : V} {v' : Value} (r : RelV v v') (f g : Str) : RelO (List.lookup g [(f, v)]) (if g = f then some v' else none) := by
  by_cases h : g = f
  · subst h
    rw [if_pos rfl]
    have q : List.lookup g [(g, v)] = some v := by simp [List.lookup]
    rw [q]
    exact r
  · rw [if_neg h]
    have q : (g == f) = false := by simpa using h
    have q2 : List.lookup g [(f, v)] = none := by simp [List.lookup, q]
    rw [q2]
    trivial
section
variable {K : PySem.W.Frag} {tb : Tb} {W : WX} {X : Cx} {a : Expr} {fa : Sem1} {k ci : Nat} {C fI : Addr} {x f pref : Str} {p pos pos2 p2 : Pos} {j : Nat}
/-- x(e) -/
def tMkE (X : Cx) (C : Addr) (f : Str) (ta : TA) : L2.St → Hp → XK → Prop := fun σ H Q => ta σ H fun vs H1 => ∃ (v : V) (d : PyData), vs = [v] ∧ RdD X H1 v d ∧ d.showable = true ∧ d.shown.length ≤ 1000000 ∧ d.depth ≤ 100 ∧ ∀ dd, H1 dd = none → Q (.ref C) (some dd) (upd H1 dd (.xd [(f, v)]))
theorem pmk_err {ta : TA} (T : PySem.EvX.ErrTxt X.prog X.K X.mg x f pref C fI) (hr : Room k X.A) (hgu : X.A.guards = some []) (ha : PA X [a] ta) (hg : Gl X x) (hdb : (x == ("__debug__" : Str)) = false := by decide)
    (he : starEach (a :: []) X.env = (false, eval a X.env) :: starEach [] X.env := by rfl) (hpl : (backTo pos (starEach [] X.env)).any (·.1) = false := by rfl) : PMk X (.Call (.Name x p) [a] [] pos) (tMkE X C f ta) := by
  intro pins s σ H Q I h
  refine wpAny_Call_Name_kw (ld_glob I hg T.gC ?_ hdb)
  refine PySem.W.callWith_K (h₀ := X.base) I.ok.mod.kin T.kC (thn (ha.run pos pins s σ H _ I h) fun us s1 hh => ?_) he hpl
  obtain ⟨vs, H1, I1, r1, v, d, ev, dp, z1, z3, z4, q1⟩ := hh
  subst ev
  refine ⟨I1.kIn, ?_⟩
  cases r1 with
  | cons rv rn =>
    rename_i v' us'
    cases rn
    show wpAny _ _ (call (.ref C) [v']) _ _ _
    obtain ⟨as, rds, z2⟩ := dp _ _ _ v' I1 rv
    obtain ⟨mb, hmb, hbb⟩ := I1.ok.mod.blt
    have kb : ∀ b o, X.base.get? b = some o → s1.heap.get? b = some o := fun b o e => (I1.env0.bs b o e).1
    have hlim := I1.nolimit
    obtain ⟨hp, g, dr, tk, os⟩ := s1
    refine wpAny_call (PySem.EvX.err_made (n := d.depth + 1) T I1.kIn hlim (I1.ok.mod.glob.keeps kb) (hmb.keeps kb) ((hbb _ (by decide)).trans (by kernel_rfl)) (by have := hr.dp; omega) hgu (by have := hr.un; omega) (PySem.EvX.shows_of rds z1 z2 z3) z3 fun h' tk' e d M => ?_)
    show MkP X pins σ Q (.ref e) ⟨h', g, dr, tk', os⟩
    obtain ⟨oe, fv, hoe, hc, hd, hdat, h1⟩ := M.obj
    have hns := M.ns
    obtain ⟨G', g1, g2⟩ := restrict h' fun b => decide (b ≠ e)
    have gk : ∀ b, b ≠ e → G'.get? b = h'.get? b := fun b hb => g1 b (decide_eq_true hb)
    have ge : G'.get? e = none := g2 e (by simp)
    have old : ∀ b o, hp.get? b = some o → G'.get? b = some o := fun b o q => (gk b (Nat.ne_of_lt (Nat.lt_of_lt_of_le (Heap.lt_size q) M.new))).trans (M.keep b o q)
    have ob : ObjOk X.prog X.w (upd H1 d (.xd [(f, v)])) G' d (.xd [(f, v)]) := ⟨_, hns.at (fun o q => (gk d M.dne).trans q), fun y => relO_one rv f y⟩
    have J : Inv X pins σ (upd H1 d (.xd [(f, v)])) ⟨G', g, dr, tk', os⟩ := I1.laid (t' := tk') old M.dbig ob
    refine ⟨e, oe, fv, ⟨G', g, dr, tk', os⟩, _, .ref C, some d, rfl, J, fun b o q => ?_, ge, hoe, ⟨hc, hd⟩, hdat, h1, ?_, rfl, I1.bare, raises_own T.exC T.tyC, q1 d (I1.hok.fresh M.dbig)⟩
    · by_cases hb : b = e
      · have q' : G'.get? b = some o := q
        rw [hb, ge] at q'; cases q'
      · exact (gk b hb).symm.trans q
    · rw [upd_ne (Ne.symm M.dne)]
      exact I1.hok.fresh M.new
/-- raise x(e) -/
def gRaise (ci : Nat) (f : Str) (fa : Sem1) : SemS := fun en m => (fa en m).st en fun y m1 => match frz m1 y with
  | some (d, m2) => if showX d then .ex ⟨ci, some (f, d)⟩ en m2 else .no
  | none => .no
theorem rs_raise (hc : X.calm = true) (tk : Takes X W) (T : PySem.EvX.ErrTxt X.prog X.K X.mg x f pref (tb.clA ci) fI) (hr : Room k X.A) (hgu : X.A.guards = some []) (ha : RE X tb W a fa) (hg : Gl X x) (hdb : (x == ("__debug__" : Str)) = false := by decide)
    (he : starEach (a :: []) X.env = (false, eval a X.env) :: starEach [] X.env := by rfl) (hpl : (backTo pos (starEach [] X.env)).any (·.1) = false := by rfl) : RS X tb W (.Raise (some (.Call (.Name x p) [a] [] pos)) none pos2) (gRaise ci f fa) := by
  refine PS.weak (ps_raise hc tk (pmk_err T hr hgu (pa_cons ha pa_nil he) hg hdb he hpl)) fun D σ H q => ?_
  obtain ⟨F, ρ, en, m, he, ho, q⟩ := q
  refine tE_st he ho q fun y m1 F1 ρ1 H1 v e1 he1 ho1 r1 q1 => ?_
  split at q1
  · rename_i d m2 hd
    split at q1
    · rename_i hs
      obtain ⟨F2, e2, o2, r2⟩ := frz_ok ho1 r1 hd
      obtain ⟨s1, s2, s4, s5⟩ := showX_iff hs
      have rd : RdD X H1 v (cv d) := s1.elim (fun z => RdD.flat (r2.dp o2.sub z.1) z.2) fun z => RdD.noLst o2.sub r2 z
      refine ⟨v, cv d, rfl, rd, s2, s4, s5, fun dd hdd => ?_⟩
      obtain ⟨o3, e3⟩ := o2.alloc hdd (.xd [(f, v)])
      exact q1 _ ρ1 σ _ _ (some dd) (e2.trans e3) (he1.mono (e2.trans e3)) o3 ⟨rfl, dd, v, rfl, upd_same, r2.mono e3.le⟩
    · exact q1.elim
  · exact q1.elim
/-- raise x('..'), x without an __init__ of its own -/
def gRaise0 (ci : Nat) : SemS := fun en m => .ex ⟨ci, none⟩ en m
theorem rs_raise0 {m : Str} {bmB : List Value} {B newId initId : String} (hc : X.calm = true) (tk : Takes X W) (F : ExcBaseFacts B newId initId bmB) (q : PySem.W.excIn X.K (tb.clA ci) bmB newId = true) (gC : X.mg x = some (.ref (tb.clA ci))) (kC : PySem.W.keepIn X.K (.ref (tb.clA ci)) = true) (r : Raises X (.ref (tb.clA ci))) (hg : Gl X x)
    (hdb : (x == ("__debug__" : Str)) = false := by decide) : RS X tb W (.Raise (some (.Call (.Name x p) [.Constant (.str m) j p2] [] pos)) none pos2) (gRaise0 ci) := by
  refine PS.weak (ps_raise hc tk (pmk_own F q gC kC r hg hdb)) fun D σ H q => ?_
  obtain ⟨F, ρ, en, m, he, ho, q⟩ := q
  exact q F ρ σ H _ none (.refl _ _) he ho ⟨rfl, trivial⟩
end
end EvL
end

section
set_option Elab.async false
set_option linter.all false
set_option maxRecDepth 100000
set_option maxHeartbeats 2000000
/-! E13: try with clauses in a row, each with or without a name -/
namespace EvL
open PySem PySem.Spec PyProof.Rows L2
abbrev Suit := Addr → Value → Option Addr → TS
/-- an end of a suite whose name is taken back -/
def clrE (i : Nat) (D : Ends) : Ends := { nx := fun σ H => D.nx (σ.set i none) H, rt := D.rt, bk := fun σ H => D.bk (σ.set i none) H, ct := fun σ H => D.ct (σ.set i none) H }
def wCl (K : PySem.W.Frag) (Wout : WX) (D : Ends) : List (Value × Option Nat × Suit) → WX
  | [] => Wout
  | (c, o, ts) :: more => fun cls d σ H => ∃ b, PySem.W.exmOne K cls c = some b ∧
      (b = true → ∀ a, H a = none → match o with | none => ts a cls d D σ H | some i => ts a cls d (clrE i D) (σ.set i (some (.ref a))) H) ∧ (b = false → wCl K Wout D more cls d σ H)
def SuitOk (X : Cx) (sts : List Stmt) (ts : Suit) : Prop := ∀ (a : Addr) (oe : Obj) (cls : Value) (d : Option Addr) (pn : List (Addr × Obj)), Zc cls d oe → (∃ vs, oe.data = .fields vs) → PSs (X.suite a ((a, oe) :: pn)) sts (ts a cls d)
inductive Cls (X : Cx) : List ExceptHandler → List (Value × Option Nat × Suit) → Prop
  | nil : Cls X [] []
  | bare {x : Str} {c : Value} {ts : Suit} {st : Stmt} {sts : List Stmt} {np hp : Pos} {hs : List ExceptHandler} {l : List (Value × Option Nat × Suit)} (hc : Names X x c) (hsu : SuitOk X (st :: sts) ts) (r : Cls X hs l) :
      Cls X (.ExceptHandler (some (.Name x np)) none (st :: sts) hp :: hs) ((c, none, ts) :: l)
  | named {x n : Str} {i : Nat} {c : Value} {ts : Suit} {st : Stmt} {sts : List Stmt} {np hp : Pos} {hs : List ExceptHandler} {l : List (Value × Option Nat × Suit)} (hi : X.N[i]? = some n) (hln : X.env.kindOf n = some .local) (hc : Names X x c) (hsu : SuitOk X (st :: sts) ts) (r : Cls X hs l) :
      Cls X (.ExceptHandler (some (.Name x np)) (some n) (st :: sts) hp :: hs) ((c, some i, ts) :: l)
section
variable {X : Cx} {body : List Stmt} {hd₀ : ExceptHandler} {hs : List ExceptHandler} {l : List (Value × Option Nat × Suit)} {pos : Pos} {tbd : WX → TS} {Wout : WX}
theorem ps_tryC (hstk : X.stack = X.env :: X.outer) (hfrm : X.env.frame = some X.env.locals) (hN : X.N.Nodup) (tk : Takes X Wout)
    (hb : ∀ (W : WX) (pn : List (Addr × Obj)) (xe : Value → Shared → Prop), Takes (X.tr pn xe) W → PassesOwn (model X.prog X.w) X.A X.env xe → PSs (X.tr pn xe) body (tbd W))
    (hh : Cls X (hd₀ :: hs) l) : PS X (.Try body (hd₀ :: hs) [] [] pos) (fun D σ H => tbd (wCl X.K Wout D l) D σ H) := by
  refine ⟨fun pins s σ H D I q0 => ?_⟩
  have ok := I.ok
  have frs0 : X.A.frames = some (X.env :: X.outer) := by rw [ok.frames, hstk]
  refine wpAny_Try_except ?_
  let after : Value → Shared → Prop := fun e s₁ => wpAny (model X.prog X.w) X.A (noteFrame e X.env) (fun _ s₂ => wpAny (model X.prog X.w) X.A (setFlight e none) (fun _ s₃ => wpAny (model X.prog X.w) X.A (handleBy e X.env (hd₀ :: hs)) (SP X pins D) X.xe s₃) X.xe s₂) X.xe s₁
  have tk2 : Takes (X.tr (X.pn ++ pins) after) (wCl X.K Wout D l) := by
    rintro u s' ⟨a, B, sI, pins', σ', H', cls, d, rfl, J0, nb, up, sky, na, os, ag, wish⟩
    have J : Inv X pins σ' H' sI := J0.ofTry ok
    have sky2 : Sky B (X.env :: X.outer) a (Zc cls d) X.env.locals s'.heap := by rw [← hstk]; exact sky
    show wpAny (model X.prog X.w) X.A (noteFrame (.ref a) X.env) _ _ _
    refine Sky.land Zc.steady frs0 hfrm sky2 fun hA flA upA => ?_
    have JA : Inv X pins σ' H' { s' with heap := hA } := J.landed nb flA.1 (up.trans upA) os ag
    obtain ⟨oeA, vsA, heA, hzA, hdA⟩ := flA.there
    have apart : a ∉ frs (X.env :: X.outer) := fun hm => by
      obtain ⟨_, o', e', hnf⟩ := flA.2.2.1.mem hm
      rw [heA] at e'
      cases e'
      exact hnf _ hdA
    have nL : a ≠ X.env.locals := fun z => apart (List.mem_filterMap.mpr ⟨X.env, List.mem_cons_self, by rw [hfrm, z]⟩)
    have nF : a ∉ X.fs := fun hm => by
      obtain ⟨e, he, q⟩ := List.mem_filterMap.mp hm
      exact apart (List.mem_filterMap.mpr ⟨e, List.mem_cons_of_mem _ he, q⟩)
    have SA := JA.suite heA hdA na nL nF
    have LT : PySem.W.Looks (model X.prog X.w) hA (typeOf (.ref a)) cls := fun A Q E s k q => wpAny_typeOf_ref (k _ _ heA) (by rw [hzA.1]; exact q)
    have named : ∀ {x : Str} {c : Value} {np : Pos} {Q : Value → Shared → Prop} {E : Value → Shared → Prop}, Names X x c → Q c { s' with heap := hA } → wpAny (model X.prog X.w) (X.A.mark (some (.ref a))) (eval (.Name x np) X.env) Q E { s' with heap := hA } := fun {x c np Q E} hc q => by
      obtain ⟨hg, hdbg, hm | ⟨hm, hv, hnn⟩⟩ := hc
      · exact ld_glob (X := X.suite a ((a, oeA) :: (X.pn ++ pins))) SA hg hm q hdbg
      · exact ld_blt (X := X.suite a ((a, oeA) :: (X.pn ++ pins))) SA hg hm hv q hnn hdbg
    have run : ∀ {hs' : List ExceptHandler} {l' : List (Value × Option Nat × Suit)}, Cls X hs' l' → wCl X.K Wout D l' cls d σ' H' → wpAny (model X.prog X.w) X.A (handleBy (.ref a) X.env hs') (SP X pins D) X.xe { s' with heap := hA } := by
      intro hs' l' hk
      induction hk with
      | nil =>
        intro wish
        refine wpAny_handleBy_nil ?_
        obtain ⟨_, _, _, oe, vs, T, _, _, he, hz, hd, h1, _⟩ := id flA
        unfold PySem.passOn
        refine wpAny_bind (wpAny_field he hd h1 ?_)
        rw [if_neg (show ¬ ((Value.ref T == Value.none) = true) from by simp)]
        have off : wpAny (model X.prog X.w) X.A (setFlight (.ref a) X.env.frame) (fun _ s4 => wpAny (model X.prog X.w) X.A (throw (.ref a) : Sem Flow) (SP X pins D) X.xe s4) X.xe { s' with heap := hA } := by
          rw [hfrm]
          refine HandSPX.setFlight_upZ flA fun hB held upB => wpAny_throw (tk _ _ ?_)
          exact ⟨a, B, sI, pins, σ', H', cls, d, rfl, J, nb, (up.trans upA).trans upB, .inr (.inr (by rw [hstk]; exact held)), na, os, ag, wish⟩
        first
          | exact wpAny_bind (wpAny_pure (wpAny_bind off))
          | exact wpAny_bind off
      | @bare x c ts st sts np hp more lm hc hsu r ih =>
        rintro ⟨b, m1, yes, no⟩
        refine wpAny_handleBy_cons (codeAny_handlers_test ?_) (by intro q; cases q)
        refine named hc ((PySem.W.exm_one (M := model X.prog X.w) (JA.kIn) LT m1).here ?_)
        cases b with
        | false =>
          show wpAny _ X.A (handleBy (.ref a) X.env more) _ _ _
          exact ih (no rfl)
        | true =>
          refine codeAny_handlers_suite (HandSPX.lands_againZ flA fun hB flB upB => ?_)
          have JB : Inv X pins σ' H' { s' with heap := hB } := J.landed nb flB.1 ((up.trans upA).trans upB) os ag
          obtain ⟨oeB, vsB, heB, hzB, hdB⟩ := flB.there
          have SB := JB.suite heB hdB na nL nF
          refine wpAny_mono ((hsu a oeB cls d (X.pn ++ pins) hzB ⟨_, hdB⟩).run [] _ _ H' _ SB (yes rfl a na)) (fun fl s6 hsp => ?_) (fun _ _ z => False.elim z)
          cases fl with
          | ret u =>
            obtain ⟨v6, σ6, H6, S6, r6, q6⟩ := hsp
            exact ⟨_, _, _, S6.unsuite ok, r6, q6⟩
          | _ =>
            obtain ⟨σ6, H6, S6, q6⟩ := hsp
            exact ⟨_, _, S6.unsuite ok, q6⟩
      | @named x n i c ts st sts np hp more lm hi hln hc hsu r ih =>
        rintro ⟨b, m1, yes, no⟩
        refine wpAny_handleBy_cons (codeAny_handlers_test ?_) (by intro q; cases q)
        refine named hc ((PySem.W.exm_one (M := model X.prog X.w) (JA.kIn) LT m1).here ?_)
        cases b with
        | false =>
          show wpAny _ X.A (handleBy (.ref a) X.env more) _ _ _
          exact ih (no rfl)
        | true =>
          refine codeAny_handlers_suite_as (HandSPX.lands_againZ flA fun hB flB upB => ?_)
          have JB : Inv X pins σ' H' { s' with heap := hB } := J.landed nb flB.1 ((up.trans upA).trans upB) os ag
          obtain ⟨oeB, vsB, heB, hzB, hdB⟩ := flB.there
          have SB := JB.suite heB hdB na nL nF
          refine store_ok (X := X.suite a ((a, oeB) :: (X.pn ++ pins))) (v := .ref a) SB hN hi (.inl hln) rfl (fun s5 S5 => ?_) (.inr hln)
          refine wpAny_mono ((hsu a oeB cls d (X.pn ++ pins) hzB ⟨_, hdB⟩).run [] s5 _ H' _ S5 (yes rfl a na)) (fun fl s6 hsp => ?_) (fun _ _ z => False.elim z)
          have away : ∀ {σ6 : L2.St} {H6 : Hp} {Q : Shared → Prop}, Inv (X.suite a ((a, oeB) :: (X.pn ++ pins))) [] σ6 H6 s6 → (∀ s7, Inv X pins (σ6.set i none) H6 s7 → Q s7) →
              wpAny (model X.prog X.w) X.A (do bindName X.env n .none; unbindBehindTheSuite X.env n hp) (fun _ s7 => Q s7) X.xe s6 := fun S6 hq => gone_ok (S6.unsuite ok) hN hi hln hq
          cases fl with
          | ret u =>
            obtain ⟨v6, σ6, H6, S6, r6, q6⟩ := hsp
            exact away S6 fun s7 J7 => ⟨_, _, _, J7, r6, q6⟩
          | _ =>
            obtain ⟨σ6, H6, S6, q6⟩ := hsp
            exact away S6 fun s7 J7 => ⟨_, _, J7, q6⟩
    exact run hh wish
  refine wpAny_mono ((hb (wCl X.K Wout D l) (X.pn ++ pins) after tk2 PassesOwn.looking).run [] s σ H D (I.toTry _) q0) (fun fl s1 hsp => ?_) (fun e s1 he => he)
  cases fl with
  | next =>
    obtain ⟨σ', H', J', q⟩ := hsp
    exact wpAny_execs_nil ⟨σ', H', J'.ofTry ok, q⟩
  | ret u =>
    obtain ⟨v, σ', H', J', r, q⟩ := hsp
    exact ⟨v, σ', H', J'.ofTry ok, r, q⟩
  | brk =>
    obtain ⟨σ', H', J', q⟩ := hsp
    exact ⟨σ', H', J'.ofTry ok, q⟩
  | cont =>
    obtain ⟨σ', H', J', q⟩ := hsp
    exact ⟨σ', H', J'.ofTry ok, q⟩
end
end EvL
end

section
set_option Elab.async false
set_option linter.all false
set_option maxRecDepth 100000
set_option maxHeartbeats 2000000
/-! E14: try, told by what it does -/
namespace EvL
open PySem PySem.Spec PyProof.Rows L2
/-- what a clause does: return ('k', err.f), err at slot i; or its statements -/
inductive Cl where
  | fld (i : Nat) (k f : Str) | sts (g : SemS)
def pick (sub : Nat → Nat → Bool) : List (Nat × Cl) → Ex → En → Store → Sr
  | [], x, en, m => .ex x en m
  | (c, o) :: more, x, en, m => if sub x.c c = true then (match o with
    | .fld i k f => (match x.pay with
      | some (f', d) => if f' = f ∧ x.c = c ∧ i < en.length then .rt (.d (.tup [.str k, d])) m else .no
      | none => .no)
    | .sts g => (match g en m with | .ex _ _ _ => .no | r => r)) else pick sub more x en m
def gTry (n : Nat) (sub : Nat → Nat → Bool) (body : SemS) (l : List (Nat × Cl)) : SemS := fun en m => match body en m with
  | .ex x en' m' => if x.c < n then pick sub l x en' m' else .no
  | r => r
section
variable {K : PySem.W.Frag} {tb : Tb} {W : WX} {X : Cx} {n : Nat} {sub : Nat → Nat → Bool}
/-- err.f in a suite -/
def tsFld (K : PySem.W.Frag) (C : Addr) (i : Nat) (k f : Str) : Suit := fun a cls d => tRet (tTup (tCons (tC (.str k)) (tCons (tXf a cls d C f (tVar i)) tNil)))
inductive RCl (X : Cx) (tb : Tb) (n : Nat) : List ExceptHandler → List (Nat × Cl) → List (Value × Option Nat × Suit) → Prop
  | nil : RCl X tb n [] [] []
  | fld {x nm f k : Str} {i ci j x1 : Nat} {np hp p1 p2 p3 p4 p5 : Pos} {hs : List ExceptHandler} {l : List (Nat × Cl)} {ts : List (Value × Option Nat × Suit)} (hi : X.N[i]? = some nm) (hln : X.env.kindOf nm = some .local) (hv : (nm == ("__debug__" : Str)) = false) (hv2 : (nm == ("__classdict__" : Str)) = false) (hn : ci < n)
      (hc : Names X x (.ref (tb.clA ci))) (T : XfC X.K (tb.clA ci)) (hno : PySem.W.findIn X.K (.ref (tb.clA ci)) f = some none) (hb : attributeBase (.Name nm p2) f X.env (eval (.Name nm p2) X.env) = eval (.Name nm p2) X.env)
      (he : starEach [.Constant (.str k) j p1, .Attribute (.Name nm p2) f p3] X.env = (false, eval (.Constant (.str k) j p1) X.env) :: starEach [.Attribute (.Name nm p2) f p3] X.env)
      (he2 : starEach [.Attribute (.Name nm p2) f p3] X.env = (false, eval (.Attribute (.Name nm p2) f p3) X.env) :: starEach [] X.env) (r : RCl X tb n hs l ts) :
      RCl X tb n (.ExceptHandler (some (.Name x np)) (some nm) [.Return (some (.Tuple [.Constant (.str k) j p1, .Attribute (.Name nm p2) f p3] x1 p4)) p5] hp :: hs) ((ci, .fld i k f) :: l) ((.ref (tb.clA ci), some i, tsFld X.K (tb.clA ci) i k f) :: ts)
  | sts {x : Str} {ci : Nat} {g : SemS} {np hp : Pos} {st : Stmt} {sts : List Stmt} {hs : List ExceptHandler} {l : List (Nat × Cl)} {ts : List (Value × Option Nat × Suit)} (hn : ci < n) (hc : Names X x (.ref (tb.clA ci)))
      (hsu : ∀ (a : Addr) (pn : List (Addr × Obj)), RSs (X.suite a pn) tb WN (st :: sts) g) (r : RCl X tb n hs l ts) :
      RCl X tb n (.ExceptHandler (some (.Name x np)) none (st :: sts) hp :: hs) ((ci, .sts g) :: l) ((.ref (tb.clA ci), none, fun _ _ _ => tS X.K tb WN g) :: ts)
theorem RCl.cls {hs : List ExceptHandler} {l : List (Nat × Cl)} {ts : List (Value × Option Nat × Suit)} (h : RCl X tb n hs l ts) : Cls X hs ts := by
  induction h with
  | nil => exact .nil
  | @fld x nm f k i ci j x1 np hp p1 p2 p3 p4 p5 hs l ts hi hln hv hv2 hn hc T hno hb he he2 r ih =>
    refine .named hi hln hc (fun a oe cls d pn hz hf => pss_one (ps_ret (pe_tup (pa_cons pe_str (pa_cons (pe_xf T hno hz hf (pe_var (X := X.suite a ((a, oe) :: pn)) hi (.inl hln) hv hv2) hb) pa_nil he2) he)))) ih
  | @sts x ci g np hp st sts hs l ts hn hc hsu r ih => exact .bare hc (fun a oe cls d pn _ _ => hsu a _) ih
variable {D : Ends}
theorem pick_run {hs : List ExceptHandler} {l : List (Nat × Cl)} {ts : List (Value × Option Nat × Suit)} (hsub : ∀ i j, i < n → j < n → PySem.W.exmOne X.K (.ref (tb.clA i)) (.ref (tb.clA j)) = some (sub i j)) (h : RCl X tb n hs l ts) :
    ∀ {F : Hp} {ρ : List Addr} {x : Ex} {en : En} {m : Store} {σ : L2.St} {H : Hp} {c : Value} {d : Option Addr}, x.c < n → EnvOk X.K tb F ρ en σ → Wo X.K tb F ρ m H → XRep X.K tb F x c d → tSt X.K tb W F ρ D (pick sub l x en m) → wCl X.K W D ts c d σ H := by
  induction h with
  | nil => exact fun hx he ho xr q => q _ _ _ _ _ _ (.refl _ _) he ho xr
  | @fld x nm f k i ci j x1 np hp p1 p2 p3 p4 p5 hs l ts hi hln hv hv2 hn hc T hno hb he1 he2 r ih =>
    intro F ρ x en m σ H c d hx he ho xr q
    refine ⟨sub x.c ci, by rw [xr.1]; exact hsub _ _ hx hn, fun hs a ha => ?_, fun hs => ?_⟩
    · unfold pick at q
      rw [if_pos hs] at q
      dsimp only at q
      obtain ⟨xc, pay⟩ := x
      cases pay with
      | none => exact q.elim
      | some p =>
        obtain ⟨f', y⟩ := p
        dsimp only at q
        split at q
        · rename_i hf
          obtain ⟨hf, hci, hil⟩ := hf
          subst hf
          subst hci
          obtain ⟨xr1, dd, v, rfl, hdd, rv⟩ := xr
          refine ⟨.ref a, List.getElem?_set_self (by rw [← he.len]; exact hil), rfl, ?_, dd, [(f', v)], v, rfl, ho.sub _ _ hdd, by simp, (by show 2 ≤ sizeLine; rw [sizeLine_eq]; decide), fun p hp => ?_⟩
          · exact xr1
          · obtain ⟨o3, e3⟩ := ho.alloc hp (.tup [.str k, v])
            exact q _ _ _ _ e3 o3 (.d (.tup (.inl (.inl upd_same)) (.cons (.str k) (.cons (rv.mono e3.le) .nil))))
        · exact q.elim
    · unfold pick at q
      rw [if_neg (by rw [hs]; exact Bool.false_ne_true)] at q
      exact ih hx he ho xr q
  | @sts x ci g np hp st sts hs l ts hn hc hsu r ih =>
    intro F ρ x en m σ H c d hx he ho xr q
    refine ⟨sub x.c ci, by rw [xr.1]; exact hsub _ _ hx hn, fun hs a ha => ?_, fun hs => ?_⟩
    · unfold pick at q
      rw [if_pos hs] at q
      dsimp only at q
      refine ⟨F, ρ, en, m, he, ho, ?_⟩
      cases e : g en m with
      | ex _ _ _ => rw [e] at q; exact q.elim
      | _ => rw [e] at q; exact q
    · unfold pick at q
      rw [if_neg (by rw [hs]; exact Bool.false_ne_true)] at q
      exact ih hx he ho xr q
theorem rs_try {body : List Stmt} {hd₀ : ExceptHandler} {hs : List ExceptHandler} {l : List (Nat × Cl)} {ts : List (Value × Option Nat × Suit)} {g : SemS} {pos : Pos} (hsub : ∀ i j, i < n → j < n → PySem.W.exmOne X.K (.ref (tb.clA i)) (.ref (tb.clA j)) = some (sub i j))
    (hstk : X.stack = X.env :: X.outer) (hfrm : X.env.frame = some X.env.locals) (hN : X.N.Nodup) (tk : Takes X W)
    (hb : ∀ (W' : WX) (pn : List (Addr × Obj)) (xe : Value → Shared → Prop), Takes (X.tr pn xe) W' → PassesOwn (model X.prog X.w) X.A X.env xe → RSs (X.tr pn xe) tb W' body g)
    (hh : RCl X tb n (hd₀ :: hs) l ts) : RS X tb W (.Try body (hd₀ :: hs) [] [] pos) (gTry n sub g l) := by
  refine ⟨fun pins s σ H D I q => ?_⟩
  have ln := I.len
  refine (ps_tryC (tbd := fun W' => tS X.K tb W' g) hstk hfrm hN tk hb hh.cls).run pins s σ H D I ?_
  obtain ⟨F, ρ, en, m, he, ho, q⟩ := q
  refine ⟨F, ρ, en, m, he, ho, ?_⟩
  unfold gTry at q
  cases e : g en m with
  | ex x en' m' =>
    rw [e] at q
    dsimp only at q
    split at q
    · rename_i hx
      intro F' ρ' σ' H' c d ex he' ho' xr
      exact pick_run hsub hh hx he' ho' xr (tSt.ext ex q)
    · exact q.elim
  | nx _ _ => rw [e] at q; exact q
  | rt _ _ => rw [e] at q; exact q
  | bk _ _ => rw [e] at q; exact q
  | ct _ _ => rw [e] at q; exact q
  | no => rw [e] at q; exact q.elim
end
end EvL
end

section
set_option Elab.async false
set_option linter.all false
set_option maxRecDepth 100000
set_option maxHeartbeats 4000000
/-! E15: enumerate(tuple) -/
namespace PySem
namespace EvX
open Sem (wp)
open AutoSeq1 (wpAny_loadPart')
theorem enumT_new (l : Addr) (items : Array Value) (n : Nat) (dct : Option Addr) (sl : Array (Option Value)) :
    Meets (Builtin.«enumerate.__new__» ⟨[.type "enumerate", .ref l], []⟩) (fun _ R s => s.heap.get? l = some { cls := .type "tuple", dict := dct, data := .seq items n, slots := sl } ∧
      R (.ok (.ret (.ref (s.heap.push { cls := .type "tuple_iterator", data := .fields #[.ref l, .int 0 0] }).objs.size)))
        { s with heap := (s.heap.push { cls := .type "tuple_iterator", data := .fields #[.ref l, .int 0 0] }).push { cls := .type "enumerate", data := .fields #[.none, .bool false, .ref s.heap.objs.size, rawInt 0, .none, .none] } }) :=
  .of_wp fun prog w A R s h => by
    obtain ⟨hp, g, d, tk, os⟩ := s; obtain ⟨hl, h⟩ := h
    have hsub := sub_enumerate
    have hT : Heap.IsTuple (Shared.heap ⟨hp, g, d, tk, os⟩) l items := ⟨_, hl, rfl, n, rfl⟩
    wp_walk using wpAny_loadPart' hl
    refine wpAny_stack_any fun st => wpAny_pure ?_
    split
    · rename_i c _ _ _ _ _
      cases (c == Value.type "enumerate")
      · wp_walk using wpAny_loadPart' hl, wpAny_pyIter_tuple hT
        exact ⟨_, rfl, h⟩
      · wp_walk using wpAny_loadPart' hl, wpAny_pyIter_tuple hT
        exact ⟨_, rfl, h⟩
    · wp_walk using wpAny_loadPart' hl, wpAny_pyIter_tuple hT
      exact ⟨_, rfl, h⟩
section
variable {prog : Program} {w : World} {A : Around} {E : Value → Shared → Prop} {s : Shared}
theorem call_enumT {l : Addr} {items : Array Value} {Q : Value → Shared → Prop} (hL : s.heap.IsTuple l items)
    (h : ∀ h', IsEnum h' (s.heap.objs.size + 1) s.heap.objs.size 0 .none → h'.IsTupleIter s.heap.objs.size l 0 → h'.objs.size = s.heap.objs.size + 2 →
      (∀ b o, s.heap.get? b = some o → h'.get? b = some o) → Q (.ref (s.heap.objs.size + 1)) { s with heap := h' }) :
    wpAny (model prog w) A (call (.type "enumerate") [.ref l]) Q E s := by
  obtain ⟨⟨c, dct, dt, sl⟩, hl, hc, n, hd⟩ := hL
  obtain rfl : c = .type "tuple" := hc
  obtain rfl : dt = .seq items n := hd
  refine callType_new F.called_enumerate (by decide) (F.typeCall_enumerate_1 _) (F.newCall_enumerate_1 _) (fun obj => F.args_object_init_2 obj _) F.entry_enumerate_new (enumT_new l items n dct sl) ⟨hl, ?_⟩
  have hz : (s.heap.push { cls := .type "tuple_iterator", data := .fields #[.ref l, .int 0 0] }).objs.size = s.heap.objs.size + 1 := Heap.size_push ..
  show _ ∧ _
  rw [hz]
  have he : IsEnum ((s.heap.push { cls := .type "tuple_iterator", data := .fields #[.ref l, .int 0 0] }).push
      { cls := .type "enumerate", data := .fields #[.none, .bool false, .ref s.heap.objs.size, rawInt 0, .none, .none] }) (s.heap.objs.size + 1) s.heap.objs.size 0 .none := by
    have := Heap.get?_push_size (s.heap.push { cls := .type "tuple_iterator", data := .fields #[.ref l, .int 0 0] })
      (o := { cls := .type "enumerate", data := .fields #[.none, .bool false, .ref s.heap.objs.size, rawInt 0, .none, .none] }) rfl
    rw [hz] at this
    exact this
  refine ⟨⟨_, he, rfl⟩, h _ he ⟨_, Heap.get?_push_of_some _ (Heap.get?_push_size _ rfl), rfl, rfl⟩ ?_ fun b o x => Heap.get?_push_of_some _ (Heap.get?_push_of_some _ x)⟩
  rw [Heap.size_push, hz]
theorem draws_tuple (hh : A.handled = none) (it l : Addr) (hne : l ≠ it) (items : Array Value) :
    Draws prog w A it [it, l] items.size (fun i v => items[i]? = some v) (fun i h => h.IsTupleIter it l i ∧ h.IsTuple l items) where
  live := fun _ _ st => let ⟨o, ho, _⟩ := st.1; ⟨o, ho⟩
  frame := fun _ _ _ st hk => ⟨st.1.at fun o e => hk it (by simp) o e, by obtain ⟨o, h1, h2⟩ := st.2; exact ⟨o, hk l (by simp) o h1, h2⟩⟩
  item := fun i s Q E hi st hQ => by
    refine RZ.nextOf_tuple_item st.1 st.2 (x := items[i]) (by simp [hi]) fun h' hit' hs' => ?_
    exact hQ _ h' s.toks (by simp [hi]) ⟨hit', by obtain ⟨o, h1, h2⟩ := st.2; exact ⟨o, (hs'.2 l hne).trans h1, h2⟩⟩ hs'
  done := fun s Q E st hE => RZ.nextOf_tuple_end hh st.1 st.2 (by simp) hE
end
end EvX
end PySem
namespace EvL
open PySem PySem.Spec PyProof.Rows L2
/-- the tuple at a, each item in a new pair -/
def IteT (K : PySem.W.Frag) (a : Addr) : It :=
  ⟨fun i H => ∃ (xs : List V) (x : V), SqT K H a xs ∧ xs[i]? = some x, fun i H v H' => ∃ T x, v = .ref T ∧ H T = none ∧ H' = upd H T (.tup [.int (i : Nat), x]) ∧ ∀ xs, SqT K H a xs → xs[i]? = some x, fun i H => ∃ xs : List V, SqT K H a xs ∧ xs.length = i⟩
theorem turn_enumT {P : Program} {w : World} {K : PySem.W.Frag} {elts : List Expr} {kk : Nat} {tpos : Pos} (a e it : Addr) :
    Turn P w K (.Tuple elts kk tpos) (IteT K a) [e, it] e (fun i h => (∃ old, IsEnum h e it ((i : Nat) : Int) old) ∧ h.IsTupleIter it a i ∧ e ≠ it) where
  mem := by simp
  obj := fun i h st b hb => by
    obtain ⟨⟨old, he⟩, ⟨o, ho, hc, hd⟩, _⟩ := st
    rcases (by simpa using hb : b = e ∨ b = it) with z | z
    · rw [z]; exact ⟨_, he, fun v q => nomatch q⟩
    · rw [z]; exact ⟨o, ho, fun v q => by rw [hd] at q; cases q⟩
  keep := fun i h h' st k => let ⟨⟨old, he⟩, hi, hne⟩ := st; ⟨⟨old, k e (by simp) _ he⟩, hi.at fun o q => k it (by simp) o q, hne⟩
  item := by
    intro X hP hw hK hc i pins s σ H E I hf st hg
    subst hP hw hK
    obtain ⟨⟨old, he⟩, hit, hne⟩ := st
    obtain ⟨xs, x, hq, hx⟩ := hg
    obtain ⟨its, rv, p, hz⟩ := I.tuple hq
    obtain ⟨u, hu, ru⟩ := rv.get hx
    have hel : e < s.heap.objs.size := Heap.lt_size he
    have hil : it < s.heap.objs.size := by obtain ⟨_, q, _⟩ := hit; exact Heap.lt_size q
    have pT : s.heap.IsTuple a its.toArray := p
    have ea : e ≠ a := fun z => by
      obtain ⟨o, h1, h2, _⟩ := pT
      rw [← z, he] at h1
      cases h1
      exact absurd (Value.type.inj h2) (by decide)
    have ai : a ≠ it := fun z => by
      obtain ⟨o, h1, h2, _⟩ := pT
      obtain ⟨o', h3, h4, _⟩ := hit
      rw [z, h3] at h1
      cases h1
      rw [h4] at h2
      exact absurd (Value.type.inj h2) (by decide)
    have hlt : i < its.toArray.size := by
      have := (List.getElem?_eq_some_iff.mp hu).1
      simpa using this
    refine wpAny_pyNext_enum_itemD (PySem.EvX.draws_tuple (A := X.A.in1) (by exact I.ok.hd hc) it a ai its.toArray) he ⟨hit, pT⟩ hlt hne (by simp [hne, ea]) fun y h' tk hy ho hst hT hsz hk => ?_
    obtain rfl : y = u := by
      have h2 : its.toArray[i]? = some u := by simpa using hu
      rw [hy] at h2
      exact Option.some.inj h2
    obtain ⟨hit', hpt'⟩ := hst
    refine ⟨_, rfl, wpAny_letOwnedTupleGo_enum (s := { s with heap := h', toks := tk + 1 }) ho fun h'' he' sb => ?_⟩
    have hT2 : h''.get? s.heap.objs.size = some { cls := .type "tuple", data := .seq #[.int i tk, y] } := (sb.2 _ (Nat.ne_of_gt hel)).trans hT
    have new : ObjOk X.prog X.w (upd H s.heap.objs.size (.tup [.int (i : Nat), x])) h'' s.heap.objs.size (.tup [.int (i : Nat), x]) :=
      ⟨by show 2 ≤ sizeLine; decide, [.int i tk, y], .cons ⟨_, rfl⟩ (.cons ru .nil), ⟨_, hT2, rfl, _, rfl⟩⟩
    have I1 : Inv X pins σ (upd H s.heap.objs.size (.tup [.int (i : Nat), x])) { s with heap := h'', toks := tk + 1 } :=
      I.turnedNew (ch := [e, it]) (fun b ob hb q => (sb.2 b (fun z => hb (by simp [z]))).trans (hk b ob (fun z => hb (by simp [z])) (fun z => hb (by simp [z])) q)) hf (Nat.le_refl _) new
    refine ⟨.ref s.heap.objs.size, _, I1, rfl, ⟨_, x, rfl, I.hok.fresh (Nat.le_refl _), rfl, fun ys hy2 => ?_⟩, ⟨⟨y, ?_⟩, hit'.at fun o q => (sb.2 it (Ne.symm hne)).trans q, hne⟩, fun b hb => ?_⟩
    · rw [I.tuple_inj hy2 hq]; exact hx
    · have e1 : ((i + 1 : Nat) : Int) = (i : Int) + 1 := by omega
      rw [e1]; exact he'
    · have hb' : b < s.heap.objs.size := by
        rcases (by simpa using hb : b = e ∨ b = it) with z | z
        · rw [z]; exact hel
        · rw [z]; exact hil
      rw [upd_ne (Nat.ne_of_lt hb')]
      exact (hf b hb).1
  done := by
    intro X hP hw hK hc i pins s σ H E I hf st hg
    subst hP hw hK
    obtain ⟨⟨old, he⟩, hit, hne⟩ := st
    obtain ⟨xs, hq, hx⟩ := hg
    obtain ⟨its, rv, p, hz⟩ := I.tuple hq
    obtain ⟨f0, f1, f2, f3, f4, f5⟩ := hf it (by simp)
    have pT : s.heap.IsTuple a its.toArray := p
    have ai : a ≠ it := fun z => by
      obtain ⟨o, h1, h2, _⟩ := pT
      obtain ⟨o', h3, h4, _⟩ := hit
      rw [z, h3] at h1
      cases h1
      rw [h4] at h2
      exact absurd (Value.type.inj h2) (by decide)
    have hn : its.toArray.size = i := by
      rw [← hx, rv.length]
      simp
    subst hn
    exact wpAny_pyNext_enum_endD (PySem.EvX.draws_tuple (A := X.A.in1) (by exact I.ok.hd hc) it a ai its.toArray) he ⟨hit, pT⟩ fun h' eb => ⟨rfl, I.turned (t' := s.toks) (fun b o hb q => eb b o hb q) f0 f1 f3 f4 f5⟩
  self := fun A i s Q E st h => let ⟨⟨_, he⟩, _⟩ := st; wpAny_pyIter_enum he h
def iEnumA (K : PySem.W.Frag) (ta : TA) : TI := fun σ H R => ta σ H fun vs H1 => ∃ a, vs = [.ref a] ∧ ((∃ xs, SqL K H1 a xs ∧ R (Ite K a) H1) ∨ (∃ xs, SqT K H1 a xs ∧ R (IteT K a) H1))
theorem pi_enumA {X : Cx} {e : Expr} {ta : TA} {p pos tpos : Pos} {elts : List Expr} {kk : Nat} (hg : Gl X "enumerate") (hm : X.mg "enumerate" = none) (ha : PA X [e] ta) (hs : starEach [e] X.env = [(false, eval e X.env)] := by rfl) :
    PI X (.Tuple elts kk tpos) (.Call (.Name "enumerate" p) [e] [] pos) (iEnumA X.K ta) := by
  refine ⟨fun pins s σ H R I h => ?_⟩
  refine Call_ (ld_blt I hg hm boot_enumerate (PyProof.Rows.callWith_type1 (thn (ha.run pos pins s σ H _ I h) fun us s1 ⟨vs, H1, I1, r1, q1⟩ => ?_) hs rfl))
  obtain ⟨a, ex, hq⟩ := q1
  subst ex
  cases r1 with
  | cons r rr =>
    cases rr
    cases r
    have two : ∀ b ∈ [s1.heap.objs.size + 1, s1.heap.objs.size], FpOk X pins H1 b := fun b hb => by
      have hle : s1.heap.objs.size ≤ b := by
        rcases (by simpa using hb : b = s1.heap.objs.size + 1 ∨ b = s1.heap.objs.size) with z | z
        · rw [z]; exact Nat.le_add_right _ _
        · rw [z]; exact Nat.le_refl _
      exact I1.fpOk hle (I1.hok.fresh hle)
    rcases hq with ⟨xs, hq, q⟩ | ⟨xs, hq, q⟩
    · obtain ⟨its, rv, pl, hz⟩ := I1.list hq
      refine call_enumerate_list pl.isList fun h' he hit hsz hk => wpAny_pyIter_enum he ?_
      exact ⟨s1.heap.objs.size + 1, [s1.heap.objs.size + 1, s1.heap.objs.size], _, _, H1, rfl, I1.kept (t' := s1.toks) hk, turn_enum a (s1.heap.objs.size + 1) s1.heap.objs.size, ⟨⟨.none, he⟩, hit, Nat.succ_ne_self _⟩, two, q⟩
    · obtain ⟨its, rv, pl, hz⟩ := I1.tuple hq
      refine PySem.EvX.call_enumT (show s1.heap.IsTuple a its.toArray from pl) fun h' he hit hsz hk => wpAny_pyIter_enum he ?_
      exact ⟨s1.heap.objs.size + 1, [s1.heap.objs.size + 1, s1.heap.objs.size], _, _, H1, rfl, I1.kept (t' := s1.toks) hk, turn_enumT a (s1.heap.objs.size + 1) s1.heap.objs.size, ⟨⟨.none, he⟩, hit, Nat.succ_ne_self _⟩, two, q⟩
theorem walk_enumT {K : PySem.W.Frag} {a : Addr} {xs : List V} : Walk (IteT K a) xs.length (fun H => SqT K H a xs) (YPair (fun i => some (.int (i : Nat))) (fun i => xs[i]?)) := by
  refine ⟨fun i _ hi q => ⟨xs, xs[i], q, by simp [hi]⟩, fun _ q => ⟨xs, q, rfl⟩, fun i H v H' _ q y => ?_⟩
  obtain ⟨T, x, h1, h2, h3, h4⟩ := y
  exact ⟨T, .int (i : Nat), x, h1, h2, h3, rfl, h4 xs q⟩
section
variable {K : PySem.W.Frag} {tb : Tb} {W : WX} {X : Cx} {a : Expr} {fa : Sem1} {pos p : Pos}
def numb (xs : List Dv) : List Dv := xs.mapIdx fun i x => Dv.tup [.int (i : Nat), x]
theorem walkE_numb {F : Hp} {J : It} {xs : List Dv} {vs : List V} {G : Hp → Prop} (w : Walk J vs.length G (YPair (fun i => some (.int (i : Nat))) (fun i => vs[i]?))) (g : ∀ H, Le F H → G H) (r : RepL K tb F xs vs) : WalkE K tb F J (numb xs) := by
  have ln : (numb xs).length = vs.length := by unfold numb; rw [List.length_mapIdx, r.length]
  refine ⟨G, _, by rw [ln]; exact w, g, fun i H y H' F1 ρ1 m1 hi l o q => ?_⟩
  obtain ⟨T, u, z, rfl, hT, rfl, hu, hz⟩ := q
  cases hu
  obtain ⟨d, h1, s1⟩ := r.getV hz
  obtain ⟨o3, e3⟩ := o.alloc hT (.tup [.int (i : Nat), z])
  refine ⟨_, .tup [.int (i : Nat), d], e3, o3, ?_, .tup (.inl (.inl upd_same)) (.cons (.int _) (.cons ((s1.mono l).mono e3.le) .nil))⟩
  unfold numb
  rw [List.getElem?_mapIdx, h1]
  rfl
def iEnumS (f : Sem1) : SemF := fun en m => (f en m).bind fun x m1 => match frz m1 x with
  | some (d, m2) => (match items d with | some xs => .ok (numb xs) m2 | none => .no)
  | none => .no
theorem ri_enum {elts : List Expr} {kk : Nat} {tpos : Pos} (hg : Gl X "enumerate") (hm : X.mg "enumerate" = none) (ha : RE X tb W a fa) (hs : starEach [a] X.env = [(false, eval a X.env)] := by rfl) (hs2 : starEach [a] X.env = (false, eval a X.env) :: starEach [] X.env := by rfl) :
    RI X tb W (.Tuple elts kk tpos) (.Call (.Name "enumerate" p) [a] [] pos) (iEnumS fa) := by
  refine PI.weak (pi_enumA hg hm (pa_cons ha pa_nil hs2) hs) fun σ H R q => ?_
  obtain ⟨F, ρ, en, m, he, ho, q⟩ := q
  refine tE_bindI he ho q fun y m1 F1 ρ1 H1 v e1 he1 ho1 r1 q1 => ?_
  split at q1
  · rename_i d m2 hd
    obtain ⟨F2, e2, o2, r2⟩ := frz_ok ho1 r1 hd
    split at q1
    · rename_i xs hx
      cases r2 <;> simp only [items, Option.some.injEq, reduceCtorEq] at hx
      · subst hx
        rename_i p ys vs h r
        exact ⟨p, rfl, .inr ⟨vs, o2.sub.sqt h, q1 F2 ρ1 H1 _ e2 o2 (walkE_numb walk_enumT (fun H l => l.sqt h) r)⟩⟩
      · subst hx
        rename_i p ys vs h r
        exact ⟨p, rfl, .inl ⟨vs, .inl (.inl (o2.sub _ _ h)), q1 F2 ρ1 H1 _ e2 o2 (walkE_numb walk_enum (fun H l => .inl (.inl (l _ _ h))) r)⟩⟩
      · subst hx
        rename_i p ns h
        exact ⟨p, rfl, .inl ⟨_, o2.sub.sql h, q1 F2 ρ1 H1 _ e2 o2 (walkE_numb walk_enum (fun H l => l.sql h) (RepL.ints ns))⟩⟩
    · exact q1.elim
  · exact q1.elim
end
end EvL
end

section
set_option Elab.async false
set_option linter.all false
set_option maxRecDepth 100000
set_option maxHeartbeats 2000000
/-! E16: comprehensions of two clauses -/
namespace EvL
open PySem PySem.Spec PyProof.Rows L2
/-- a walk's turns, whatever a turn asks -/
theorem walk_gen {J : It} {n : Nat} {G : Hp → Prop} {Y : Nat → Hp → V → Hp → Prop} (w : Walk J n G Y) {Step : V → Hp → (Hp → Prop) → Prop} {Nx : Hp → Prop} {H0 : Hp} (P : Nat → Hp → Prop) (h0 : P 0 H0) (hG : ∀ i H, i ≤ n → P i H → G H)
    (hs : ∀ i x H H', i < n → P i H → Y i H x H' → Step x H' (P (i + 1))) (hd : ∀ H, P n H → Nx H) :
    ∃ W1 : Nat → Nat → Hp → Prop, (∃ m, W1 0 m H0) ∧ ∀ j k H, W1 j k H → (J.stop j H ∧ Nx H) ∨ (J.go j H ∧ ∃ Nx1 : Hp → Prop, (∀ H', Nx1 H' → ∃ k', k' < k ∧ W1 (j + 1) k' H') ∧ ∀ x H', J.yld j H x H' → Step x H' Nx1) := by
  refine ⟨fun i m H => m = n - i ∧ i ≤ n ∧ P i H, ⟨n, by simp, Nat.zero_le _, h0⟩, ?_⟩
  rintro i m H ⟨rfl, hi, p⟩
  have q := hG i H hi p
  by_cases hlt : i < n
  · exact .inr ⟨w.goes i H hlt q, P (i + 1), fun H' p' => ⟨n - (i + 1), by omega, rfl, hlt, p'⟩, fun x H' y => hs i x H H' hlt p (w.yields i H x H' hlt q y)⟩
  · have e : i = n := by omega
    subst e
    exact .inl ⟨w.stops H q, hd H p⟩
/-- the turns of the second clause -/
def lcIn (n : Nat) (G : Tgt) (t : SemB) (f : Sem1) (en : En) : List Dv → Store → Rs Unit
  | [], m => .ok () m
  | d :: ds, m => match G (.d d) en m with
    | none => .no
    | some en' => match t en' m with
      | .ok true m1 => (match f en' m1 with
        | .ok y m2 => (match frz m2 y with
          | some (z, m3) => (match m3[n]? with
            | some (.lst acc) => if fits (acc.length + 1) then lcIn n G t f en ds (m3.set n (.lst (acc ++ [z]))) else .no
            | _ => .no)
          | none => .no)
        | _ => .no)
      | .ok false m1 => lcIn n G t f en ds m1
      | _ => .no
def lcOut (n : Nat) (G : Tgt) (t : SemB) (fi : SemF) (G1 : Tgt) (t1 : SemB) (f : Sem1) (vs1 : List Nat) (en : En) : List Dv → Store → Rs (List Dv)
  | [], m => if m.length = n + 1 then (match m[n]? with | some (.lst acc) => .ok acc (m.take n) | _ => .no) else .no
  | d :: ds, m => match G (.d d) en m with
    | none => .no
    | some en' => match t en' m with
      | .ok true m1 => (match fi en' m1 with
        | .ok ys m2 => (match lcIn n G1 t1 f (wipeE en' vs1) ys m2 with
          | .ok _ m3 => lcOut n G t fi G1 t1 f vs1 en ds m3
          | _ => .no)
        | _ => .no)
      | .ok false m1 => lcOut n G t fi G1 t1 f vs1 en ds m1
      | _ => .no
def fComp2 (fi : SemF) (G : Tgt) (t : SemB) (fi1 : SemF) (G1 : Tgt) (t1 : SemB) (f : Sem1) (vs vs1 : List Nat) : SemF := fun en m => (fi en m).bind fun xs m1 => lcOut m1.length G t fi1 G1 t1 f vs1 (wipeE en vs) xs (m1 ++ [.lst []])
section
variable {K : PySem.W.Frag} {tb : Tb} {W : WX} {X : Cx} {elt tg iter tg1 iter1 : Expr} {ifs ifs1 : List Expr} {f : Sem1} {fi fi1 : SemF} {ga ga1 : SemB} {pos : Pos} {own : List (Str × Nat)} {scope : Scope} {G G1 : Tgt} {sl sl1 vs1 : List Nat}
theorem comp2_run {own : List Nat} {σ : L2.St} {H : Hp} {Q : VK} (hsl : ∀ i ∈ sl, i ∈ own) (hsl1 : ∀ i ∈ sl1, i ∈ vs1) (q : tF K tb W (fComp2 fi G ga fi1 G1 ga1 f own vs1) σ H Q) :
    tLc2 (tI K tb W fi) (tG K tb G sl) (tB K tb WN ga) (tI K tb WN fi1) (tG K tb G1 sl1) (tB K tb WN ga1) (tE K tb WN f) own vs1 σ H Q := by
  obtain ⟨F, ρ, en, m, he, ho, q⟩ := q
  refine tI_bind he ho q fun xs m1 F1 ρ1 H1 J e1 he1 ho1 w q1 => ?_
  intro D hD
  obtain ⟨Gp, Y, wk, hG, hY⟩ := w
  obtain ⟨o0, x0⟩ := ho1.push (xs := []) (vs := []) hD .nil
  have hl : ρ1.length = m1.length := ho1.len
  refine walk_gen wk (Step := fun x H' Nx => tG K tb G sl x (wipe σ own) H' fun σ2 H2 => wipe σ2 own = wipe σ own ∧ tB K tb WN ga σ2 H2 fun b H3 =>
    if b = true then tI K tb WN fi1 σ2 H3 fun J1 H4 => ∃ W1 : Nat → Nat → Hp → Prop, (∃ m, W1 0 m H4) ∧ ∀ j k H, W1 j k H →
      (J1.stop j H ∧ Nx H) ∨ (J1.go j H ∧ ∃ Nx1 : Hp → Prop, (∀ H', Nx1 H' → ∃ k', k' < k ∧ W1 (j + 1) k' H') ∧ ∀ x H', J1.yld j H x H' → tG K tb G1 sl1 x (wipe σ2 vs1) H' fun σ3 H5 => wipe σ3 vs1 = wipe σ2 vs1 ∧ tB K tb WN ga1 σ3 H5 fun b H6 =>
        if b = true then tE K tb WN f σ3 H6 fun y H7 => ∃ acc, H7 D = some (.lst acc) ∧ acc.length < sizeLine ∧ Nx1 (upd H7 D (.lst (acc ++ [y]))) else Nx1 H6)
    else Nx H3)
    (fun i H1 => ∃ F2 ρ2 m2, Ext F1 (ρ1 ++ [D]) F2 ρ2 ∧ Wo K tb F2 ρ2 m2 H1 ∧ PostF K tb W F2 ρ1 σ Q (lcOut m1.length G ga fi1 G1 ga1 f vs1 (wipeE en own) (xs.drop i) m2)) ⟨F1, _, _, .refl _ _, o0, q1⟩ (fun i H2 _ ⟨F2, ρ2, m2, e2, o2, _⟩ => hG H2 (e2.le.trans o2.sub)) ?_ ?_
  · rintro i y H2 H3 hi ⟨F2, ρ2, m2, e2, o2, q2⟩ hy
    obtain ⟨F3, d, e3, o3, hd, rd⟩ := hY i H2 y H3 F2 ρ2 m2 hi e2.le o2 hy
    rw [List.drop_eq_getElem_cons hi] at q2
    have hd' : xs[i] = d := by
      rw [List.getElem?_eq_getElem hi] at hd
      exact Option.some.inj hd
    rw [hd'] at q2
    have q2 := PostF.ext (⟨e3.le, List.prefix_refl _⟩ : Ext F2 ρ1 F3 ρ1) q2
    have he3 : EnvOk K tb F3 ρ2 (wipeE en own) (wipe σ own) := (((he1.mono x0).mono e2).mono e3).wipes _
    refine ⟨F3, ρ2, _, m2, .d d, he3, o3, .d rd, ?_⟩
    unfold lcOut at q2
    cases eg : G (.d d) (wipeE en own) m2 with
    | none => rw [eg] at q2; exact q2.elim
    | some en' =>
      rw [eg] at q2
      dsimp only at q2
      refine fun σ' he' bu => ⟨But.wiped bu hsl, F3, ρ2, en', m2, he', o3, ?_⟩
      cases et : ga en' m2 with
      | no => rw [et] at q2; exact q2.elim
      | ex _ _ => rw [et] at q2; exact q2.elim
      | ok kk m3 =>
        rw [et] at q2
        intro F4 ρ4 H4 x4 o4
        cases kk with
        | false =>
          rw [if_neg Bool.false_ne_true]
          exact ⟨F4, ρ4, m3, (e2.trans e3).trans x4, o4, PostF.ext ⟨x4.le, List.prefix_refl _⟩ q2⟩
        | true =>
          rw [if_pos rfl]
          dsimp only at q2
          refine ⟨F4, ρ4, en', m3, he'.mono x4, o4, ?_⟩
          cases ei : fi1 en' m3 with
          | no => rw [ei] at q2; exact q2.elim
          | ex _ _ => rw [ei] at q2; exact q2.elim
          | ok ys m4 =>
            rw [ei] at q2
            dsimp only at q2
            intro F5 ρ5 H5 J1 x5 o5 w1
            obtain ⟨Gp1, Y1, wk1, hG1, hY1⟩ := w1
            have he5 : EnvOk K tb F5 ρ5 (wipeE en' vs1) (wipe σ' vs1) := ((he'.mono x4).mono x5).wipes _
            cases el : lcIn m1.length G1 ga1 f (wipeE en' vs1) ys m4 with
            | no => rw [el] at q2; exact q2.elim
            | ex _ _ => rw [el] at q2; exact q2.elim
            | ok u m9 =>
              rw [el] at q2
              have X5 : Ext F1 (ρ1 ++ [D]) F5 ρ5 := ((e2.trans e3).trans x4).trans x5
              refine walk_gen wk1 (Step := fun x H' Nx1 => tG K tb G1 sl1 x (wipe σ' vs1) H' fun σ3 H5 => wipe σ3 vs1 = wipe σ' vs1 ∧ tB K tb WN ga1 σ3 H5 fun b H6 =>
                  if b = true then tE K tb WN f σ3 H6 fun y H7 => ∃ acc, H7 D = some (.lst acc) ∧ acc.length < sizeLine ∧ Nx1 (upd H7 D (.lst (acc ++ [y]))) else Nx1 H6)
                (fun j H1 => ∃ F6 ρ6 m6, Ext F5 ρ5 F6 ρ6 ∧ Wo K tb F6 ρ6 m6 H1 ∧ lcIn m1.length G1 ga1 f (wipeE en' vs1) (ys.drop j) m6 = .ok u m9) ⟨F5, ρ5, m4, .refl _ _, o5, el⟩ (fun j H2 _ ⟨F6, ρ6, m6, e6, o6, _⟩ => hG1 H2 (e6.le.trans o6.sub)) ?_ ?_
              · rintro j y' H6 H7 hj ⟨F6, ρ6, m6, e6, o6, q6⟩ hy'
                obtain ⟨F7, d7, e7, o7, hd7, rd7⟩ := hY1 j H6 y' H7 F6 ρ6 m6 hj e6.le o6 hy'
                rw [List.drop_eq_getElem_cons hj] at q6
                have hd7' : ys[j] = d7 := by
                  rw [List.getElem?_eq_getElem hj] at hd7
                  exact Option.some.inj hd7
                rw [hd7'] at q6
                have he7 : EnvOk K tb F7 ρ6 (wipeE en' vs1) (wipe σ' vs1) := (he5.mono e6).mono e7
                refine ⟨F7, ρ6, _, m6, .d d7, he7, o7, .d rd7, ?_⟩
                unfold lcIn at q6
                cases eg1 : G1 (.d d7) (wipeE en' vs1) m6 with
                | none => rw [eg1] at q6; cases q6
                | some en1 =>
                  rw [eg1] at q6
                  dsimp only at q6
                  refine fun σ7 he7' bu7 => ⟨But.wiped bu7 hsl1, F7, ρ6, en1, m6, he7', o7, ?_⟩
                  cases et1 : ga1 en1 m6 with
                  | no => rw [et1] at q6; cases q6
                  | ex _ _ => rw [et1] at q6; cases q6
                  | ok k1 m7 =>
                    rw [et1] at q6
                    intro F8 ρ8 H8 x8 o8
                    cases k1 with
                    | false =>
                      rw [if_neg Bool.false_ne_true]
                      exact ⟨F8, ρ8, m7, (e6.trans e7).trans x8, o8, q6⟩
                    | true =>
                      rw [if_pos rfl]
                      dsimp only at q6
                      refine ⟨F8, ρ8, en1, m7, he7'.mono x8, o8, ?_⟩
                      cases ef : f en1 m7 with
                      | no => rw [ef] at q6; cases q6
                      | ex _ _ => rw [ef] at q6; cases q6
                      | ok z m8 =>
                        rw [ef] at q6
                        dsimp only at q6
                        intro F9 ρ9 H9 v x9 o9 r9
                        split at q6
                        · rename_i zz m10 hz
                          obtain ⟨F10, x10, o10, r10⟩ := frz_ok o9 r9 hz
                          split at q6
                          · rename_i acc hacc
                            have XX := (((X5.trans e6).trans e7).trans x8).trans x9
                            have hDi : ρ9[m1.length]? = some D := pre_get XX.pre (by rw [← hl]; simp)
                            obtain ⟨p1, vs, p2, p3⟩ := o10.lst _ _ _ hDi hacc
                            split at q6
                            · rename_i hf
                              exact ⟨vs, p2, by rw [← p3.length]; exact fits_lt hf, F10, ρ9, _, (((e6.trans e7).trans x8).trans x9).trans x10, o10.setL hDi hacc (p3.append (.cons r10 .nil)), q6⟩
                            · cases q6
                          · cases q6
                        · cases q6
              · rintro H6 ⟨F6, ρ6, m6, e6, o6, q6⟩
                rw [List.drop_length] at q6
                unfold lcIn at q6
                cases q6
                exact ⟨F6, ρ6, m9, X5.trans e6, o6, PostF.ext ⟨(x4.le.trans x5.le).trans e6.le, List.prefix_refl _⟩ q2⟩
  · rintro H2 ⟨F2, ρ2, m2, e2, o2, q2⟩
    rw [List.drop_length] at q2
    unfold lcOut at q2
    split at q2
    · rename_i hlen
      split at q2
      · rename_i acc hacc
        rw [← hl] at hacc q2 hlen
        obtain ⟨o3, vs, p2, p3⟩ := Wo.pop (vs := []) o2 e2.pre hlen hacc
        have := q2 F2 ρ1 _ D vs (.refl _ _) o3 (by simp) p3
        have e : upd (fun a => if a = D then none else H2 a) D (.lst vs) = H2 := by
          funext a
          by_cases h : a = D
          · subst h; rw [upd_same]; exact p2.symm
          · rw [upd_ne h, if_neg h]
        rw [e] at this
        exact this
      · exact q2.elim
    · exact q2.elim
theorem rf_comp2 (hc : X.calm = true) (hN : X.N.Nodup) (hi : RI X tb W tg iter fi) (ok : BlkOk X.N X.env.scope scope own) (hv : ∀ i ∈ vs1, i ∈ own.map (·.2))
    (hg : ∀ (s : Shared) (H : Hp) (C : Addr) (cl : List (Str × Addr)) (fp : List Addr), RG (X.blk s H scope (compEnvC scope cl C X.env) fp) tb tg G sl)
    (ht : ∀ (s : Shared) (H : Hp) (C : Addr) (cl : List (Str × Addr)) (fp : List Addr), RTs (X.blk s H scope (compEnvC scope cl C X.env) fp) tb WN ifs ga)
    (hi1 : ∀ (s : Shared) (H : Hp) (C : Addr) (cl : List (Str × Addr)) (fp : List Addr), RI (X.blk s H scope (compEnvC scope cl C X.env) fp) tb WN tg1 iter1 fi1)
    (hg1 : ∀ (s : Shared) (H : Hp) (C : Addr) (cl : List (Str × Addr)) (fp : List Addr), RG (X.blk s H scope (compEnvC scope cl C X.env) fp) tb tg1 G1 sl1)
    (ht1 : ∀ (s : Shared) (H : Hp) (C : Addr) (cl : List (Str × Addr)) (fp : List Addr), RTs (X.blk s H scope (compEnvC scope cl C X.env) fp) tb WN ifs1 ga1)
    (he : ∀ (s : Shared) (H : Hp) (C : Addr) (cl : List (Str × Addr)) (fp : List Addr), RE (X.blk s H scope (compEnvC scope cl C X.env) fp) tb WN elt f)
    (hsl : ∀ i ∈ sl, i ∈ own.map (·.2)) (hsl1 : ∀ i ∈ sl1, i ∈ vs1) (hs : ∀ x, foldedSetIterable iter X.env x = pure x := by intro _; rfl) (hs1 : ∀ env x, foldedSetIterable iter1 env x = pure x := by intro _ _; rfl) :
    RF X tb W (.ListComp elt [⟨tg, iter, ifs, 0⟩, ⟨tg1, iter1, ifs1, 0⟩] scope pos) (fComp2 fi G ga fi1 G1 ga1 f (own.map (·.2)) vs1) :=
  PE.weak (pe_lc2 (g := tG X.K tb G sl) (tt := tB X.K tb WN ga) (wi1 := tI X.K tb WN fi1) (g1 := tG X.K tb G1 sl1) (tt1 := tB X.K tb WN ga1) (te := tE X.K tb WN f) hc hN hi ok hv hg ht hi1 hg1 ht1 he hs hs1) fun σ H Q q => comp2_run hsl hsl1 q
end
end EvL
end

section
set_option Elab.async false
set_option linter.all false
set_option maxRecDepth 100000
set_option maxHeartbeats 2000000
/-! E17: the top's constants, in, tuples repeated, repr, a def held by a local -/
namespace EvL
open PySem PySem.Spec PyProof.Rows L2
section
variable {K : PySem.W.Frag} {tb : Tb} {W : WX} {X : Cx} {a b c e : Expr} {es : List Expr} {fa fb fc f : Sem1} {fl : SemL} {pos p p1 : Pos} {k : Nat} {x : Str} {D : Ends} {j : Nat}
/-! constants of the top -/
theorem re_globI {i : Int} {t : Tok} (hg : Gl X x) (hm : X.mg x = some (.int i t)) (hd : (x == ("__debug__" : Str)) = false := by decide) : RE X tb W (.Name x p) (sC (.int i)) := re_c (pe_glob (v := .int i) hg hm ⟨t, rfl⟩ hd) fun _ => .int i
theorem re_globT {A : Addr} {ns : List Int} {o : Obj} {its : Array Value} {n : Nat} (hg : Gl X x) (hm : X.mg x = some (.ref A)) (ho : X.K.lookup A = some o) (hc : o.cls = .type "tuple") (hd : o.data = .seq its n) (hz : its.size ≤ sizeLine) (hv : Vals (ns.map V.int) its.toList) (hdb : (x == ("__debug__" : Str)) = false := by decide) :
    RE X tb W (.Name x p) (sC (.tup (ns.map .int))) := re_c (pe_glob (v := .ref A) hg hm rfl hdb) fun F => .tup (.inr ⟨o, its, n, ho, hc, hd, hz, hv⟩) (RepL.ints ns)
/-- a def of the top as a value -/
theorem re_globF {n : Nat} (hg : Gl X x) (hm : X.mg x = some (.ref (tb.fnA n))) (hd : (x == ("__debug__" : Str)) = false := by decide) (hn : n < 1000 := by decide) : RE X tb W (.Name x p) (sC (.fn n)) := re_c (pe_glob (v := .ref (tb.fnA n)) hg hm rfl hd) fun _ => .fn n hn
/-! in, over plain values -/
def sV : Dv → Option V
  | .non => some .non
  | .bl b => some (.bl b)
  | .int i => some (.int i)
  | .str z => some (.str z)
  | _ => none
def sVL : List Dv → Option (List V)
  | [] => some []
  | d :: ds => match sV d, sVL ds with
    | some v, some r => some (v :: r)
    | _, _ => none
theorem sV_ok {F : Hp} {d : Dv} {v u : V} (r : Rep K tb F d v) (h : sV d = some u) : v = u ∧ flatV u = true := by
  cases r <;> simp [sV] at h <;> subst h <;> exact ⟨rfl, rfl⟩
theorem sVL_ok {F : Hp} : ∀ {ds : List Dv} {vs us : List V}, RepL K tb F ds vs → sVL ds = some us → vs = us ∧ us.all flatV = true
  | [], _, _, .nil, h => by cases h; exact ⟨rfl, rfl⟩
  | d :: ds, _, us, .cons r t, h => by
    unfold sVL at h
    split at h
    · rename_i v w h1 h2
      cases h
      obtain ⟨rfl, f1⟩ := sV_ok r h1
      obtain ⟨rfl, f2⟩ := sVL_ok t h2
      exact ⟨rfl, by rw [List.all_cons, f1, f2]; rfl⟩
    · cases h
def oIn (neg : Bool) (x y : Dv) : Option Dv := match sV x, items y with
  | some v, some ys => (match sVL ys with
    | some vs => some (.bl (if neg then !inV v vs else inV v vs))
    | none => none)
  | _, _ => none
theorem Top.seqs {F H : Hp} {d : Dv} {v : V} {ys : List Dv} (l : Le F H) (t : Top K tb F H d v) (h : items d = some ys) : ∃ p vs, v = .ref p ∧ (SqL K H p vs ∨ SqT K H p vs) ∧ RepL K tb F ys vs := by
  cases t with
  | of r =>
    cases r <;> simp only [items, Option.some.injEq, reduceCtorEq] at h
    · subst h; rename_i p xs vs h1 h2; exact ⟨_, _, rfl, .inr (l.sqt h1), h2⟩
    · subst h; rename_i p xs vs h1 h2; exact ⟨_, _, rfl, .inl (.inl (.inl (l _ _ h1))), h2⟩
    · subst h; rename_i p ns h1; exact ⟨_, _, rfl, .inl (l.sql h1), RepL.ints ns⟩
  | lst h1 h2 => simp only [items, Option.some.injEq] at h; subst h; exact ⟨_, _, rfl, .inl (.inl (.inl h1)), h2⟩
  | dic h1 h2 => simp [items] at h
theorem Top.scal {F H : Hp} {d : Dv} {v u : V} (t : Top K tb F H d v) (h : sV d = some u) : v = u ∧ flatV u = true := by
  cases t with
  | of r => exact sV_ok r h
  | lst _ _ => simp [sV] at h
  | dic _ _ => simp [sV] at h
theorem opC_in (neg : Bool) : OpC X tb (rIn X.K neg) (oIn neg) := by
  intro F ρ m H x y v u d Q o tx ty e k
  unfold oIn at e
  split at e
  · rename_i w ys h1 h2
    split at e
    · rename_i vs h3
      cases e
      obtain ⟨p, us, rfl, hq, r⟩ := ty.seqs o.sub h2
      obtain ⟨rfl, f1⟩ := tx.scal h1
      obtain ⟨rfl, f2⟩ := sVL_ok r h3
      exact ⟨p, _, rfl, hq, f1, f2, k F H _ (.refl _ _) o (.bl _)⟩
    · cases e
  · cases e
theorem oIn_bl (neg : Bool) : ∀ x y d, oIn neg x y = some d → ∃ k, d = .bl k := by
  intro x y d h
  unfold oIn at h
  split at h
  · split at h
    · cases h; exact ⟨_, rfl⟩
    · cases h
  · cases h
theorem rt_in (ha : RE X tb W a fa) (hb : RE X tb W b fb) (hm : behindInMarks .In b = false := by rfl) : RT X tb W (.Compare a [.In] [b] pos) (sT (sBin (oIn false) fa fb)) := rt_cmp op_in_seq (opC_in false) (oIn_bl false) ha hb hm
theorem re_in (ha : RE X tb W a fa) (hb : RE X tb W b fb) (hm : behindInMarks .In b = false := by rfl) : RE X tb W (.Compare a [.In] [b] pos) (sBin (oIn false) fa fb) := re_cmp op_in_seq (opC_in false) ha hb hm
/-! tuple * int -/
def oRepT : Dv → Dv → Option Dv
  | .tup xs, .int k => if decide (2 ≤ k) && decide (k ≤ 1000) && decide (xs.length ≤ 1000) && !xs.isEmpty then some (.tup (List.replicate k.toNat xs).flatten) else none
  | _, _ => none
theorem opC_repT : OpC X tb (rRepT X.K) oRepT := by
  intro F ρ m H x y v u d Q o tx ty e k
  cases x <;> cases y <;> simp only [oRepT, Option.ite_none_right_eq_some, Option.some.injEq, reduceCtorEq, Bool.and_eq_true, decide_eq_true_eq, Bool.not_eq_true'] at e
  obtain ⟨⟨⟨⟨e1, e2⟩, e3⟩, e4⟩, rfl⟩ := e
  obtain ⟨l, vs, rfl, h1, r1⟩ := tx.sqt o.sub
  refine ⟨l, _, vs, rfl, ty.int, h1, fun z => ?_, e1, e2, by rw [← r1.length]; exact e3, fun p hp => ?_⟩
  · have := r1.length
    rw [z] at this
    simp at this
    rw [this] at e4
    simp at e4
  · obtain ⟨o3, e3⟩ := o.alloc hp (.tup (List.replicate _ vs).flatten)
    exact k _ _ _ e3 o3 (.tup (.inl (.inl upd_same)) ((r1.mono e3.le).rep _))
theorem re_repT (ha : RE X tb W a fa) (hb : RE X tb W b fb) : RE X tb W (.BinOp a .Mult b pos) (sBin oRepT fa fb) := re_bin op_repT opC_repT ha hb
/-! repr -/
def oRepr (d : Dv) : Option Dv := if showOk d then some (.str (cv d).shown) else none
theorem call_reprD (hg : X.A.guards = some []) (hr : Room k X.A) : CallR X (.builtin "repr") (fun xs H Q => ∃ v d, xs = [v] ∧ Dp X.K H v d ∧ d.showable = true ∧ d.hasDict = false ∧ d.shown.length ≤ 1000000 ∧ d.depth ≤ 100 ∧ Q (.str d.shown) H) := by
  intro pins s σ H xs us Q I r h
  obtain ⟨v, d, rfl, dp, z1, z2, z3, z4, q⟩ := h
  obtain ⟨u, rfl, rv⟩ := vals1 r
  obtain ⟨as, rds⟩ := Dp.reads I d v u dp rv
  have hz : d.shown.length ≤ sizeLine := by rw [sizeLine_eq]; omega
  have un := hr.un
  have fin : ∀ h' t tk, (∀ b o, s.heap.get? b = some o → h'.get? b = some o) → EP X pins σ Q (.str d.shown t) { s with heap := h', toks := tk } := fun h' t tk kk => ⟨.str d.shown, H, I.kept (t' := tk) kk, ⟨t, rfl⟩, q⟩
  cases u with
  | ref a => exact repr_of_reads' rds z1 (fun z => by rw [z2] at z; cases z) hg (by omega) (fun _ _ e => e) (fun h' t tk kk => fin h' t tk kk) hz
  | none => cases rds; exact PySem.P.repr_of_none (fin _ _ _ fun _ _ e => e)
  | bool b => cases rds; exact PySem.P.repr_of_bool (by cases b <;> exact fin _ _ _ fun _ _ e => e)
  | int i t =>
    cases rds
    exact PySem.P.repr_of_int (by simpa [PyData.showable] using z1) (fin _ _ _ fun _ _ e => e)
  | str x t => cases rds; exact PySem.P.repr_of_str (fin _ _ _ fun _ _ e => e) hz
  | _ => cases rds
theorem callC_repr : CallC X tb (fun xs H Q => ∃ v d, xs = [v] ∧ Dp X.K H v d ∧ d.showable = true ∧ d.hasDict = false ∧ d.shown.length ≤ 1000000 ∧ d.depth ≤ 100 ∧ Q (.str d.shown) H) oRepr := by
  intro F ρ m H x v d Q o tx e k
  simp only [oRepr, Option.ite_none_right_eq_some, Option.some.injEq] at e
  obtain ⟨e1, rfl⟩ := e
  obtain ⟨s1, s2, s3, s4, s5⟩ := showOk_iff e1
  exact ⟨v, cv x, rfl, tx.dp o.sub s1, s2, s3, s4, s5, k F H _ (.refl _ _) o (.str _)⟩
theorem re_repr (hgu : X.A.guards = some []) (hr : Room k X.A) (hg : Gl X "repr") (hm : X.mg "repr" = none) (ha : RE X tb W e fa) (hs : starEach [e] X.env = (false, eval e X.env) :: starEach [] X.env := by rfl) (hpl : (backTo pos (starEach [] X.env)).any (·.1) = false := by rfl) : RE X tb W (.Call (.Name "repr" p) [e] [] pos) (sUn oRepr fa) :=
  re_b1 (call_reprD hgu hr) callC_repr hg hm (by decide +kernel) ha (by decide) (by decide) hs hpl
/-! a def held by a local -/
structure Ft (P : Program) (w : World) (K : PySem.W.Frag) (mg : Str → Option Value) (gb : Heap) (tb : Tb) (k n : Nat) (g : Fs) : Prop where
  ex : ∃ (ps : List Str) (fd : FuncData), FnG P w K mg gb k (tb.fnA n) fd ps (spE K tb ps.length g) ∧ PySem.W.keepIn K (.ref (tb.fnA n)) = true ∧ Binds K fd ps [] ∧ Ar ps.length g
def sCallL (i : Nat) (N : Nat) (disp : Nat → Fs) (fl : SemL) : Sem1 := fun en m => match en[i]? with
  | some (some (.d (.fn n))) => if n < N then (fl en m).bind fun xs m1 => disp n xs m1 else .no
  | _ => .no
theorem re_callL {i N : Nat} {disp : Nat → Fs} (T : ∀ n, n < N → Ft X.prog X.w X.K X.mg X.base tb k n (disp n)) (hr : Room k X.A) (hgu : X.A.guards = some []) (tk : Takes X W) (hN : X.N[i]? = some x) (hv : Vis X.env.scope x) (ha : RA X tb W (e :: es) fl)
    (hdb : (x == ("__debug__" : Str)) = false := by decide) (hcd : (x == ("__classdict__" : Str)) = false := by decide)
    (hs : starEach (e :: es) X.env = (false, eval e X.env) :: starEach es X.env := by rfl) (hpl : (backTo pos (starEach es X.env)).any (·.1) = false := by rfl) (hNN : N ≤ 1000 := by decide) : RE X tb W (.Call (.Name x p) (e :: es) [] pos) (sCallL i N disp fl) := by
  refine ⟨fun pins s σ H Q I q0 => ?_⟩
  obtain ⟨F, ρ, en, m, he, ho, q⟩ := tE_iff.mp q0
  unfold sCallL at q
  split at q
  · rename_i n hn
    split at q
    · rename_i hlt
      obtain ⟨v, hv1, hv2⟩ := he.at_ i _ hn
      obtain ⟨ps, fd, Fn, hk, hb, har⟩ := (T n hlt).ex
      have ev : v = .ref (tb.fnA n) := by
        cases hv2 with
        | d h =>
          cases h with
          | fn => rfl
          | lam z => exact absurd z (tb.isU _ _ _ (Nat.lt_of_lt_of_le hlt hNN))
      subst ev
      refine wpAny_Call_Name_kw (thn ((pe_var (pos := p) hN hv hdb hcd).run pins s σ H (fun v H1 => v = .ref (tb.fnA n) ∧ H1 = H) I ⟨_, hv1, rfl, rfl⟩) fun u s1 ⟨v, H1, I1, r1, q1⟩ => ?_)
      obtain ⟨rfl, rfl⟩ := q1
      cases r1
      refine PySem.W.callWith_K (h₀ := X.base) I.ok.mod.kin hk (thn (ha.run pos pins s1 σ _ (fun vs H2 => spE X.K tb ps.length (disp n) (vs ++ []) H2 Q (WE W σ)) I1 ?_) fun us s2 ⟨vs, H2, I2, r, q2⟩ => ⟨I2.kIn, runG Fn hr hgu hb .nil tk I2 r q2⟩) hs hpl
      refine tEL_bind he ho q fun xs m1 F1 ρ1 H1 vs e1 he1 ho1 r1 q1 => ?_
      rw [List.append_nil]
      exact spE_of (ar_of har q1) r1 ho1 q1
    · exact q.elim
  · exact q.elim
end
end EvL
end

section
set_option Elab.async false
set_option linter.all false
set_option maxRecDepth 100000
set_option maxHeartbeats 4000000
/-! E18: + and * of all kinds -/
namespace EvL
open PySem PySem.Spec PyProof.Rows L2
theorem tuple_mul1 (l : Addr) (items : Array Value) (n : Nat) (dd : Option Addr) (sl : Array (Option Value)) (u : Tok) :
    Meets (Builtin.«tuple.__mul__» ⟨[.ref l, .int 1 u], []⟩) (fun _ R s => s.heap.get? l = some { cls := .type "tuple", dict := dd, data := .seq items n, slots := sl } ∧ R (.ok (.ret (Value.ref l))) s) :=
  .of_wp fun prog w A R s h => by
    obtain ⟨hp, g, d, tk, os⟩ := s
    obtain ⟨hl, h⟩ := h
    have f1 := AutoSeq1.idx_int
    have c0 : (decide ((1 : Int) < -(2 ^ 63)) || decide ((1 : Int) ≥ 2 ^ 63)) = false := by decide
    have c1 : (items.isEmpty || (1 : Int) == 1) = true := by rw [show ((1 : Int) == 1) = true from rfl, Bool.or_true]
    wp_walk using AutoSeq1.wpAny_loadPart' hl
    exact ⟨_, rfl, h⟩
section
variable {K : PySem.W.Frag} {tb : Tb} {W : WX} {X : Cx} {a b c e : Expr} {fa fb fc f : Sem1} {pos p p1 : Pos} {k : Nat}
def rRep1 (K : PySem.W.Frag) : R2 := fun x y H Q => ∃ l xs, x = .ref l ∧ y = .int 1 ∧ SqT K H l xs ∧ Q (.ref l) H
theorem op_rep1 : OpR X (binaryOp .Mult) (rRep1 X.K) := by
  intro pins s σ H x y v u Q I rx ry h
  obtain ⟨l, xs, rfl, rfl, hT, q⟩ := h
  cases rx
  obtain ⟨t, rfl⟩ := ry
  obtain ⟨its, r, ⟨⟨cls, dd, data, sl⟩, ho, hc, n, hd⟩, hs⟩ := I.tuple hT
  simp only at hc hd
  subst hc hd
  refine wpAny_binaryOp_repeat_ref (T := "tuple") (U := "int") (by decide) ⟨_, ho, rfl⟩ (fun s' => typeIs_int s' 1 t) noFill_tuple_mul F.fills_int_mul F.slot_int_rmul repeat_tuple F.slot_int_index.lookup
    (call_meets F.slot_int_rmul (typeIs_int s 1 t) F.entry_int_rmul (F.args_int_rmul_2 _ _) (int_rmul_tuple 1 t l its.toArray n dd sl)
      ⟨ho, rfl, ⟨_, ho, rfl⟩, call_meets F.slot_tuple_mul ⟨_, ho, rfl⟩ F.entry_tuple_mul (F.args_tuple_mul_2 _ _) (tuple_mul1 l its.toArray n dd sl t) ⟨ho, ?_⟩⟩)
  exact ⟨.ref l, H, I, rfl, q⟩
theorem OpR.or {op : Value → Value → Sem Value} {r r' : R2} (h : OpR X op r) (h' : OpR X op r') : OpR X op (fun x y H Q => r x y H Q ∨ r' x y H Q) := by
  intro pins s σ H x y v u Q I rx ry q
  rcases q with q | q
  · exact h pins s σ H x y v u Q I rx ry q
  · exact h' pins s σ H x y v u Q I rx ry q
def orO (o o' : Dv → Dv → Option Dv) : Dv → Dv → Option Dv := fun x y => match o x y with | some d => some d | none => o' x y
theorem OpC.or {r r' : R2} {o o' : Dv → Dv → Option Dv} (h : OpC X tb r o) (h' : OpC X tb r' o') : OpC X tb (fun x y H Q => r x y H Q ∨ r' x y H Q) (orO o o') := by
  intro F ρ m H x y v u d Q w tx ty e k
  unfold orO at e
  split at e
  · rename_i d' hd
    cases e
    exact .inl (h F ρ m H x y v u _ Q w tx ty hd k)
  · exact .inr (h' F ρ m H x y v u d Q w tx ty e k)
/-- a fresh list that stands still at once -/
def frO (o : Dv → Dv → Option (List Dv)) : Dv → Dv → Option Dv := fun x y => (o x y).map .lst
theorem frC {r : R2} {o : Dv → Dv → Option (List Dv)} (h : OpF X tb r o) : OpC X tb r (frO o) := by
  intro F ρ m H x y v u d Q w tx ty e k
  cases e2 : o x y with
  | none => rw [frO, e2] at e; cases e
  | some ds =>
    rw [frO, e2] at e
    cases e
    refine h F ρ m H x y v u ds Q w tx ty e2 fun p vs hp r => ?_
    obtain ⟨o3, e3⟩ := w.alloc hp (.lst vs)
    exact k _ _ _ e3 o3 (.lst upd_same (r.mono e3.le))
def oRep1 : Dv → Dv → Option Dv
  | .tup xs, .int k => if k = 1 then some (.tup xs) else none
  | _, _ => none
theorem opC_rep1 : OpC X tb (rRep1 X.K) oRep1 := by
  intro F ρ m H x y v u d Q o tx ty e k
  cases x <;> cases y <;> simp only [oRep1, Option.ite_none_right_eq_some, Option.some.injEq, reduceCtorEq] at e
  obtain ⟨rfl, rfl⟩ := e
  cases tx with
  | of r =>
    have ey := ty.int
    cases r with
    | tup h r => exact ⟨_, _, rfl, ey, o.sub.sqt h, k F H _ (.refl _ _) o (.tup h r)⟩
def oAddP : Dv → Dv → Option Dv := orO oAdd (orO oCatT (frO oCatL))
def oMulP : Dv → Dv → Option Dv := orO oMul (orO oRep1 (orO oRepT (frO oRepL)))
theorem re_addP (ha : RE X tb W a fa) (hb : RE X tb W b fb) : RE X tb W (.BinOp a .Add b pos) (sBin oAddP fa fb) :=
  re_bin (OpR.or op_add (OpR.or op_catA op_cat)) (OpC.or (opC_i fun i j F => .int _) (OpC.or opC_catT (frC opF_cat))) ha hb
theorem re_mulP (ha : RE X tb W a fa) (hb : RE X tb W b fb) : RE X tb W (.BinOp a .Mult b pos) (sBin oMulP fa fb) :=
  re_bin (OpR.or op_mulA (OpR.or op_rep1 (OpR.or op_repT op_rep))) (OpC.or (opC_iC (fun i j h => mulOk_c h) fun i j F => .int _) (OpC.or opC_rep1 (OpC.or opC_repT (frC opF_rep)))) ha hb
/-- a script's slice: a fresh list -/
theorem re_neg' (ha : RE X tb W a fa) : RE X tb W (.UnaryOp .USub a pos) (sUn oNeg fa) := re_neg ha
end
@[simp] theorem oAddP_i (i j : Int) : oAddP (.int i) (.int j) = some (.int (i + j)) := rfl
@[simp] theorem oAddP_t (xs ys : List Dv) (h : fits (xs.length + ys.length) = true) : oAddP (.tup xs) (.tup ys) = some (.tup (xs ++ ys)) := by simp [oAddP, orO, iop, oCatT, h]
@[simp] theorem oAddP_l (xs ys : List Dv) (h : fits (xs.length + ys.length) = true) : oAddP (.lst xs) (.lst ys) = some (.lst (xs ++ ys)) := by simp [oAddP, orO, iop, oCatT, frO, oCatL, h]
@[simp] theorem oMulP_i (i j : Int) (h : mulOk i j = true) : oMulP (.int i) (.int j) = some (.int (i * j)) := by simp [oMulP, orO, iopC, h]
theorem oMulP_t1 (xs : List Dv) : oMulP (.tup xs) (.int 1) = some (.tup xs) := by simp [oMulP, orO, iopC, oRep1]
theorem oMulP_t (xs : List Dv) (k : Int) (h1 : 2 ≤ k) (h2 : k ≤ 1000) (h3 : xs.length ≤ 1000) (h4 : xs ≠ []) : oMulP (.tup xs) (.int k) = some (.tup (List.replicate k.toNat xs).flatten) := by
  have e : k ≠ 1 := by omega
  simp [oMulP, orO, iopC, oRep1, oRepT, h1, h2, h3, h4, e]
theorem oMulP_l (xs : List Dv) (k : Int) (h1 : -1000 ≤ k) (h2 : k ≤ 1000) (h3 : xs.length ≤ 1000) : oMulP (.lst xs) (.int k) = some (.lst (List.replicate k.toNat xs).flatten) := by
  simp [oMulP, orO, iopC, oRep1, oRepT, frO, oRepL, h1, h2, h3]
end EvL
end

section
set_option Elab.async false
set_option linter.all false
set_option maxRecDepth 100000
set_option maxHeartbeats 4000000
/-! E19: facts in the form in which a printed proof takes them -/
namespace EvL
open PySem PySem.Spec PyProof.Rows L2
/-- an int of the top -/
def ConI (mg : Str → Option Value) (x : Str) (i : Int) : Prop := ∃ t, mg x = some (.int i t)
/-- a tuple of ints of the top -/
def ConT (K : PySem.W.Frag) (mg : Str → Option Value) (x : Str) (ns : List Int) : Prop := ∃ (A : Addr) (o : Obj) (its : Array Value) (n : Nat), mg x = some (.ref A) ∧ K.lookup A = some o ∧ o.cls = .type "tuple" ∧ o.data = .seq its n ∧ its.size ≤ sizeLine ∧ Vals (ns.map V.int) its.toList
/-- an error class with an __init__ -/
structure Er1 (P : Program) (K : PySem.W.Frag) (mg : Str → Option Value) (tb : Tb) (ci : Nat) (x f pref : Str) : Prop where
  ex : ∃ fI, PySem.EvX.ErrTxt P K mg x f pref (tb.clA ci) fI
  xf : XfC K (tb.clA ci)
/-- one without -/
structure Er0 (K : PySem.W.Frag) (mg : Str → Option Value) (tb : Tb) (ci : Nat) (x : Str) : Prop where
  q : ∃ (B newId initId : String) (bmB : List Value), ExcBaseFacts B newId initId bmB ∧ PySem.W.excIn K (tb.clA ci) bmB newId = true
  gC : mg x = some (.ref (tb.clA ci))
  kC : PySem.W.keepIn K (.ref (tb.clA ci)) = true
  exC : PySem.W.subIn K (.ref (tb.clA ci)) (.type "BaseException") = some true
  tyC : PySem.W.typeIn K (.ref (tb.clA ci)) = some (.type "type")
section
variable {K : PySem.W.Frag} {tb : Tb} {W : WX} {X : Cx} {a b c e : Expr} {fa fb fc f : Sem1} {pos p p1 pos2 p2 : Pos} {k ci j : Nat} {x fl pref : Str}
theorem rg_int {i : Int} (hm : ConI X.mg x i) (hg : Gl X x) (hd : (x == ("__debug__" : Str)) = false := by decide) : RE X tb W (.Name x p) (sC (.int i)) := by
  obtain ⟨t, h⟩ := hm
  exact re_globI hg h hd
theorem rg_tupI {ns : List Int} (hm : ConT X.K X.mg x ns) (hg : Gl X x) (hd : (x == ("__debug__" : Str)) = false := by decide) : RE X tb W (.Name x p) (sC (.tup (ns.map .int))) := by
  obtain ⟨A, o, its, n, h1, h2, h3, h4, h5, h6⟩ := hm
  exact re_globT hg h1 h2 h3 h4 h5 h6 hd
theorem rs_err (hc : X.calm = true) (tk : Takes X W) (T : Er1 X.prog X.K X.mg tb ci x fl pref) (hr : Room k X.A) (hgu : X.A.guards = some []) (ha : RE X tb W a fa) (hg : Gl X x) (hdb : (x == ("__debug__" : Str)) = false := by decide)
    (he : starEach (a :: []) X.env = (false, eval a X.env) :: starEach [] X.env := by rfl) (hpl : (backTo pos (starEach [] X.env)).any (·.1) = false := by rfl) : RS X tb W (.Raise (some (.Call (.Name x p) [a] [] pos)) none pos2) (gRaise ci fl fa) := by
  obtain ⟨fI, T1⟩ := T.ex
  exact rs_raise hc tk T1 hr hgu ha hg hdb he hpl
theorem pmk_own0 {C : Addr} {bmB : List Value} {B newId initId : String} (F : ExcBaseFacts B newId initId bmB) (q : PySem.W.excIn X.K C bmB newId = true) (gC : X.mg x = some (.ref C)) (kC : PySem.W.keepIn X.K (.ref C) = true) (r : Raises X (.ref C)) (hg : Gl X x)
    (hdb : (x == ("__debug__" : Str)) = false := by decide) : PMk X (.Call (.Name x p) [] [] pos) (fun _ H Q => Q (.ref C) none H) := by
  intro pins s σ H Q I h
  refine wpAny_Call_Name_kw (ld_glob I hg gC ?_ hdb)
  refine PySem.W.callWith_K0 I.kIn kC ?_
  show wpAny _ _ (call (.ref C) []) _ _ _
  obtain ⟨bm, N, nm, qn, bs, hdct, sn, sub, ab, col, dd, k0, k1, k2, k3, k5, mN, hC, hN, hni, T⟩ := exc_obj I.kIn q
  refine wpAny_call_exc_subT F T hC hN hni (fun h' e hm => ?_) (Nat.zero_le _)
  exact mk_of I hm r h (I.hok.gone hm.new)
theorem rs_err0 (hc : X.calm = true) (tk : Takes X W) (T : Er0 X.K X.mg tb ci x) (hg : Gl X x) (hdb : (x == ("__debug__" : Str)) = false := by decide) : RS X tb W (.Raise (some (.Call (.Name x p) [] [] pos)) none pos2) (gRaise0 ci) := by
  obtain ⟨B, n1, n2, bmB, F, q⟩ := T.q
  refine PS.weak (ps_raise hc tk (pmk_own0 F q T.gC T.kC (raises_own T.exC T.tyC) hg hdb)) fun D σ H q => ?_
  obtain ⟨F, ρ, en, m, he, ho, q⟩ := q
  exact q F ρ σ H _ none (.refl _ _) he ho ⟨rfl, trivial⟩
theorem Er1.no {P : Program} {mg : Str → Option Value} (T : Er1 P K mg tb ci x fl pref) : PySem.W.findIn K (.ref (tb.clA ci)) fl = some none := by
  obtain ⟨fI, T1⟩ := T.ex
  exact T1.noN
theorem Er1.mg {P : Program} {mg : Str → Option Value} (T : Er1 P K mg tb ci x fl pref) : mg x = some (.ref (tb.clA ci)) := by
  obtain ⟨fI, T1⟩ := T.ex
  exact T1.gC
/-! except clauses -/
variable {n : Nat} {nm : Str} {i x1 : Nat} {np hp p3 p4 p5 : Pos} {kk : Str} {hs : List ExceptHandler} {l : List (Nat × Cl)} {ts : List (Value × Option Nat × Suit)}
theorem rc_fld (T : Er1 X.prog X.K X.mg tb ci x fl pref) (hg : Gl X x) (hi : X.N[i]? = some nm) (hln : X.env.kindOf nm = some .local) (hn : ci < n) (r : RCl X tb n hs l ts) (hdb : (x == ("__debug__" : Str)) = false := by decide) (hv : (nm == ("__debug__" : Str)) = false := by decide) (hv2 : (nm == ("__classdict__" : Str)) = false := by decide)
    (hb : attributeBase (.Name nm p2) fl X.env (eval (.Name nm p2) X.env) = eval (.Name nm p2) X.env := by rfl)
    (he : starEach [.Constant (.str kk) j p1, .Attribute (.Name nm p2) fl p3] X.env = (false, eval (.Constant (.str kk) j p1) X.env) :: starEach [.Attribute (.Name nm p2) fl p3] X.env := by rfl)
    (he2 : starEach [.Attribute (.Name nm p2) fl p3] X.env = (false, eval (.Attribute (.Name nm p2) fl p3) X.env) :: starEach [] X.env := by rfl) :
    RCl X tb n (.ExceptHandler (some (.Name x np)) (some nm) [.Return (some (.Tuple [.Constant (.str kk) j p1, .Attribute (.Name nm p2) fl p3] x1 p4)) p5] hp :: hs) ((ci, .fld i kk fl) :: l) ((.ref (tb.clA ci), some i, tsFld X.K (tb.clA ci) i kk fl) :: ts) :=
  .fld hi hln hv hv2 hn ⟨hg, hdb, .inl T.mg⟩ T.xf T.no hb he he2 r
theorem rc_sts {g : SemS} {st : Stmt} {sts : List Stmt} (hm : X.mg x = some (.ref (tb.clA ci))) (hg : Gl X x) (hn : ci < n) (hsu : ∀ (a : Addr) (pn : List (Addr × Obj)), RSs (X.suite a pn) tb WN (st :: sts) g) (r : RCl X tb n hs l ts) (hdb : (x == ("__debug__" : Str)) = false := by decide) :
    RCl X tb n (.ExceptHandler (some (.Name x np)) none (st :: sts) hp :: hs) ((ci, .sts g) :: l) ((.ref (tb.clA ci), none, fun _ _ _ => tS X.K tb WN g) :: ts) := .sts hn ⟨hg, hdb, .inl hm⟩ hsu r
end
end EvL
end

section
set_option Elab.async false
set_option linter.all false
set_option maxRecDepth 100000
set_option maxHeartbeats 4000000
/-! E20: slices of both kinds, fresh lists kept, ranges, more forms for printed proofs -/
namespace EvL
open PySem PySem.Spec PyProof.Rows L2
section
variable {K : PySem.W.Frag} {tb : Tb} {W : WX} {X : Cx} {a b c e : Expr} {es : List Expr} {fa fb fc f : Sem1} {ff : SemF} {pos p p1 p2 : Pos} {k j : Nat} {x : Str} {lo hi : Option Expr} {ol oh : SemO}
theorem PE.or {t1 t2 : TE} (h1 : PE X e t1) (h2 : PE X e t2) : PE X e (fun σ H Q => t1 σ H Q ∨ t2 σ H Q) := ⟨fun pins s σ H Q I q => by
  rcases q with q | q
  · exact h1.run pins s σ H Q I q
  · exact h2.run pins s σ H Q I q⟩
/-- one reading where it says something, else the other -/
def sElse (f g : Sem1) : Sem1 := fun en m => match f en m with
  | .no => g en m
  | r => r
theorem re_else {g : Sem1} (h1 : RE X tb W e f) (h2 : RE X tb W e g) : RE X tb W e (sElse f g) := by
  refine PE.weak (PE.or h1 h2) fun σ H Q q => ?_
  obtain ⟨F, ρ, en, m, he, ho, q⟩ := tE_iff.mp q
  unfold sElse at q
  cases ef : f en m with
  | no => rw [ef] at q; exact .inr (tE_iff.mpr ⟨F, ρ, en, m, he, ho, q⟩)
  | ok y m1 => rw [ef] at q; exact .inl (tE_iff.mpr ⟨F, ρ, en, m, he, ho, by rw [ef]; exact q⟩)
  | ex y m1 => rw [ef] at q; exact .inl (tE_iff.mpr ⟨F, ρ, en, m, he, ho, by rw [ef]; exact q⟩)
def sSlP (fa : Sem1) (ol oh : SemO) : Sem1 := sElse (sSlT fa ol oh) (sF (fSlL fa ol oh))
theorem re_slP (h : RE X tb W e fa) (hl : RO X tb W lo ol) (hh : RO X tb W hi oh) : RE X tb W (.Subscript e (.Slice lo hi none p2) pos) (sSlP fa ol oh) := re_else (re_slT h hl hh) (re_f (rf_slL h hl hh))
/-- a fresh list as a thing of the store -/
def sNew (ff : SemF) : Sem1 := fun en m => (ff en m).bind fun xs m1 => .ok (.o m1.length) (m1 ++ [.lst xs])
theorem re_new (h : RF X tb W e ff) : RE X tb W e (sNew ff) := by
  refine PE.weak h fun σ H Q q => ?_
  obtain ⟨F, ρ, en, m, he, ho, q⟩ := tE_iff.mp q
  refine ⟨F, ρ, en, m, he, ho, ?_⟩
  unfold sNew at q
  cases ef : ff en m with
  | ok xs m1 =>
    rw [ef] at q
    intro F' ρ' H' p vs ex o hp r
    obtain ⟨o3, e3⟩ := o.push hp r
    exact q F' _ _ _ (ex.trans e3) o3 (.o (by rw [← o.len]; simp))
  | ex y m1 => rw [ef] at q; exact q
  | no => rw [ef] at q; exact q
theorem Fo.up {P : Program} {w : World} {K : PySem.W.Frag} {mg : Str → Option Value} {gb : Heap} {j k : Nat} {ps : List Str} {g : Fs} {f : Addr} {fd : FuncData} (F : Fo P w K mg gb tb j x ps g f fd) (h : j ≤ k) : Fo P w K mg gb tb k x ps g f fd := ⟨F.ok.up h, F.mg, F.kp, F.bd⟩
/-- texts compared -/
def oEqS : Dv → Dv → Option Dv
  | .str x, .str y => some (.bl (decide (x = y)))
  | _, _ => none
theorem opC_eqS : OpC X tb rEq oEqS := by
  intro F ρ m H x y v u d Q o tx ty e k
  cases x <;> cases y <;> simp only [oEqS, Option.some.injEq, reduceCtorEq] at e
  subst e
  rename_i x y
  rw [tx.str, ty.str]
  refine ⟨rfl, ?_⟩
  have e2 : decide (V.str x = V.str y) = decide (x = y) := by
    by_cases h : x = y
    · simp [h]
    · have : ¬ V.str x = V.str y := fun z => h (by injection z)
      simp [h, this]
  rw [e2]
  exact k F H _ (.refl _ _) o (.bl _)
theorem re_eqS (ha : RE X tb W a fa) (hb : RE X tb W b fb) : RE X tb W (.Compare a [.Eq] [b] pos) (sBin oEqS fa fb) := re_cmp op_eq opC_eqS ha hb (nomark _)
def fRange1 (f : Sem1) : SemF := fun en m => (f en m).bind fun x m1 => match rv m1 x with
  | some (.int j) => if decide (0 ≤ j) && decide (j ≤ 16777216) then .ok (rng 0 j) m1 else .no
  | _ => .no
theorem rep_rng {F : Hp} (lo hi : Int) : RepL K tb F (rng lo hi) (rgV lo hi) := by
  unfold rng rgV
  have : ∀ l : List Nat, RepL K tb F (l.map fun (i : Nat) => Dv.int (lo + (i : Int))) (l.map fun i => V.int (lo + (i : Nat))) := fun l => by
    induction l with
    | nil => exact .nil
    | cons i l ih => exact .cons (.int _) ih
  exact this _
theorem rf_listR1 (hc : X.calm = true) (hl : Gl X "list") (hml : X.mg "list" = none) (hg : Gl X "range") (hm : X.mg "range" = none) (ha : RE X tb W a fa) (na : starEach [a] X.env = (false, eval a X.env) :: starEach [] X.env := by rfl)
    (nb : starEach [.Call (.Name "range" p) [a] [] pos] X.env = (false, eval (.Call (.Name "range" p) [a] [] pos) X.env) :: starEach [] X.env := by rfl) : RF X tb W (.Call (.Name "list" p1) [.Call (.Name "range" p) [a] [] pos] [] p2) (fRange1 fa) := by
  refine PE.weak (pe_listRg hc hl hml (prg_1 hg hm ha na) nb) fun σ H Q q => ?_
  obtain ⟨F, ρ, en, m, he, ho, q⟩ := q
  refine tE_bindF he ho q fun x m1 F1 ρ1 H1 v e1 he1 ho1 r1 q1 => ?_
  split at q1
  · rename_i j hj
    split at q1
    · rename_i hz
      simp only [Bool.and_eq_true, decide_eq_true_eq] at hz
      exact ⟨j, by rw [(rv_top ho1 r1 hj).int], RgOk.of_le (by omega) hz.2 (by omega) hz.1, fun p hp => q1 F1 ρ1 H1 p _ (.refl _ _) ho1 hp (rep_rng 0 j)⟩
    · exact q1.elim
  · exact q1.elim
end
end EvL
end

section
set_option Elab.async false
set_option linter.all false
set_option maxRecDepth 100000
set_option maxHeartbeats 4000000
/-! E21a: a zip drawn by a list -/
namespace PySem
namespace EvZ
open Sem (wp)
section
variable {prog : Program} {w : World} {A : Around} {E : Value → Shared → Prop} {s : Shared}
theorem wpAny_ifAlive {a : Addr} {Q : Option Obj → Shared → Prop} (h : Q (s.heap.get? a) s) : wpAny (model prog w) A (loadIfAlive a) Q E s :=
  fun Γ p hΓ => by
    show wp _ Γ (Sem.loadIfAlive a Sem.pure) (fun a _ s' => Q a s') (fun e _ s' => E e s') p s
    rw [Sem.wp_loadIfAlive, Sem.wp_pure]
    exact h
/-- a zip's record -/
abbrev ZR (h : Heap) (z TI TO : Addr) (f0 f1 : Value) : Prop := h.get? z = some { cls := .type "zip", dict := none, data := .fields #[f0, f1, .bool false, .ref TI, .ref TO], slots := #[] }
/-- the tuple handed out before lives on: no own tuple is free -/
theorem notFree {z TI TO T : Addr} {t : Tok} {f1 : Value} {o : Obj} {Q : Bool → Shared → Prop} (hz : ZR s.heap z TI TO (.int T t) f1) (hT : s.heap.get? T = some o) (hf : f1 = .bool true ∨ f1 = .bool false)
    (h : ∀ h', ZR h' z TI TO (.int T t) (.bool true) → Heap.SameBut z s.heap h' → Q false { s with heap := h' }) : wpAny (model prog w) A (Builtin.SmallTypes.ownedTupleIsFree (.ref z)) Q E s := by
  unfold Builtin.SmallTypes.ownedTupleIsFree
  refine wpAny_bind (wpAny_field hz rfl (x := .int T t) rfl ?_)
  show wpAny _ _ (loadIfAlive (T : Int).toNat >>= _) _ _ _
  refine wpAny_bind (wpAny_ifAlive ?_)
  have hT' : s.heap.get? (T : Int).toNat = some o := by simpa using hT
  rw [hT']
  simp only [Option.isNone_some, Bool.false_eq_true, if_false]
  refine wpAny_bind (wpAny_field hz rfl (x := f1) rfl ?_)
  rcases hf with rfl | rfl
  · simp
    exact wpAny_pure (h s.heap hz ⟨rfl, fun _ _ => rfl⟩)
  · simp
    refine wpAny_bind (wpAny_setField_rec hz (by simp) fun h' hz' hs => ?_)
    refine wpAny_pure (h _ hz' hs)

/-- a tuple of one -/
abbrev IsTupOf1 (h : Heap) (T : Addr) (a1 : Value) : Prop := h.get? T = some { cls := .type "tuple", data := .seq #[a1] }

theorem znew1 {z TI TO T i1 : Addr} {fp1 : List Addr} {n1 i : Nat} {P1 : Nat → Value → Prop} {St1 : Nat → Heap → Prop} {t : Tok} {f1 : Value} {o : Obj} {Q : Value → Shared → Prop}
    (D1 : Draws prog w A i1 fp1 n1 P1 St1) (a1 : z ∉ fp1)  (e1 : z ≠ i1)
    (hz : ZR s.heap z TI TO (.int T t) f1) (hT : s.heap.get? T = some o) (hf : f1 = .bool true ∨ f1 = .bool false) (hTI : IsTupOf1 s.heap TI (.ref i1)) (st1 : St1 i s.heap) (h1 : i < n1)
    (hQ : ∀ x1 h' tk, P1 i x1 → ZR h' z TI TO (.int T t) (.bool true) → St1 (i + 1) h' → IsTupOf1 h' s.heap.objs.size x1 → h'.objs.size = s.heap.objs.size + 1 →
      (∀ c o, c ≠ z → c ≠ i1 → s.heap.get? c = some o → h'.get? c = some o) → Q (.ref s.heap.objs.size) { s with heap := h', toks := tk }) :
    wpAny (model prog w) A (Builtin.«zip.__next__» ⟨[.ref z], []⟩) (fun fin s' => ∃ v, fin = .done (.ret v) ∧ Q v s') E s := by
  obtain ⟨hp, g, d, tk0, os⟩ := s
  show wpAny _ _ (field (.ref z) 2 >>= fun _ => _) _ _ _
  refine wpAny_bind (wpAny_field hz rfl (x := .bool false) rfl ?_)
  show wpAny _ _ (field (.ref z) 3 >>= fun _ => _) _ _ _
  refine wpAny_bind (wpAny_field hz rfl (x := .ref TI) rfl (wpAny_bind (wpAny_seqItems hTI rfl ?_)))
  show wpAny _ _ (Builtin.SmallTypes.ownedTupleIsFree (.ref z) >>= fun _ => _) _ _ _
  refine wpAny_bind (notFree hz hT hf fun g0 hz0 hs0 => ?_)
  simp only [Bool.false_eq_true, if_false]
  replace hs0 : Heap.SameBut z hp g0 := hs0
  refine wpAny_bind ?_
  simp only [List.forIn_toArray, List.forIn_cons, List.forIn_nil]
  refine wpAny_bind (wpAny_bind (wpAny_holding ?_))
  show wpAny _ _ (Builtin.SmallTypes.nextOf (.ref i1) >>= fun _ => _) _ _ _
  refine wpAny_bind (D1.item i _ _ _ h1 (D1.over st1 hs0 a1) fun x1 p1 tk1 y1 sn1 hp1 => wpAny_pure ?_)
  replace hp1 : Heap.SameBut i1 g0 p1 := hp1
  refine wpAny_pure (wpAny_pure ?_)
  show wpAny _ _ (newTuple [x1] >>= fun _ => _) _ _ _
  refine wpAny_bind (wpAny_newTuple ?_)
  have hsz : p1.objs.size = hp.objs.size := by rw [hp1.1, hs0.1]
  have hz2 : ZR p1 z TI TO (.int T t) (.bool true) := hp1.extBut _ _ e1 (hz0)
  have j1 : St1 (i + 1) p1 := sn1
  refine wpAny_pure ⟨_, rfl, ?_⟩
  show Q (.ref p1.objs.size) ⟨p1.push { cls := .type "tuple", data := .seq #[x1] }, g, d, tk1, os⟩
  have new : IsTupOf1 (p1.push { cls := .type "tuple", data := .seq #[x1] }) p1.objs.size x1 := Heap.get?_push_size _ rfl
  have nsz : (p1.push { cls := .type "tuple", data := .seq #[x1] }).objs.size = p1.objs.size + 1 := Heap.size_push ..
  rw [hsz] at new nsz
  rw [hsz]
  exact hQ x1 _ tk1 y1 (Heap.get?_push_of_some _ hz2) (D1.frame _ _ _ j1 fun b _ o e => Heap.get?_push_of_some _ e) new nsz fun c o c0 c1 e => Heap.get?_push_of_some _ (hp1.extBut _ _ c1 (hs0.extBut _ _ c0 e))
theorem zend1 {z TI TO T i1 : Addr} {fp1 : List Addr} {n1 : Nat} {P1 : Nat → Value → Prop} {St1 : Nat → Heap → Prop} {t : Tok} {f1 : Value} {o : Obj} {Q : Fin → Shared → Prop}
    (D1 : Draws prog w A i1 fp1 n1 P1 St1) (a1 : z ∉ fp1)
    (hz : ZR s.heap z TI TO (.int T t) f1) (hT : s.heap.get? T = some o) (hf : f1 = .bool true ∨ f1 = .bool false) (hTI : IsTupOf1 s.heap TI (.ref i1)) (st1 : St1 n1 s.heap)
    (hE : ∀ h' tk e, (∀ c o, c ≠ z → c ≠ i1 → s.heap.get? c = some o → h'.get? c = some o) → (∃ o, h'.get? e = some o ∧ o.cls = .type "StopIteration") → E (.ref e) { s with heap := h', toks := tk }) :
    wpAny (model prog w) A (Builtin.«zip.__next__» ⟨[.ref z], []⟩) Q E s := by
  obtain ⟨hp, g, d, tk0, os⟩ := s
  show wpAny _ _ (field (.ref z) 2 >>= fun _ => _) _ _ _
  refine wpAny_bind (wpAny_field hz rfl (x := .bool false) rfl ?_)
  show wpAny _ _ (field (.ref z) 3 >>= fun _ => _) _ _ _
  refine wpAny_bind (wpAny_field hz rfl (x := .ref TI) rfl (wpAny_bind (wpAny_seqItems hTI rfl ?_)))
  show wpAny _ _ (Builtin.SmallTypes.ownedTupleIsFree (.ref z) >>= fun _ => _) _ _ _
  refine wpAny_bind (notFree hz hT hf fun g0 hz0 hs0 => ?_)
  simp only [Bool.false_eq_true, if_false]
  replace hs0 : Heap.SameBut z hp g0 := hs0
  refine wpAny_bind ?_
  simp only [List.forIn_toArray, List.forIn_cons, List.forIn_nil]
  refine wpAny_bind (wpAny_bind (wpAny_holding ?_))
  show wpAny _ _ (Builtin.SmallTypes.nextOf (.ref i1) >>= fun _ => _) _ _ _
  refine wpAny_bind (D1.done ⟨g0, g, d, tk0, os⟩ _ _ (D1.over st1 hs0 a1) fun q e hq he => ?_)
  exact hE q tk0 e (fun c o c0 c1 x => hq _ _ c1 (hs0.extBut _ _ c0 x)) he
theorem znew2 {z TI TO T i1 i2 : Addr} {fp1 fp2 : List Addr} {n1 n2 i : Nat} {P1 P2 : Nat → Value → Prop} {St1 St2 : Nat → Heap → Prop} {t : Tok} {f1 : Value} {o : Obj} {Q : Value → Shared → Prop}
    (D1 : Draws prog w A i1 fp1 n1 P1 St1) (D2 : Draws prog w A i2 fp2 n2 P2 St2) (a1 : z ∉ fp1) (a2 : z ∉ fp2) (c12 : i1 ∉ fp2) (c21 : i2 ∉ fp1) (e1 : z ≠ i1) (e2 : z ≠ i2)
    (hz : ZR s.heap z TI TO (.int T t) f1) (hT : s.heap.get? T = some o) (hf : f1 = .bool true ∨ f1 = .bool false) (hTI : IsTupOf2 s.heap TI (.ref i1) (.ref i2)) (st1 : St1 i s.heap) (st2 : St2 i s.heap) (h1 : i < n1) (h2 : i < n2)
    (hQ : ∀ x1 x2 h' tk, P1 i x1 → P2 i x2 → ZR h' z TI TO (.int T t) (.bool true) → St1 (i + 1) h' → St2 (i + 1) h' → IsTupOf2 h' s.heap.objs.size x1 x2 → h'.objs.size = s.heap.objs.size + 1 →
      (∀ c o, c ≠ z → c ≠ i1 → c ≠ i2 → s.heap.get? c = some o → h'.get? c = some o) → Q (.ref s.heap.objs.size) { s with heap := h', toks := tk }) :
    wpAny (model prog w) A (Builtin.«zip.__next__» ⟨[.ref z], []⟩) (fun fin s' => ∃ v, fin = .done (.ret v) ∧ Q v s') E s := by
  obtain ⟨hp, g, d, tk0, os⟩ := s
  show wpAny _ _ (field (.ref z) 2 >>= fun _ => _) _ _ _
  refine wpAny_bind (wpAny_field hz rfl (x := .bool false) rfl ?_)
  show wpAny _ _ (field (.ref z) 3 >>= fun _ => _) _ _ _
  refine wpAny_bind (wpAny_field hz rfl (x := .ref TI) rfl (wpAny_bind (wpAny_seqItems hTI rfl ?_)))
  show wpAny _ _ (Builtin.SmallTypes.ownedTupleIsFree (.ref z) >>= fun _ => _) _ _ _
  refine wpAny_bind (notFree hz hT hf fun g0 hz0 hs0 => ?_)
  simp only [Bool.false_eq_true, if_false]
  replace hs0 : Heap.SameBut z hp g0 := hs0
  refine wpAny_bind ?_
  simp only [List.forIn_toArray, List.forIn_cons, List.forIn_nil]
  refine wpAny_bind (wpAny_bind (wpAny_holding ?_))
  show wpAny _ _ (Builtin.SmallTypes.nextOf (.ref i1) >>= fun _ => _) _ _ _
  refine wpAny_bind (D1.item i _ _ _ h1 (D1.over st1 hs0 a1) fun x1 p1 tk1 y1 sn1 hp1 => wpAny_pure ?_)
  replace hp1 : Heap.SameBut i1 g0 p1 := hp1
  refine wpAny_pure ?_
  refine wpAny_bind (wpAny_bind (wpAny_holding ?_))
  show wpAny _ _ (Builtin.SmallTypes.nextOf (.ref i2) >>= fun _ => _) _ _ _
  refine wpAny_bind (D2.item i _ _ _ h2 (D2.over (D2.over st2 hs0 a2) hp1 c12) fun x2 p2 tk2 y2 sn2 hp2 => wpAny_pure ?_)
  replace hp2 : Heap.SameBut i2 p1 p2 := hp2
  refine wpAny_pure (wpAny_pure ?_)
  show wpAny _ _ (newTuple [x1, x2] >>= fun _ => _) _ _ _
  refine wpAny_bind (wpAny_newTuple ?_)
  have hsz : p2.objs.size = hp.objs.size := by rw [hp2.1, hp1.1, hs0.1]
  have hz2 : ZR p2 z TI TO (.int T t) (.bool true) := hp2.extBut _ _ e2 (hp1.extBut _ _ e1 (hz0))
  have j1 : St1 (i + 1) p2 := D1.over (sn1) hp2 c21
  have j2 : St2 (i + 1) p2 := sn2
  refine wpAny_pure ⟨_, rfl, ?_⟩
  show Q (.ref p2.objs.size) ⟨p2.push { cls := .type "tuple", data := .seq #[x1, x2] }, g, d, tk2, os⟩
  have new : IsTupOf2 (p2.push { cls := .type "tuple", data := .seq #[x1, x2] }) p2.objs.size x1 x2 := Heap.get?_push_size _ rfl
  have nsz : (p2.push { cls := .type "tuple", data := .seq #[x1, x2] }).objs.size = p2.objs.size + 1 := Heap.size_push ..
  rw [hsz] at new nsz
  rw [hsz]
  exact hQ x1 x2 _ tk2 y1 y2 (Heap.get?_push_of_some _ hz2) (D1.frame _ _ _ j1 fun b _ o e => Heap.get?_push_of_some _ e) (D2.frame _ _ _ j2 fun b _ o e => Heap.get?_push_of_some _ e) new nsz fun c o c0 c1 c2 e => Heap.get?_push_of_some _ (hp2.extBut _ _ c2 (hp1.extBut _ _ c1 (hs0.extBut _ _ c0 e)))
theorem zend2 {z TI TO T i1 i2 : Addr} {fp1 : List Addr} {n1 : Nat} {P1 : Nat → Value → Prop} {St1 : Nat → Heap → Prop} {t : Tok} {f1 : Value} {o : Obj} {Q : Fin → Shared → Prop}
    (D1 : Draws prog w A i1 fp1 n1 P1 St1) (a1 : z ∉ fp1)
    (hz : ZR s.heap z TI TO (.int T t) f1) (hT : s.heap.get? T = some o) (hf : f1 = .bool true ∨ f1 = .bool false) (hTI : IsTupOf2 s.heap TI (.ref i1) (.ref i2)) (st1 : St1 n1 s.heap)
    (hE : ∀ h' tk e, (∀ c o, c ≠ z → c ≠ i1 → s.heap.get? c = some o → h'.get? c = some o) → (∃ o, h'.get? e = some o ∧ o.cls = .type "StopIteration") → E (.ref e) { s with heap := h', toks := tk }) :
    wpAny (model prog w) A (Builtin.«zip.__next__» ⟨[.ref z], []⟩) Q E s := by
  obtain ⟨hp, g, d, tk0, os⟩ := s
  show wpAny _ _ (field (.ref z) 2 >>= fun _ => _) _ _ _
  refine wpAny_bind (wpAny_field hz rfl (x := .bool false) rfl ?_)
  show wpAny _ _ (field (.ref z) 3 >>= fun _ => _) _ _ _
  refine wpAny_bind (wpAny_field hz rfl (x := .ref TI) rfl (wpAny_bind (wpAny_seqItems hTI rfl ?_)))
  show wpAny _ _ (Builtin.SmallTypes.ownedTupleIsFree (.ref z) >>= fun _ => _) _ _ _
  refine wpAny_bind (notFree hz hT hf fun g0 hz0 hs0 => ?_)
  simp only [Bool.false_eq_true, if_false]
  replace hs0 : Heap.SameBut z hp g0 := hs0
  refine wpAny_bind ?_
  simp only [List.forIn_toArray, List.forIn_cons, List.forIn_nil]
  refine wpAny_bind (wpAny_bind (wpAny_holding ?_))
  show wpAny _ _ (Builtin.SmallTypes.nextOf (.ref i1) >>= fun _ => _) _ _ _
  refine wpAny_bind (D1.done ⟨g0, g, d, tk0, os⟩ _ _ (D1.over st1 hs0 a1) fun q e hq he => ?_)
  exact hE q tk0 e (fun c o c0 c1 x => hq _ _ c1 (hs0.extBut _ _ c0 x)) he
theorem znew3 {z TI TO T i1 i2 i3 : Addr} {fp1 fp2 fp3 : List Addr} {n1 n2 n3 i : Nat} {P1 P2 P3 : Nat → Value → Prop} {St1 St2 St3 : Nat → Heap → Prop} {t : Tok} {f1 : Value} {o : Obj} {Q : Value → Shared → Prop}
    (D1 : Draws prog w A i1 fp1 n1 P1 St1) (D2 : Draws prog w A i2 fp2 n2 P2 St2) (D3 : Draws prog w A i3 fp3 n3 P3 St3) (a1 : z ∉ fp1) (a2 : z ∉ fp2) (a3 : z ∉ fp3) (c12 : i1 ∉ fp2) (c13 : i1 ∉ fp3) (c21 : i2 ∉ fp1) (c23 : i2 ∉ fp3) (c31 : i3 ∉ fp1) (c32 : i3 ∉ fp2) (e1 : z ≠ i1) (e2 : z ≠ i2) (e3 : z ≠ i3)
    (hz : ZR s.heap z TI TO (.int T t) f1) (hT : s.heap.get? T = some o) (hf : f1 = .bool true ∨ f1 = .bool false) (hTI : IsTupOf3 s.heap TI (.ref i1) (.ref i2) (.ref i3)) (st1 : St1 i s.heap) (st2 : St2 i s.heap) (st3 : St3 i s.heap) (h1 : i < n1) (h2 : i < n2) (h3 : i < n3)
    (hQ : ∀ x1 x2 x3 h' tk, P1 i x1 → P2 i x2 → P3 i x3 → ZR h' z TI TO (.int T t) (.bool true) → St1 (i + 1) h' → St2 (i + 1) h' → St3 (i + 1) h' → IsTupOf3 h' s.heap.objs.size x1 x2 x3 → h'.objs.size = s.heap.objs.size + 1 →
      (∀ c o, c ≠ z → c ≠ i1 → c ≠ i2 → c ≠ i3 → s.heap.get? c = some o → h'.get? c = some o) → Q (.ref s.heap.objs.size) { s with heap := h', toks := tk }) :
    wpAny (model prog w) A (Builtin.«zip.__next__» ⟨[.ref z], []⟩) (fun fin s' => ∃ v, fin = .done (.ret v) ∧ Q v s') E s := by
  obtain ⟨hp, g, d, tk0, os⟩ := s
  show wpAny _ _ (field (.ref z) 2 >>= fun _ => _) _ _ _
  refine wpAny_bind (wpAny_field hz rfl (x := .bool false) rfl ?_)
  show wpAny _ _ (field (.ref z) 3 >>= fun _ => _) _ _ _
  refine wpAny_bind (wpAny_field hz rfl (x := .ref TI) rfl (wpAny_bind (wpAny_seqItems hTI rfl ?_)))
  show wpAny _ _ (Builtin.SmallTypes.ownedTupleIsFree (.ref z) >>= fun _ => _) _ _ _
  refine wpAny_bind (notFree hz hT hf fun g0 hz0 hs0 => ?_)
  simp only [Bool.false_eq_true, if_false]
  replace hs0 : Heap.SameBut z hp g0 := hs0
  refine wpAny_bind ?_
  simp only [List.forIn_toArray, List.forIn_cons, List.forIn_nil]
  refine wpAny_bind (wpAny_bind (wpAny_holding ?_))
  show wpAny _ _ (Builtin.SmallTypes.nextOf (.ref i1) >>= fun _ => _) _ _ _
  refine wpAny_bind (D1.item i _ _ _ h1 (D1.over st1 hs0 a1) fun x1 p1 tk1 y1 sn1 hp1 => wpAny_pure ?_)
  replace hp1 : Heap.SameBut i1 g0 p1 := hp1
  refine wpAny_pure ?_
  refine wpAny_bind (wpAny_bind (wpAny_holding ?_))
  show wpAny _ _ (Builtin.SmallTypes.nextOf (.ref i2) >>= fun _ => _) _ _ _
  refine wpAny_bind (D2.item i _ _ _ h2 (D2.over (D2.over st2 hs0 a2) hp1 c12) fun x2 p2 tk2 y2 sn2 hp2 => wpAny_pure ?_)
  replace hp2 : Heap.SameBut i2 p1 p2 := hp2
  refine wpAny_pure ?_
  refine wpAny_bind (wpAny_bind (wpAny_holding ?_))
  show wpAny _ _ (Builtin.SmallTypes.nextOf (.ref i3) >>= fun _ => _) _ _ _
  refine wpAny_bind (D3.item i _ _ _ h3 (D3.over (D3.over (D3.over st3 hs0 a3) hp1 c13) hp2 c23) fun x3 p3 tk3 y3 sn3 hp3 => wpAny_pure ?_)
  replace hp3 : Heap.SameBut i3 p2 p3 := hp3
  refine wpAny_pure (wpAny_pure ?_)
  show wpAny _ _ (newTuple [x1, x2, x3] >>= fun _ => _) _ _ _
  refine wpAny_bind (wpAny_newTuple ?_)
  have hsz : p3.objs.size = hp.objs.size := by rw [hp3.1, hp2.1, hp1.1, hs0.1]
  have hz2 : ZR p3 z TI TO (.int T t) (.bool true) := hp3.extBut _ _ e3 (hp2.extBut _ _ e2 (hp1.extBut _ _ e1 (hz0)))
  have j1 : St1 (i + 1) p3 := D1.over (D1.over (sn1) hp2 c21) hp3 c31
  have j2 : St2 (i + 1) p3 := D2.over (sn2) hp3 c32
  have j3 : St3 (i + 1) p3 := sn3
  refine wpAny_pure ⟨_, rfl, ?_⟩
  show Q (.ref p3.objs.size) ⟨p3.push { cls := .type "tuple", data := .seq #[x1, x2, x3] }, g, d, tk3, os⟩
  have new : IsTupOf3 (p3.push { cls := .type "tuple", data := .seq #[x1, x2, x3] }) p3.objs.size x1 x2 x3 := Heap.get?_push_size _ rfl
  have nsz : (p3.push { cls := .type "tuple", data := .seq #[x1, x2, x3] }).objs.size = p3.objs.size + 1 := Heap.size_push ..
  rw [hsz] at new nsz
  rw [hsz]
  exact hQ x1 x2 x3 _ tk3 y1 y2 y3 (Heap.get?_push_of_some _ hz2) (D1.frame _ _ _ j1 fun b _ o e => Heap.get?_push_of_some _ e) (D2.frame _ _ _ j2 fun b _ o e => Heap.get?_push_of_some _ e) (D3.frame _ _ _ j3 fun b _ o e => Heap.get?_push_of_some _ e) new nsz fun c o c0 c1 c2 c3 e => Heap.get?_push_of_some _ (hp3.extBut _ _ c3 (hp2.extBut _ _ c2 (hp1.extBut _ _ c1 (hs0.extBut _ _ c0 e))))
theorem zend3 {z TI TO T i1 i2 i3 : Addr} {fp1 : List Addr} {n1 : Nat} {P1 : Nat → Value → Prop} {St1 : Nat → Heap → Prop} {t : Tok} {f1 : Value} {o : Obj} {Q : Fin → Shared → Prop}
    (D1 : Draws prog w A i1 fp1 n1 P1 St1) (a1 : z ∉ fp1)
    (hz : ZR s.heap z TI TO (.int T t) f1) (hT : s.heap.get? T = some o) (hf : f1 = .bool true ∨ f1 = .bool false) (hTI : IsTupOf3 s.heap TI (.ref i1) (.ref i2) (.ref i3)) (st1 : St1 n1 s.heap)
    (hE : ∀ h' tk e, (∀ c o, c ≠ z → c ≠ i1 → s.heap.get? c = some o → h'.get? c = some o) → (∃ o, h'.get? e = some o ∧ o.cls = .type "StopIteration") → E (.ref e) { s with heap := h', toks := tk }) :
    wpAny (model prog w) A (Builtin.«zip.__next__» ⟨[.ref z], []⟩) Q E s := by
  obtain ⟨hp, g, d, tk0, os⟩ := s
  show wpAny _ _ (field (.ref z) 2 >>= fun _ => _) _ _ _
  refine wpAny_bind (wpAny_field hz rfl (x := .bool false) rfl ?_)
  show wpAny _ _ (field (.ref z) 3 >>= fun _ => _) _ _ _
  refine wpAny_bind (wpAny_field hz rfl (x := .ref TI) rfl (wpAny_bind (wpAny_seqItems hTI rfl ?_)))
  show wpAny _ _ (Builtin.SmallTypes.ownedTupleIsFree (.ref z) >>= fun _ => _) _ _ _
  refine wpAny_bind (notFree hz hT hf fun g0 hz0 hs0 => ?_)
  simp only [Bool.false_eq_true, if_false]
  replace hs0 : Heap.SameBut z hp g0 := hs0
  refine wpAny_bind ?_
  simp only [List.forIn_toArray, List.forIn_cons, List.forIn_nil]
  refine wpAny_bind (wpAny_bind (wpAny_holding ?_))
  show wpAny _ _ (Builtin.SmallTypes.nextOf (.ref i1) >>= fun _ => _) _ _ _
  refine wpAny_bind (D1.done ⟨g0, g, d, tk0, os⟩ _ _ (D1.over st1 hs0 a1) fun q e hq he => ?_)
  exact hE q tk0 e (fun c o c0 c1 x => hq _ _ c1 (hs0.extBut _ _ c0 x)) he
theorem zown1 {z TI TO i1 : Addr} {fp1 : List Addr} {n1 i : Nat} {P1 : Nat → Value → Prop} {St1 : Nat → Heap → Prop} {w1 : Value} {Q : Value → Shared → Prop}
    (D1 : Draws prog w A i1 fp1 n1 P1 St1) (a1 : z ∉ fp1) (b1 : TO ∉ fp1) (e1 : z ≠ i1) (e2 : TO ≠ i1) (e3 : TO ≠ z)
    (hz : IsZip s.heap z TI TO .none) (hTI : IsTupOf1 s.heap TI (.ref i1)) (hTO : IsTupOf1 s.heap TO w1) (st1 : St1 i s.heap) (h1 : i < n1)
    (hQ : ∀ x1 h' tk, P1 i x1 → IsZip h' z TI TO (rawInt s.heap.objs.size) → IsTupOf1 h' TO x1 → St1 (i + 1) h' → IsTupOf1 h' s.heap.objs.size x1 → h'.objs.size = s.heap.objs.size + 1 →
      (∀ c o, c ≠ z → c ≠ TO → c ≠ i1 → s.heap.get? c = some o → h'.get? c = some o) → Q (.ref s.heap.objs.size) { s with heap := h', toks := tk }) :
    wpAny (model prog w) A (Builtin.«zip.__next__» ⟨[.ref z], []⟩) (fun fin s' => ∃ v, fin = .done (.ret v) ∧ Q v s') E s := by
  obtain ⟨hp, g, d, tk0, os⟩ := s
  show wpAny _ _ (field (.ref z) 2 >>= fun _ => _) _ _ _
  refine wpAny_bind (wpAny_field hz rfl (x := .bool false) rfl ?_)
  show wpAny _ _ (field (.ref z) 3 >>= fun _ => _) _ _ _
  refine wpAny_bind (wpAny_field hz rfl (x := .ref TI) rfl (wpAny_bind (wpAny_seqItems hTI rfl ?_)))
  show wpAny _ _ (Builtin.SmallTypes.ownedTupleIsFree (.ref z) >>= fun _ => _) _ _ _
  refine wpAny_bind ?_
  unfold Builtin.SmallTypes.ownedTupleIsFree
  refine wpAny_bind (wpAny_field hz rfl (x := .none) rfl (wpAny_pure ?_))
  simp only [if_true]
  refine wpAny_bind (wpAny_rule (wpAny_bind (wpAny_field hz rfl (x := .ref TO) rfl ?_)))
  refine wpAny_bind (wpAny_setField_rec hz (by simp) fun q0 hz0 hs0 => ?_)
  replace hz0 : IsZip q0 z TI TO .ellipsis := hz0
  replace hs0 : Heap.SameBut z hp q0 := hs0
  refine wpAny_bind ?_
  simp only [List.zipIdx_cons, List.zipIdx_nil, List.forIn_cons, List.forIn_nil]
  refine wpAny_bind (wpAny_bind (wpAny_onRaise ?_))
  show wpAny _ _ (Builtin.SmallTypes.nextOf (.ref i1) >>= fun _ => _) _ _ _
  refine wpAny_bind (D1.item i _ _ _ h1 (D1.over st1 hs0 a1) fun x1 p1 tk1 y1 sn1 hp1 => wpAny_pure ?_)
  replace hp1 : Heap.SameBut i1 q0 p1 := hp1
  have hU : IsTupOf1 p1 TO w1 := hp1.extBut _ _ e2 (hs0.extBut _ _ e3 hTO)
  refine wpAny_bind (wpAny_seqItems hU rfl ?_)
  refine wpAny_bind (wpAny_updateSeq hU rfl ?_)
  have hT1 : IsTupOf1 (p1.update TO (Obj.mapSeq (·.setIfInBounds 0 x1))) TO x1 := Heap.get?_update_self _ hU rfl
  have hs1 : Heap.SameBut TO p1 (p1.update TO (Obj.mapSeq (·.setIfInBounds 0 x1))) := Heap.SameBut.update ..
  generalize p1.update TO (Obj.mapSeq (·.setIfInBounds 0 x1)) = g1 at hT1 hs1
  refine wpAny_bind (wpAny_letGo (wpAny_pure (wpAny_pure ?_)))
  refine wpAny_bind (wpAny_seqItems hT1 rfl (wpAny_bind (wpAny_newTuple ?_)))
  have hsz : g1.objs.size = hp.objs.size := by rw [hs1.1, hp1.1, hs0.1]
  have hzz : IsZip g1 z TI TO .ellipsis := hs1.extBut _ _ e3.symm (hp1.extBut _ _ e1 hz0)
  have hzlt : z < g1.objs.size := Heap.lt_size hzz
  have j1 : St1 (i + 1) g1 := D1.over sn1 hs1 b1
  show wpAny _ _ (Builtin.SmallTypes.ownedTupleHandOut (.ref z) (.ref g1.objs.size) >>= fun _ => _) _ _ ⟨g1.push { cls := .type "tuple", data := .seq #[x1] }, g, d, tk1, os⟩
  refine wpAny_bind ?_
  unfold Builtin.SmallTypes.ownedTupleHandOut
  have hz6 : IsZip (g1.push { cls := .type "tuple", data := .seq #[x1] }) z TI TO .ellipsis := Heap.get?_push_of_some _ hzz
  refine wpAny_bind (wpAny_setField_rec hz6 (by simp) fun q7 hz7 hs7 => ?_)
  replace hz7 : IsZip q7 z TI TO (rawInt g1.objs.size) := hz7
  refine wpAny_setField_rec hz7 (by simp) fun q8 hz8 hs8 => ?_
  replace hz8 : IsZip q8 z TI TO (rawInt g1.objs.size) := hz8
  replace hs7 : Heap.SameBut z (g1.push { cls := .type "tuple", data := .seq #[x1] }) q7 := hs7
  replace hs8 : Heap.SameBut z q7 q8 := hs8
  have up : ∀ c o, c ≠ z → g1.get? c = some o → q8.get? c = some o := fun c o c1 e => hs8.extBut _ _ c1 (hs7.extBut _ _ c1 (Heap.get?_push_of_some _ e))
  have hT8 : IsTupOf1 q8 g1.objs.size x1 := hs8.extBut _ _ (Nat.ne_of_gt hzlt) (hs7.extBut _ _ (Nat.ne_of_gt hzlt) (Heap.get?_push_size _ rfl))
  have hz9 : q8.objs.size = g1.objs.size + 1 := by rw [hs8.1, hs7.1, Heap.size_push]
  rw [hsz] at hz8 hT8 hz9
  refine wpAny_pure ⟨_, rfl, ?_⟩
  show Q (.ref g1.objs.size) ⟨q8, g, d, tk1, os⟩
  rw [hsz]
  exact hQ x1 q8 tk1 y1 hz8 (up _ _ e3 hT1) (D1.frame _ _ _ j1 fun b hb o e => up b o (fun q => a1 (q ▸ hb)) e) hT8 hz9 fun c o c0 c1 c2 e => up c o c0 (hs1.extBut _ _ c1 (hp1.extBut _ _ c2 (hs0.extBut _ _ c0 e)))
end
end EvZ
end PySem
end

section
set_option Elab.async false
set_option linter.all false
set_option maxRecDepth 100000
set_option maxHeartbeats 4000000
/-! E21b: one zip as a list sees it -/
namespace PySem
namespace EvZ
open Sem (wp)
theorem typeCall_zip1 (a : Value) : checkTypeCall "zip" ⟨[a], []⟩ = pure () := by kernel_rfl
theorem newCall_zip1 (a : Value) : checkBuiltinCall "zip.__new__" ⟨[.type "zip", a], []⟩ = pure () := by kernel_rfl
abbrev yT (h : Heap) (o1 : Obj) : Heap := (h.push o1).push { cls := .type "tuple", data := .seq #[.ref h.objs.size] }
abbrev yO (h : Heap) (o1 : Obj) : Heap := (yT h o1).push { cls := .type "tuple", data := .seq #[.none] }
abbrev yZ (h : Heap) (o1 : Obj) : Heap := (yO h o1).push { cls := .type "zip", data := .fields #[.none, .bool false, .bool false, .ref (h.push o1).objs.size, .ref (yT h o1).objs.size] }
theorem meets_zip1 {v1 : Value} {o1 : Obj} {H1 : Heap → Prop} (B1 : Begins v1 o1 H1) :
    Meets (Builtin.«zip.__new__» ⟨[.type "zip", v1], []⟩) (fun _ R s => H1 s.heap ∧ R (.ok (.ret (.ref (yO s.heap o1).objs.size))) { s with heap := yZ s.heap o1 }) :=
  .of_wp fun prog w A R s h => by
    obtain ⟨hp, g, d, tk, os⟩ := s; obtain ⟨h1, h⟩ := h
    have hsub := sub_zip
    have q1 : ∀ {A' : Around} {E : Value → Shared → Prop} {Q : Value → Shared → Prop}, Q (.ref hp.objs.size) ⟨hp.push o1, g, d, tk, os⟩ → wpAny (model prog w) A' (pyIter v1) Q E ⟨hp, g, d, tk, os⟩ := fun q => B1.iter prog w _ _ ⟨hp, g, d, tk, os⟩ _ h1 q
    wp_walk using q1
    exact ⟨_, rfl, h⟩
section
variable {prog : Program} {w : World} {A : Around} {E : Value → Shared → Prop} {s : Shared}
theorem zip_begins1 {v1 : Value} {o1 : Obj} {H1 : Heap → Prop} {Q : Value → Shared → Prop} (B1 : Begins v1 o1 H1) (h1 : H1 s.heap)
    (h : ∀ h', IsZip h' (s.heap.objs.size + 3) (s.heap.objs.size + 1) (s.heap.objs.size + 2) .none → IsTupOf1 h' (s.heap.objs.size + 1) (.ref s.heap.objs.size) → IsTupOf1 h' (s.heap.objs.size + 2) .none → h'.get? s.heap.objs.size = some o1 → h'.objs.size = s.heap.objs.size + 4 →
      (∀ c o, s.heap.get? c = some o → h'.get? c = some o) → Q (.ref (s.heap.objs.size + 3)) { s with heap := h' }) : wpAny (model prog w) A (call (.type "zip") [v1]) Q E s := by
  refine callType_new F.called_zip (by decide) (typeCall_zip1 _) (newCall_zip1 _) (fun obj => F.args_object_init_2 obj _) F.entry_zip_new (meets_zip1 B1) ⟨h1, ?_⟩
  have z1 : (s.heap.push o1).objs.size = s.heap.objs.size + 1 := Heap.size_push ..
  have zT : (yT s.heap o1).objs.size = s.heap.objs.size + 2 := by rw [Heap.size_push, z1]
  have zO : (yO s.heap o1).objs.size = s.heap.objs.size + 3 := by rw [Heap.size_push, zT]
  have zZ : (yZ s.heap o1).objs.size = s.heap.objs.size + 4 := by rw [Heap.size_push, zO]
  have gZ : (yZ s.heap o1).get? (yO s.heap o1).objs.size = some _ := Heap.get?_push_size _ rfl
  have gO : (yZ s.heap o1).get? (yT s.heap o1).objs.size = some _ := Heap.get?_push_of_some _ (Heap.get?_push_size _ rfl)
  have gT : (yZ s.heap o1).get? (s.heap.push o1).objs.size = some _ := Heap.get?_push_of_some _ (Heap.get?_push_of_some _ (Heap.get?_push_size _ rfl))
  have g1 : (yZ s.heap o1).get? s.heap.objs.size = some o1 := Heap.get?_push_of_some _ (Heap.get?_push_of_some _ (Heap.get?_push_of_some _ (Heap.get?_push_size _ B1.free)))
  rw [zO, zT, z1] at gZ
  rw [zT] at gO
  rw [z1] at gT
  show _ ∧ _
  rw [zO]
  exact ⟨⟨_, gZ, rfl⟩, h _ gZ gT gO g1 zZ fun c o e => Heap.get?_push_of_some _ (Heap.get?_push_of_some _ (Heap.get?_push_of_some _ (Heap.get?_push_of_some _ e)))⟩
end
theorem zne {a b : Nat} (h : a ≠ b) : @Ne Addr a b := h
theorem znm {a b c : Nat} (h1 : a ≠ b) (h2 : a ≠ c) : ¬ @Membership.mem Addr (List Addr) _ [b, c] a := by
  simp only [List.mem_cons, List.not_mem_nil, or_false, not_or]
  exact ⟨h1, h2⟩
/-- a zip's record and what it draws from -/
structure ZK (prog : Program) (w : World) (z TI TO : Addr) (ch fp : List Addr) (n : Nat) (Pt : Nat → Array Value → Prop) (Si : Nat → Heap → Prop) : Prop where
  keep : ∀ i h h', Si i h → (∀ b ∈ fp, ∀ o, h.get? b = some o → h'.get? b = some o) → Si i h'
  own : ∀ (A : Around) (E : Value → Shared → Prop) (s : Shared) (i : Nat) (Q : Option Value → Shared → Prop), A.handled = none → i < n → IsZip s.heap z TI TO .none → Si i s.heap →
    (∀ vals h' tk, Pt i vals → IsZip h' z TI TO (rawInt s.heap.objs.size) → Si (i + 1) h' → h'.get? s.heap.objs.size = some { cls := .type "tuple", data := .seq vals } → h'.objs.size = s.heap.objs.size + 1 →
      (∀ c o, c ∉ ch → s.heap.get? c = some o → h'.get? c = some o) → Q (some (.ref s.heap.objs.size)) { s with heap := h', toks := tk }) → wpAny (model prog w) A (pyNext (.ref z)) Q E s
  new : ∀ (A : Around) (E : Value → Shared → Prop) (s : Shared) (i : Nat) (T : Addr) (t : Tok) (f1 : Value) (o : Obj) (Q : Option Value → Shared → Prop), A.handled = none → i < n → ZR s.heap z TI TO (.int T t) f1 → s.heap.get? T = some o → f1 = .bool true ∨ f1 = .bool false → Si i s.heap →
    (∀ vals h' tk, Pt i vals → ZR h' z TI TO (.int T t) (.bool true) → Si (i + 1) h' → h'.get? s.heap.objs.size = some { cls := .type "tuple", data := .seq vals } → h'.objs.size = s.heap.objs.size + 1 →
      (∀ c o, c ∉ ch → s.heap.get? c = some o → h'.get? c = some o) → Q (some (.ref s.heap.objs.size)) { s with heap := h', toks := tk }) → wpAny (model prog w) A (pyNext (.ref z)) Q E s
  fin : ∀ (A : Around) (E : Value → Shared → Prop) (s : Shared) (T : Addr) (t : Tok) (f1 : Value) (o : Obj) (Q : Option Value → Shared → Prop), A.handled = none → ZR s.heap z TI TO (.int T t) f1 → s.heap.get? T = some o → f1 = .bool true ∨ f1 = .bool false → Si n s.heap →
    (∀ h' tk, (∀ c o, c ∉ ch → s.heap.get? c = some o → h'.get? c = some o) → Q none { s with heap := h', toks := tk }) → wpAny (model prog w) A (pyNext (.ref z)) Q E s

theorem zk1 {prog : Program} {w : World} {b l1 : Nat} {xs1 : Array Value} {n : Nat} (hl1 : l1 < b) (hn1 : xs1.size = n) : ZK prog w (b + 3) (b + 1) (b + 2) [(b + 3), (b + 2), b] [(b + 1), (b + 2), b, l1] n
    (fun i vals => ∃ v1, xs1[i]? = some v1 ∧ vals = #[v1])
    (fun i h => IsTupOf1 h (b + 1) (.ref b) ∧ (∃ u1, IsTupOf1 h (b + 2) u1) ∧ (h.IsTupleIter b l1 i ∧ h.IsTuple l1 xs1)) where
  keep := fun i h h' ⟨hTI, ⟨u1, hTO⟩, st1⟩ hk => ⟨hk (b + 1) (by simp) _ hTI, ⟨u1, hk (b + 2) (by simp) _ hTO⟩, ⟨st1.1.at fun o e => hk b (by simp) o e, by obtain ⟨o, q1, q2⟩ := st1.2; exact ⟨o, hk l1 (by simp) o q1, q2⟩⟩⟩
  own := fun A E s i Q hh hi hz ⟨hTI, ⟨u1, hTO⟩, st1⟩ hQ => by
    have hT : s.TypeIs (.ref (b + 3)) "zip" := ⟨_, hz, rfl⟩
    unfold pyNext
    exact wpAny_bind (wpAny_attempt (wpAny_callSpecial?_slot (name := Str.ofString "__next__") hT F.slot_zip_next (wpAny_call_entry F.slot_zip_next hT F.entry_zip_next (zown1 (EvX.draws_tuple (prog := prog) (w := w) (A := A.in1) hh b l1 (zne (by omega)) xs1) (znm (by omega) (by omega)) (znm (by omega) (by omega)) (zne (by omega)) (zne (by omega)) (zne (by omega)) hz hTI hTO st1 (by omega) fun x1 h' tk y1 r1 r2 d1 r3 r4 hk => wpAny_pure (hQ #[x1] h' tk ⟨x1, y1, rfl⟩ r1 ⟨hk _ _ (zne (by omega)) (zne (by omega)) (zne (by omega)) hTI, ⟨_, r2⟩, d1⟩ r3 r4 (fun c o hc e => hk c o (fun x => hc (by simp [x])) (fun x => hc (by simp [x])) (fun x => hc (by simp [x])) e))) (F.args_zip_next_1 _))))
  new := fun A E s i T t f1 o Q hh hi hz hT0 hf ⟨hTI, ⟨u1, hTO⟩, st1⟩ hQ => by
    have hT : s.TypeIs (.ref (b + 3)) "zip" := ⟨_, hz, rfl⟩
    unfold pyNext
    exact wpAny_bind (wpAny_attempt (wpAny_callSpecial?_slot (name := Str.ofString "__next__") hT F.slot_zip_next (wpAny_call_entry F.slot_zip_next hT F.entry_zip_next (znew1 (EvX.draws_tuple (prog := prog) (w := w) (A := A.in1) hh b l1 (zne (by omega)) xs1) (znm (by omega) (by omega))  (zne (by omega)) hz hT0 hf hTI st1 (by omega) fun x1 h' tk y1 r1 d1 r3 r4 hk => wpAny_pure (hQ #[x1] h' tk ⟨x1, y1, rfl⟩ r1 ⟨hk _ _ (zne (by omega)) (zne (by omega)) hTI, ⟨u1, hk _ _ (zne (by omega)) (zne (by omega)) hTO⟩, d1⟩ r3 r4 (fun c o hc e => hk c o (fun x => hc (by simp [x])) (fun x => hc (by simp [x])) e))) (F.args_zip_next_1 _))))
  fin := fun A E s T t f1 o Q hh hz hT0 hf ⟨hTI, ⟨u1, hTO⟩, st1⟩ hQ => by
    have hT : s.TypeIs (.ref (b + 3)) "zip" := ⟨_, hz, rfl⟩
    unfold pyNext
    refine wpAny_bind (wpAny_attempt (wpAny_callSpecial?_slot (name := Str.ofString "__next__") hT F.slot_zip_next (wpAny_call_entry F.slot_zip_next hT F.entry_zip_next (zend1 (EvX.draws_tuple (prog := prog) (w := w) (A := A.in1) hh b l1 (zne (by omega)) xs1) (znm (by omega) (by omega)) hz hT0 hf hTI (by rw [hn1]; exact st1) fun h' tk e hk he => ?_) (F.args_zip_next_1 _))))
    obtain ⟨o, ho, hc⟩ := he
    refine wpAny_bind (wpAny_isInstance (T := "StopIteration") (b := true) ⟨o, ho, hc⟩ isSubtype_stop (wpAny_pure (hQ _ _ fun c o hc e => hk c o (fun x => hc (by simp [x])) (fun x => hc (by simp [x])) e)))
theorem zk2 {prog : Program} {w : World} {b l1 l2 : Nat} {xs1 xs2 : Array Value} {n : Nat} (hl1 : l1 < b) (hl2 : l2 < b) (hn1 : xs1.size = n) (hn2 : xs2.size = n) : ZK prog w (b + 4) (b + 2) (b + 3) [(b + 4), (b + 3), b, (b + 1)] [(b + 2), (b + 3), b, (b + 1), l1, l2] n
    (fun i vals => ∃ v1 v2, xs1[i]? = some v1 ∧ xs2[i]? = some v2 ∧ vals = #[v1, v2])
    (fun i h => IsTupOf2 h (b + 2) (.ref b) (.ref (b + 1)) ∧ (∃ u1 u2, IsTupOf2 h (b + 3) u1 u2) ∧ (h.IsTupleIter b l1 i ∧ h.IsTuple l1 xs1) ∧ (h.IsTupleIter (b + 1) l2 i ∧ h.IsTuple l2 xs2)) where
  keep := fun i h h' ⟨hTI, ⟨u1, u2, hTO⟩, st1, st2⟩ hk => ⟨hk (b + 2) (by simp) _ hTI, ⟨u1, u2, hk (b + 3) (by simp) _ hTO⟩, ⟨st1.1.at fun o e => hk b (by simp) o e, by obtain ⟨o, q1, q2⟩ := st1.2; exact ⟨o, hk l1 (by simp) o q1, q2⟩⟩, ⟨st2.1.at fun o e => hk (b + 1) (by simp) o e, by obtain ⟨o, q1, q2⟩ := st2.2; exact ⟨o, hk l2 (by simp) o q1, q2⟩⟩⟩
  own := fun A E s i Q hh hi hz ⟨hTI, ⟨u1, u2, hTO⟩, st1, st2⟩ hQ => by
    have hT : s.TypeIs (.ref (b + 4)) "zip" := ⟨_, hz, rfl⟩
    exact wpAny_pyNext_zipD2_item (E := E) (Q := Q) ⟨(zne (by omega)), (zne (by omega)), (zne (by omega)), (zne (by omega)), by simp, (znm (by omega) (by omega)), (znm (by omega) (by omega)), (zne (by omega)), by simp, (znm (by omega) (by omega)), (znm (by omega) (by omega)), (znm (by omega) (by omega)), (znm (by omega) (by omega))⟩ (EvX.draws_tuple (prog := prog) (w := w) (A := A.in1) hh b l1 (zne (by omega)) xs1) (EvX.draws_tuple (prog := prog) (w := w) (A := A.in1) hh (b + 1) l2 (zne (by omega)) xs2) hz hTI hTO st1 st2 (by omega) (by omega) fun x1 x2 h' tk y1 y2 r1 r2 d1 d2 r3 r4 hk => hQ #[x1, x2] h' tk ⟨x1, x2, y1, y2, rfl⟩ r1 ⟨hk _ _ (zne (by omega)) (zne (by omega)) (zne (by omega)) (zne (by omega)) hTI, ⟨_, _, r2⟩, d1, d2⟩ r3 r4 (fun c o hc e => hk c o (fun x => hc (by simp [x])) (fun x => hc (by simp [x])) (fun x => hc (by simp [x])) (fun x => hc (by simp [x])) e)
  new := fun A E s i T t f1 o Q hh hi hz hT0 hf ⟨hTI, ⟨u1, u2, hTO⟩, st1, st2⟩ hQ => by
    have hT : s.TypeIs (.ref (b + 4)) "zip" := ⟨_, hz, rfl⟩
    unfold pyNext
    exact wpAny_bind (wpAny_attempt (wpAny_callSpecial?_slot (name := Str.ofString "__next__") hT F.slot_zip_next (wpAny_call_entry F.slot_zip_next hT F.entry_zip_next (znew2 (EvX.draws_tuple (prog := prog) (w := w) (A := A.in1) hh b l1 (zne (by omega)) xs1) (EvX.draws_tuple (prog := prog) (w := w) (A := A.in1) hh (b + 1) l2 (zne (by omega)) xs2) (znm (by omega) (by omega)) (znm (by omega) (by omega)) (znm (by omega) (by omega)) (znm (by omega) (by omega)) (zne (by omega)) (zne (by omega)) hz hT0 hf hTI st1 st2 (by omega) (by omega) fun x1 x2 h' tk y1 y2 r1 d1 d2 r3 r4 hk => wpAny_pure (hQ #[x1, x2] h' tk ⟨x1, x2, y1, y2, rfl⟩ r1 ⟨hk _ _ (zne (by omega)) (zne (by omega)) (zne (by omega)) hTI, ⟨u1, u2, hk _ _ (zne (by omega)) (zne (by omega)) (zne (by omega)) hTO⟩, d1, d2⟩ r3 r4 (fun c o hc e => hk c o (fun x => hc (by simp [x])) (fun x => hc (by simp [x])) (fun x => hc (by simp [x])) e))) (F.args_zip_next_1 _))))
  fin := fun A E s T t f1 o Q hh hz hT0 hf ⟨hTI, ⟨u1, u2, hTO⟩, st1, st2⟩ hQ => by
    have hT : s.TypeIs (.ref (b + 4)) "zip" := ⟨_, hz, rfl⟩
    unfold pyNext
    refine wpAny_bind (wpAny_attempt (wpAny_callSpecial?_slot (name := Str.ofString "__next__") hT F.slot_zip_next (wpAny_call_entry F.slot_zip_next hT F.entry_zip_next (zend2 (EvX.draws_tuple (prog := prog) (w := w) (A := A.in1) hh b l1 (zne (by omega)) xs1) (znm (by omega) (by omega)) hz hT0 hf hTI (by rw [hn1]; exact st1) fun h' tk e hk he => ?_) (F.args_zip_next_1 _))))
    obtain ⟨o, ho, hc⟩ := he
    refine wpAny_bind (wpAny_isInstance (T := "StopIteration") (b := true) ⟨o, ho, hc⟩ isSubtype_stop (wpAny_pure (hQ _ _ fun c o hc e => hk c o (fun x => hc (by simp [x])) (fun x => hc (by simp [x])) e)))
theorem zk3 {prog : Program} {w : World} {b l1 l2 l3 : Nat} {xs1 xs2 xs3 : Array Value} {n : Nat} (hl1 : l1 < b) (hl2 : l2 < b) (hl3 : l3 < b) (hn1 : xs1.size = n) (hn2 : xs2.size = n) (hn3 : xs3.size = n) : ZK prog w (b + 5) (b + 3) (b + 4) [(b + 5), (b + 4), b, (b + 1), (b + 2)] [(b + 3), (b + 4), b, (b + 1), (b + 2), l1, l2, l3] n
    (fun i vals => ∃ v1 v2 v3, xs1[i]? = some v1 ∧ xs2[i]? = some v2 ∧ xs3[i]? = some v3 ∧ vals = #[v1, v2, v3])
    (fun i h => IsTupOf3 h (b + 3) (.ref b) (.ref (b + 1)) (.ref (b + 2)) ∧ (∃ u1 u2 u3, IsTupOf3 h (b + 4) u1 u2 u3) ∧ (h.IsTupleIter b l1 i ∧ h.IsTuple l1 xs1) ∧ (h.IsTupleIter (b + 1) l2 i ∧ h.IsTuple l2 xs2) ∧ (h.IsTupleIter (b + 2) l3 i ∧ h.IsTuple l3 xs3)) where
  keep := fun i h h' ⟨hTI, ⟨u1, u2, u3, hTO⟩, st1, st2, st3⟩ hk => ⟨hk (b + 3) (by simp) _ hTI, ⟨u1, u2, u3, hk (b + 4) (by simp) _ hTO⟩, ⟨st1.1.at fun o e => hk b (by simp) o e, by obtain ⟨o, q1, q2⟩ := st1.2; exact ⟨o, hk l1 (by simp) o q1, q2⟩⟩, ⟨st2.1.at fun o e => hk (b + 1) (by simp) o e, by obtain ⟨o, q1, q2⟩ := st2.2; exact ⟨o, hk l2 (by simp) o q1, q2⟩⟩, ⟨st3.1.at fun o e => hk (b + 2) (by simp) o e, by obtain ⟨o, q1, q2⟩ := st3.2; exact ⟨o, hk l3 (by simp) o q1, q2⟩⟩⟩
  own := fun A E s i Q hh hi hz ⟨hTI, ⟨u1, u2, u3, hTO⟩, st1, st2, st3⟩ hQ => by
    have hT : s.TypeIs (.ref (b + 5)) "zip" := ⟨_, hz, rfl⟩
    exact wpAny_pyNext_zipD3_item (E := E) (Q := Q) ⟨(zne (by omega)), (zne (by omega)), (zne (by omega)), (zne (by omega)), by simp, (znm (by omega) (by omega)), (znm (by omega) (by omega)), (zne (by omega)), by simp, (znm (by omega) (by omega)), (znm (by omega) (by omega)), (zne (by omega)), by simp, (znm (by omega) (by omega)), (znm (by omega) (by omega)), (znm (by omega) (by omega)), (znm (by omega) (by omega)), (znm (by omega) (by omega)), (znm (by omega) (by omega)), (znm (by omega) (by omega)), (znm (by omega) (by omega))⟩ (EvX.draws_tuple (prog := prog) (w := w) (A := A.in1) hh b l1 (zne (by omega)) xs1) (EvX.draws_tuple (prog := prog) (w := w) (A := A.in1) hh (b + 1) l2 (zne (by omega)) xs2) (EvX.draws_tuple (prog := prog) (w := w) (A := A.in1) hh (b + 2) l3 (zne (by omega)) xs3) hz hTI hTO st1 st2 st3 (by omega) (by omega) (by omega) fun x1 x2 x3 h' tk y1 y2 y3 r1 r2 d1 d2 d3 r3 r4 hk => hQ #[x1, x2, x3] h' tk ⟨x1, x2, x3, y1, y2, y3, rfl⟩ r1 ⟨hk _ _ (zne (by omega)) (zne (by omega)) (zne (by omega)) (zne (by omega)) (zne (by omega)) hTI, ⟨_, _, _, r2⟩, d1, d2, d3⟩ r3 r4 (fun c o hc e => hk c o (fun x => hc (by simp [x])) (fun x => hc (by simp [x])) (fun x => hc (by simp [x])) (fun x => hc (by simp [x])) (fun x => hc (by simp [x])) e)
  new := fun A E s i T t f1 o Q hh hi hz hT0 hf ⟨hTI, ⟨u1, u2, u3, hTO⟩, st1, st2, st3⟩ hQ => by
    have hT : s.TypeIs (.ref (b + 5)) "zip" := ⟨_, hz, rfl⟩
    unfold pyNext
    exact wpAny_bind (wpAny_attempt (wpAny_callSpecial?_slot (name := Str.ofString "__next__") hT F.slot_zip_next (wpAny_call_entry F.slot_zip_next hT F.entry_zip_next (znew3 (EvX.draws_tuple (prog := prog) (w := w) (A := A.in1) hh b l1 (zne (by omega)) xs1) (EvX.draws_tuple (prog := prog) (w := w) (A := A.in1) hh (b + 1) l2 (zne (by omega)) xs2) (EvX.draws_tuple (prog := prog) (w := w) (A := A.in1) hh (b + 2) l3 (zne (by omega)) xs3) (znm (by omega) (by omega)) (znm (by omega) (by omega)) (znm (by omega) (by omega)) (znm (by omega) (by omega)) (znm (by omega) (by omega)) (znm (by omega) (by omega)) (znm (by omega) (by omega)) (znm (by omega) (by omega)) (znm (by omega) (by omega)) (zne (by omega)) (zne (by omega)) (zne (by omega)) hz hT0 hf hTI st1 st2 st3 (by omega) (by omega) (by omega) fun x1 x2 x3 h' tk y1 y2 y3 r1 d1 d2 d3 r3 r4 hk => wpAny_pure (hQ #[x1, x2, x3] h' tk ⟨x1, x2, x3, y1, y2, y3, rfl⟩ r1 ⟨hk _ _ (zne (by omega)) (zne (by omega)) (zne (by omega)) (zne (by omega)) hTI, ⟨u1, u2, u3, hk _ _ (zne (by omega)) (zne (by omega)) (zne (by omega)) (zne (by omega)) hTO⟩, d1, d2, d3⟩ r3 r4 (fun c o hc e => hk c o (fun x => hc (by simp [x])) (fun x => hc (by simp [x])) (fun x => hc (by simp [x])) (fun x => hc (by simp [x])) e))) (F.args_zip_next_1 _))))
  fin := fun A E s T t f1 o Q hh hz hT0 hf ⟨hTI, ⟨u1, u2, u3, hTO⟩, st1, st2, st3⟩ hQ => by
    have hT : s.TypeIs (.ref (b + 5)) "zip" := ⟨_, hz, rfl⟩
    unfold pyNext
    refine wpAny_bind (wpAny_attempt (wpAny_callSpecial?_slot (name := Str.ofString "__next__") hT F.slot_zip_next (wpAny_call_entry F.slot_zip_next hT F.entry_zip_next (zend3 (EvX.draws_tuple (prog := prog) (w := w) (A := A.in1) hh b l1 (zne (by omega)) xs1) (znm (by omega) (by omega)) hz hT0 hf hTI (by rw [hn1]; exact st1) fun h' tk e hk he => ?_) (F.args_zip_next_1 _))))
    obtain ⟨o, ho, hc⟩ := he
    refine wpAny_bind (wpAny_isInstance (T := "StopIteration") (b := true) ⟨o, ho, hc⟩ isSubtype_stop (wpAny_pure (hQ _ _ fun c o hc e => hk c o (fun x => hc (by simp [x])) (fun x => hc (by simp [x])) e)))
end EvZ
end PySem
end

section
set_option Elab.async false
set_option linter.all false
set_option maxRecDepth 100000
set_option maxHeartbeats 4000000
/-! E21c: list(zip(..)) -/
namespace EvL
open PySem PySem.Spec PyProof.Rows L2 EvZ
theorem zip_nolen : typeLookup (.type "zip") "__len__" = pure none := by rw [typeLookup_type, builtinLookup_eq_fast]; kernel_rfl
theorem zip_nohint : typeLookup (.type "zip") "__length_hint__" = pure none := by rw [typeLookup_type, builtinLookup_eq_fast]; kernel_rfl
/-- new tuples, one after another -/
inductive Chain : Hp → List (List V) → List V → Hp → Prop
  | nil (G : Hp) : Chain G [] [] G
  | snoc {G G' : Hp} {cs : List (List V)} {ts : List V} {T : Addr} {c : List V} : Chain G cs ts G' → G' T = none → Chain G (cs ++ [c]) (ts ++ [.ref T]) (upd G' T (.tup c))
theorem Chain.len {G G' : Hp} {cs : List (List V)} {ts : List V} (h : Chain G cs ts G') : ts.length = cs.length := by
  induction h with
  | nil => rfl
  | snoc _ _ ih => simp [ih]
theorem upd_swap {G : Hp} {S T : Addr} {a b : HO} {c : HO} (h : T ≠ S) : upd (upd (upd G S a) T b) S c = upd (upd G T b) S c := by
  funext x
  by_cases h1 : x = S
  · subst h1; rw [upd_same, upd_same]
  · rw [upd_ne h1, upd_ne h1]
    by_cases h2 : x = T
    · subst h2; rw [upd_same, upd_same]
    · rw [upd_ne h2, upd_ne h2, upd_ne h1]
section
variable {X : Cx} {pins : List (Addr × Obj)} {σ : L2.St} {z TI TO S : Addr} {ch fp : List Addr} {n B : Nat} {Pt : Nat → Array Value → Prop} {Si : Nat → Heap → Prop} {cols : Nat → List V} {H : Hp} {A : Around} {R : Result → Shared → Prop}
def ZGo (h : Heap) (z TI TO S : Addr) (ch : List Addr) (i : Nat) : Prop := (i = 0 ∧ IsZip h z TI TO .none) ∨ ∃ (T : Addr) (t : Tok) (f1 : Value) (o : Obj), ZR h z TI TO (.int T t) f1 ∧ h.get? T = some o ∧ T ≠ S ∧ T ∉ ch ∧ (f1 = .bool true ∨ f1 = .bool false)
theorem ZGo.keep {h h' : Heap} {i : Nat} (g : ZGo h z TI TO S ch i) (hz : z ≠ S) (k : ∀ b o, b ≠ S → h.get? b = some o → h'.get? b = some o) : ZGo h' z TI TO S ch i := by
  rcases g with ⟨h1, h2⟩ | ⟨T, t, f1, o, h1, h2, h3, h4, h5⟩
  · exact .inl ⟨h1, k _ _ hz h2⟩
  · exact .inr ⟨T, t, f1, o, k _ _ hz h1, k _ _ h3 h2, h3, h4, h5⟩
theorem zdraw (Z : ZK X.prog X.w z TI TO ch fp n Pt Si) (hh : A.handled = none) {E : Value → Shared → Prop} {s : Shared} {i : Nat} {Q : Option Value → Shared → Prop} (hi : i < n) (g : ZGo s.heap z TI TO S ch i) (st : Si i s.heap) (hB : ∀ b ∈ ch, b < s.heap.objs.size) (hS : S < s.heap.objs.size) (hz : z ∈ ch)
    (hQ : ∀ vals h' tk, Pt i vals → ZGo h' z TI TO S ch (i + 1) → Si (i + 1) h' → h'.get? s.heap.objs.size = some { cls := .type "tuple", data := .seq vals } → h'.objs.size = s.heap.objs.size + 1 → (∀ c o, c ∉ ch → s.heap.get? c = some o → h'.get? c = some o) → Q (some (.ref s.heap.objs.size)) { s with heap := h', toks := tk }) :
    wpAny (model X.prog X.w) A (pyNext (.ref z)) Q E s := by
  rcases g with ⟨h1, h2⟩ | ⟨T, t, f1, o, h1, h2, h3, h4, h5⟩
  · refine Z.own A E s i Q hh hi h2 st fun vals h' tk p1 p2 p3 p4 p5 p6 => hQ vals h' tk p1 (.inr ⟨s.heap.objs.size, 0, .bool false, _, p2, p4, ?_, ?_, .inr rfl⟩) p3 p4 p5 p6
    · exact Nat.ne_of_gt hS
    · exact fun hm => Nat.lt_irrefl _ (hB _ hm)
  · exact Z.new A E s i T t f1 o Q hh hi h1 h2 h5 st fun vals h' tk p1 p2 p3 p4 p5 p6 => hQ vals h' tk p1 (.inr ⟨T, t, _, o, p2, p6 T o h4 h2, h3, h4, .inl rfl⟩) p3 p4 p5 p6
theorem zloop (Z : ZK X.prog X.w z TI TO ch fp n Pt Si) (hh : A.handled = none) (hn : n ≤ 1000) (hn1 : 1 ≤ n) (hSf : S ∉ fp) (hSc : S ∉ ch) (hz : z ∈ ch) (hP : ∀ i vals, Pt i vals → Vals (cols i) vals.toList) (hc : ∀ i, (cols i).length ≤ 1000)
    (hR : ∀ s' G' ts, Inv X pins σ (upd G' S (.lst ts)) s' → G' S = none → Chain H ((List.range n).map cols) ts G' → R (.ok (.ret .none)) s') :
    ∀ (k i : Nat) (s : Shared) (G : Hp) (ts : List V), n - i = k → i ≤ n → Inv X pins σ (upd G S (.lst ts)) s → G S = none → Chain H ((List.range i).map cols) ts G → (∀ b ∈ ch, FpOk X pins G b) → Si i s.heap → ZGo s.heap z TI TO S ch i → (∀ b ∈ ch, b < s.heap.objs.size) →
    codeAny (model X.prog X.w) A (.builtin "list.extend.loop" ⟨[.ref S, .ref z, .none], []⟩) R s := by
  have zS : z ≠ S := fun e => hSc (e ▸ hz)
  intro k
  induction k with
  | zero =>
    intro i s G ts hk hi I gS cn fo st g hB
    have e : i = n := by omega
    subst e
    refine codeAny_builtin F.entry_extend_loop ?_
    rw [Around.under_plainId F.plain_extend_loop _]
    show wpAny _ A.in1 (pyNext (.ref z) >>= fun _ => _) _ _ s
    rcases g with ⟨h1, _⟩ | ⟨T, t, f1, o, h1, h2, h3, h4, h5⟩
    · omega
    refine wpAny_bind (Z.fin A.in1 _ s T t f1 o _ hh h1 h2 h5 st fun h' tk kp => wpAny_pure ?_)
    refine hR _ G ts (I.turnedL (ch := ch) kp fun b hb => ?_) gS cn
    have f := fo b hb
    exact ⟨by rw [upd_ne (fun e : b = S => hSc (by rw [← e]; exact hb))]; exact f.1, f.2⟩
  | succ k ih =>
    intro i s G ts hk hi I gS cn fo st g hB
    have hlt : i < n := by omega
    refine codeAny_builtin F.entry_extend_loop ?_
    rw [Around.under_plainId F.plain_extend_loop _]
    show wpAny _ A.in1 (pyNext (.ref z) >>= fun _ => _) _ _ s
    have qS : (upd G S (.lst ts)) S = some (.lst ts) := upd_same
    obtain ⟨z0, its0, n0, r0, l0, e0⟩ := I.lstM qS
    have hSl : S < s.heap.objs.size := Heap.lt_size e0
    refine wpAny_bind (zdraw (S := S) Z (show A.in1.handled = none from hh) hlt g st hB hSl hz fun vals h' tk p1 p2 p3 p4 p5 p6 => ?_)
    have fo1 : ∀ b ∈ ch, FpOk X pins (upd G S (.lst ts)) b := fun b hb => by
      have f := fo b hb
      exact ⟨by rw [upd_ne (fun e : b = S => hSc (by rw [← e]; exact hb))]; exact f.1, f.2⟩
    have vl := hP i vals p1
    have I1 : Inv X pins σ (upd (upd G S (.lst ts)) s.heap.objs.size (.tup (cols i))) { s with heap := h', toks := tk } :=
      I.turnedNew (ch := ch) p6 fo1 (Nat.le_refl _) ⟨by rw [sizeLine_eq]; exact Nat.le_trans (hc i) (by decide), vals.toList, vl, ⟨_, p4, rfl, 0, by simp⟩⟩
    have TS : s.heap.objs.size ≠ S := Nat.ne_of_gt hSl
    have qS1 : (upd (upd G S (.lst ts)) s.heap.objs.size (.tup (cols i))) S = some (.lst ts) := by rw [upd_ne TS.symm, upd_same]
    obtain ⟨z1, its1, n1, r1, l1, e1⟩ := I1.lstM qS1
    have lt : ts.length ≤ 1000 := by rw [cn.len]; simp; omega
    have i1l : its1.toArray.size ≤ 1000 := by rw [List.size_toArray, ← l1]; exact lt
    have I2 : Inv X pins σ (upd (upd (upd G S (.lst ts)) s.heap.objs.size (.tup (cols i))) S (.lst (ts ++ [.ref s.heap.objs.size]))) { s with heap := h'.update S (Obj.mapSeq (·.push (.ref s.heap.objs.size))), toks := tk } :=
      I1.lset (t' := tk) (its' := its1 ++ [.ref s.heap.objs.size]) qS1 e1 (by simp) (r1.append (.cons (show RelV (V.ref s.heap.objs.size) (Value.ref s.heap.objs.size) from rfl) .nil)) (by rw [sizeLine_eq]; simp; omega)
    rw [upd_swap TS] at I2
    have Tn : G s.heap.objs.size = none := by
      have := I.hok.fresh (Nat.le_refl s.heap.objs.size)
      rwa [upd_ne TS] at this
    have kp2 : ∀ b o, b ≠ S → h'.get? b = some o → (h'.update S (Obj.mapSeq (·.push (.ref s.heap.objs.size)))).get? b = some o := fun b o hb e => (Heap.get?_update_other _ _ (Ne.symm hb)).trans e
    show wpAny _ A.in1 (updateSeq S (·.push (.ref s.heap.objs.size)) >>= fun _ => _) _ _ _
    refine wpAny_bind (wpAny_updateSeq e1 rfl (wpAny_pure ⟨plainId_quiet F.plain_extend_loop _, ?_⟩) (by rw [sizeLine_eq]; omega) (by show (its1.toArray.push _).size ≤ sizeLine + 1; rw [Array.size_push, sizeLine_eq]; omega))
    refine ih (i + 1) _ (upd G s.heap.objs.size (.tup (cols i))) (ts ++ [.ref s.heap.objs.size]) (by omega) hlt I2 ?_ ?_ ?_ ?_ ?_ ?_
    · rw [upd_ne TS.symm]; exact gS
    · rw [List.range_succ, List.map_append]
      exact cn.snoc Tn
    · intro b hb
      have f := fo b hb
      exact ⟨by rw [upd_ne (Nat.ne_of_lt (hB b hb))]; exact f.1, f.2⟩
    · exact Z.keep _ _ _ p3 fun b hb o e => kp2 b o (fun e => hSf (e ▸ hb)) e
    · exact p2.keep zS kp2
    · intro b hb
      show b < (h'.update S _).objs.size
      have : (h'.update S (Obj.mapSeq (·.push (Value.ref s.heap.objs.size)))).objs.size = h'.objs.size := (Heap.SameBut.update (a := S) ..).1
      rw [this, p5]
      exact Nat.lt_succ_of_lt (hB b hb)
end
end EvL
end

section
set_option Elab.async false
set_option linter.all false
set_option maxRecDepth 100000
set_option maxHeartbeats 4000000
/-! E21d: list(zip(*rows)) as an expression -/
namespace EvL
open PySem PySem.Spec PyProof.Rows L2 EvZ
section
variable {X : Cx} {pins : List (Addr × Obj)} {σ : L2.St} {z TI TO : Addr} {ch fp : List Addr} {n : Nat} {Pt : Nat → Array Value → Prop} {Si : Nat → Heap → Prop} {cols : Nat → List V} {G : Hp} {A : Around}
theorem list_zip (Z : ZK X.prog X.w z TI TO ch fp n Pt Si) (hh : A.handled = none) (hn : n ≤ 1000) (hn1 : 1 ≤ n) (hz : z ∈ ch) (hP : ∀ i vals, Pt i vals → Vals (cols i) vals.toList) (hc : ∀ i, (cols i).length ≤ 1000) {s : Shared} {Q E : Value → Shared → Prop}
    (I : Inv X pins σ G s) (fo : ∀ b ∈ ch, FpOk X pins G b) (hB : ∀ b ∈ ch, b < s.heap.objs.size) (hF : ∀ b ∈ fp, b < s.heap.objs.size) (g : IsZip s.heap z TI TO .none) (st : Si 0 s.heap)
    (hQ : ∀ S s' G' ts, Inv X pins σ (upd G' S (.lst ts)) s' → G' S = none → Chain G ((List.range n).map cols) ts G' → Q (.ref S) s') : wpAny (model X.prog X.w) A (call (.type "list") [.ref z]) Q E s := by
  have hSc : s.heap.objs.size ∉ ch := fun hm => Nat.lt_irrefl _ (hB _ hm)
  have hSf : s.heap.objs.size ∉ fp := fun hm => Nat.lt_irrefl _ (hF _ hm)
  have hSz : s.heap.objs.size ≠ z := fun e => hSc (by rw [e]; exact hz)
  refine callType_codes (Q₁ := fun obj s1 => obj = .ref s.heap.objs.size ∧ s1 = { s with heap := s.heap.push { cls := .type "list", data := .seq #[] } }) F.called_list (F.typeCall_list_1 _) F.entry_list_init (code_list_new _ ⟨rfl, rfl⟩) fun obj s1 h1 => ?_
  obtain ⟨rfl, rfl⟩ := h1
  have hS : (s.heap.push { cls := .type "list", data := .seq #[] }).get? s.heap.objs.size = some { cls := .type "list", data := .seq #[] } := Heap.get?_push_size _ rfl
  have k1 : ∀ b o, s.heap.get? b = some o → (s.heap.push { cls := .type "list", data := .seq #[] }).get? b = some o := fun b o e => Heap.get?_push_of_some _ e
  have nb : ∀ b o, s.heap.get? b = some o → b ≠ s.heap.objs.size := fun b o e => Nat.ne_of_lt (Heap.lt_size e)
  refine ⟨⟨_, hS, rfl⟩, F.args_list_init_2 _ _, ?_⟩
  show wpAny _ A.in1.in1 (do let old ← Builtin.List.listItems (.ref s.heap.objs.size); Builtin.List.listUpdate (.ref s.heap.objs.size) (fun _ => #[]); letGo old.toList.reverse; Builtin.List.listExtendWith (.ref s.heap.objs.size) (.ref z) .none) _ _ _
  refine wpAny_bind ?_
  unfold Builtin.List.listItems
  refine wpAny_bind (wpAny_seqItems hS rfl (wpAny_pure ?_))
  show wpAny _ A.in1.in1 (updateSeq s.heap.objs.size (fun _ => #[]) >>= fun _ => letGo (#[] : Array Value).toList.reverse >>= fun _ => Builtin.List.listExtendWith (.ref s.heap.objs.size) (.ref z) .none) _ _ _
  refine wpAny_bind (wpAny_updateSeq hS rfl ?_)
  have hS2 := Heap.get?_update_self (Obj.mapSeq (fun _ => (#[] : Array Value))) hS rfl
  have sz1 : (s.heap.push { cls := .type "list", data := .seq #[] }).objs.size = s.heap.objs.size + 1 := Heap.size_push ..
  have k2 : ∀ b o, s.heap.get? b = some o → ((s.heap.push { cls := .type "list", data := .seq #[] }).update s.heap.objs.size (Obj.mapSeq (fun _ => (#[] : Array Value)))).get? b = some o := fun b o e => (Heap.get?_update_other _ _ (Ne.symm (nb b o e))).trans (k1 b o e)
  have sz2 : ((s.heap.push { cls := .type "list", data := .seq #[] }).update s.heap.objs.size (Obj.mapSeq (fun _ => (#[] : Array Value)))).objs.size = s.heap.objs.size + 1 := by rw [← sz1]; exact (Heap.SameBut.update (a := s.heap.objs.size) ..).1
  generalize hg2 : (s.heap.push { cls := .type "list", data := .seq #[] }).update s.heap.objs.size (Obj.mapSeq (fun _ => (#[] : Array Value))) = g2 at hS2 k2 sz2
  refine wpAny_bind (wpAny_letGo ?_)
  unfold Builtin.List.listExtendWith
  have tz : ∀ {h : Heap}, (∀ b o, s.heap.get? b = some o → h.get? b = some o) → Shared.TypeIs { s with heap := h } (.ref z) "zip" := fun {h} q => ⟨_, q _ _ g, rfl⟩
  refine wpAny_bind (wpAny_typeOf (tz k2) ?_)
  have h1 : Builtin.List.listSameRef (.ref s.heap.objs.size) (.ref z) = false := by simp only [Builtin.List.listSameRef, beq_eq_false_iff_ne]; exact hSz
  have h2 : (Value.type "zip" == Value.type "list") = false := by decide
  have h3 : (Value.type "zip" == Value.type "tuple") = false := by decide
  simp only [h1, h2, h3, Bool.or_false, Bool.false_eq_true, if_false]
  refine wpAny_bind (wpAny_pyIter_zip (s := { s with heap := g2 }) (k2 _ _ g) (wpAny_bind (wpAny_holding ?_)))
  unfold Builtin.List.listLengthHint
  refine wpAny_bind (wpAny_specialOf (tz k2) zip_nolen ?_)
  show wpAny _ A.in1.in1 (specialOf (Value.ref z) (Str.ofString "__length_hint__") >>= fun _ => _) _ _ _
  refine wpAny_bind (wpAny_specialOf (tz k2) zip_nohint (wpAny_pure ?_))
  show wpAny _ A.in1.in1 (rule "list.extend.makes-room" >>= fun _ => Builtin.List.listTouch (.ref s.heap.objs.size) >>= fun _ => again (.builtin "list.extend.loop" ⟨[.ref s.heap.objs.size, .ref z, .none], []⟩)) _ _ _
  refine wpAny_bind (wpAny_rule (wpAny_bind ?_))
  show wpAny _ A.in1.in1 (updateSeq s.heap.objs.size (·.push .none) >>= fun _ => updateSeq s.heap.objs.size (·.pop)) _ _ _
  refine wpAny_bind (wpAny_updateSeq hS2 rfl ?_)
  have hS3 := Heap.get?_update_self (Obj.mapSeq (·.push Value.none)) hS2 rfl
  refine wpAny_updateSeq (hz := by seq_fits) hS3 rfl ?_
  have hS4 := Heap.get?_update_self (Obj.mapSeq (·.pop)) hS3 rfl
  have k4 : ∀ b o, s.heap.get? b = some o → ((g2.update s.heap.objs.size (Obj.mapSeq (·.push Value.none))).update s.heap.objs.size (Obj.mapSeq (·.pop))).get? b = some o := fun b o e => (Heap.get?_update_other _ _ (Ne.symm (nb b o e))).trans ((Heap.get?_update_other _ _ (Ne.symm (nb b o e))).trans (k2 b o e))
  have sz4 : ((g2.update s.heap.objs.size (Obj.mapSeq (·.push Value.none))).update s.heap.objs.size (Obj.mapSeq (·.pop))).objs.size = s.heap.objs.size + 1 := by
    rw [← sz2]
    exact ((Heap.SameBut.update (a := s.heap.objs.size) ..).1).trans ((Heap.SameBut.update (a := s.heap.objs.size) ..).1)
  generalize (g2.update s.heap.objs.size (Obj.mapSeq (·.push Value.none))).update s.heap.objs.size (Obj.mapSeq (·.pop)) = g4 at hS4 k4 sz4
  refine wpAny_pure ⟨plainId_quiet F.plain_extend_loop _, ?_⟩
  have I1 : Inv X pins σ (upd G s.heap.objs.size (.lst [])) { s with heap := g4 } := I.laid (t' := s.toks) k4 (Nat.le_refl _) ⟨Nat.zero_le _, [], _, .nil, by rw [hS4]; rfl⟩
  refine zloop (S := s.heap.objs.size) (A := A.in1) (cols := cols) (H := G) (G := G) (R := _) (ts := []) (s := { s with heap := g4 }) Z (show A.in1.handled = none from hh) hn hn1 hSf hSc hz hP hc (fun s' G' ts q1 q2 q3 => ⟨rfl, hQ _ s' G' ts q1 q2 q3⟩) n 0 rfl (Nat.zero_le _) I1 I.fresh (.nil G) fo (Z.keep _ _ _ st fun b _ o e => k4 b o e) (.inl ⟨rfl, k4 _ _ g⟩) fun b hb => ?_
  show b < g4.objs.size
  rw [sz4]
  exact Nat.lt_succ_of_lt (hB b hb)
end
end EvL
end

section
set_option Elab.async false
set_option linter.all false
set_option maxRecDepth 100000
set_option maxHeartbeats 4000000
/-! E21e: the rule of list(zip(*rows)) -/
namespace EvL
open PySem PySem.Spec PyProof.Rows L2 EvZ
/-- a type called with one starred argument -/
theorem callS_type {M : Model} {A : Around} {E : Value → Shared → Prop} {s : Shared} {env : Env} {pos p : Pos} {T : String} {e : Expr} {Q : Value → Shared → Prop}
    (h : wpAny M A (eval e env) (fun v s1 => PySem.W.StarOf M A E v (fun vs s2 => wpAny M A (call (.type T) vs) Q E s2) s1) E s) (he : starEach [.Starred e p] env = [(true, eval e env)] := by rfl) :
    wpAny M A (callWith pos (.type T) [] (backTo pos (starEach [.Starred e p] env)) []) Q E s := by
  rw [he]
  refine PySem.W.ks_call (P := fun _ => True) rfl (fun h _ => ⟨.machine, .inr (.inl rfl), PySem.W.Looks.of_pure rfl⟩) (PySem.W.ks_lone (thn h fun v s1 q => ?_))
  unfold PySem.W.StarOf at q ⊢
  exact thn q fun b s2 ⟨hb, q2⟩ => ⟨hb, thn q2 fun vs s3 q3 => ⟨trivial, q3⟩⟩
theorem vals_at : ∀ {xs : List V} {us : List Value} {i : Nat} {u : Value}, Vals xs us → us[i]? = some u → RelV (xs.getD i .non) u
  | _, _, _, _, .nil, e => by simp at e
  | _, _, 0, _, .cons r _, e => by simp at e; subst e; exact r
  | _ :: xs, _ :: us, i + 1, u, .cons _ t, e => by
    have := vals_at (i := i) t (by simpa using e)
    simpa [List.getD_eq_getElem?_getD] using this
def colsV (n : Nat) (rows : List (List V)) : List (List V) := (List.range n).map fun i => rows.map fun r => r.getD i .non
theorem blt {a b : Nat} (h : a < b) : @LT.lt Addr _ a b := h
/-- one, two, three tuples of one length -/
def tZipS (K : PySem.W.Frag) (te : TE) : TE := fun σ H Q => te σ H fun y H1 => ∃ (a : Addr) (rs : List Addr) (rows : List (List V)) (n : Nat), y = V.ref a ∧ SqT K H1 a (rs.map V.ref) ∧ rows.length = rs.length ∧ 1 ≤ rs.length ∧ rs.length ≤ 3 ∧ 1 ≤ n ∧ n ≤ 1000 ∧
  (∀ (j : Nat) (r : Addr) (row : List V), rs[j]? = some r → rows[j]? = some row → SqT K H1 r row ∧ row.length = n) ∧ ∀ ts G' S, Chain H1 (colsV n rows) ts G' → G' S = none → Q (.ref S) (upd G' S (.lst ts))
section
variable {X : Cx} {pins : List (Addr × Obj)} {σ : L2.St} {G : Hp}
def ZMade (X : Cx) (pins : List (Addr × Obj)) (σ : L2.St) (G : Hp) (rows : List (List V)) (n : Nat) (u : Value) (s' : Shared) : Prop :=
  ∀ (A : Around) (Q E : Value → Shared → Prop), A.handled = none → (∀ S s2 G' ts, Inv X pins σ (upd G' S (.lst ts)) s2 → G' S = none → Chain G (colsV n rows) ts G' → Q (.ref S) s2) → wpAny (model X.prog X.w) A (call (.type "list") [u]) Q E s'

theorem made1 {r1 : Addr} {w1 : List V} {n : Nat} {s : Shared} {E : Value → Shared → Prop} (I : Inv X pins σ G s) (h1 : SqT X.K G r1 w1) (l1 : w1.length = n) (hn : 1 ≤ n) (hn2 : n ≤ 1000) :
    wpAny (model X.prog X.w) X.A (call (.type "zip") [.ref r1]) (ZMade X pins σ G [w1] n) E s := by
  obtain ⟨its1, rv1, p1, _⟩ := I.tuple h1
  have q1 : s.heap.IsTuple r1 its1.toArray := p1
  have lt1 : r1 < s.heap.objs.size := by obtain ⟨o, ho, _⟩ := q1; exact Heap.lt_size ho
  have sz1 : its1.toArray.size = n := by rw [List.size_toArray, ← rv1.length, l1]
  refine zip_begins1 (begins_tuple r1 its1.toArray) q1 fun h' g1 g2 g3 b1 gsz hk => ?_
  intro A Q E hh hQ
  have I2 : Inv X pins σ G { s with heap := h' } := I.kept (t' := s.toks) hk
  have fo : ∀ b ∈ [s.heap.objs.size + 3, s.heap.objs.size + 2, s.heap.objs.size], FpOk X pins G b := fun b hb => by
    have hle : s.heap.objs.size ≤ b := by
      simp only [List.mem_cons, List.not_mem_nil, or_false] at hb
      rcases hb with rfl | rfl | rfl <;> first | exact Nat.le_refl _ | exact Nat.le_add_right _ _
    exact I.fpOk hle (I.hok.fresh hle)
  have hB : ∀ b ∈ [s.heap.objs.size + 3, s.heap.objs.size + 2, s.heap.objs.size], b < h'.objs.size := fun b hb => by
    rw [gsz]
    simp only [List.mem_cons, List.not_mem_nil, or_false] at hb
    rcases hb with rfl | rfl | rfl <;> exact blt (by omega)
  have hF : ∀ b ∈ [s.heap.objs.size + 1, s.heap.objs.size + 2, s.heap.objs.size, r1], b < h'.objs.size := fun b hb => by
    rw [gsz]
    simp only [List.mem_cons, List.not_mem_nil, or_false] at hb
    rcases hb with rfl | rfl | rfl | rfl
    · exact blt (by omega)
    · exact blt (by omega)
    · exact blt (by omega)
    · exact Nat.lt_of_lt_of_le lt1 (Nat.le_add_right _ _)
  refine list_zip (s := { s with heap := h' }) (cols := fun i => [w1].map fun r => r.getD i .non) (zk1 (b := s.heap.objs.size) lt1 sz1) hh hn2 hn (by simp) (fun i vals ⟨v1, y1, e⟩ => by subst e; exact (.cons (vals_at rv1 (by simpa using y1)) .nil)) (fun i => by simp) I2 fo hB hF g1 ⟨g2, ⟨_, g3⟩, ⟨⟨_, b1, rfl, rfl⟩, by obtain ⟨o, ho, hc⟩ := q1; exact ⟨o, hk _ _ ho, hc⟩⟩⟩ fun S s2 G' ts a1 a2 a3 => hQ S s2 G' ts a1 a2 a3
theorem made2 {r1 r2 : Addr} {w1 w2 : List V} {n : Nat} {s : Shared} {E : Value → Shared → Prop} (I : Inv X pins σ G s) (h1 : SqT X.K G r1 w1) (h2 : SqT X.K G r2 w2) (l1 : w1.length = n) (l2 : w2.length = n) (hn : 1 ≤ n) (hn2 : n ≤ 1000) :
    wpAny (model X.prog X.w) X.A (call (.type "zip") [.ref r1, .ref r2]) (ZMade X pins σ G [w1, w2] n) E s := by
  obtain ⟨its1, rv1, p1, _⟩ := I.tuple h1
  have q1 : s.heap.IsTuple r1 its1.toArray := p1
  have lt1 : r1 < s.heap.objs.size := by obtain ⟨o, ho, _⟩ := q1; exact Heap.lt_size ho
  have sz1 : its1.toArray.size = n := by rw [List.size_toArray, ← rv1.length, l1]
  obtain ⟨its2, rv2, p2, _⟩ := I.tuple h2
  have q2 : s.heap.IsTuple r2 its2.toArray := p2
  have lt2 : r2 < s.heap.objs.size := by obtain ⟨o, ho, _⟩ := q2; exact Heap.lt_size ho
  have sz2 : its2.toArray.size = n := by rw [List.size_toArray, ← rv2.length, l2]
  refine zip_begins2 (begins_tuple r1 its1.toArray) (begins_tuple r2 its2.toArray) q1 q2 fun h' g1 g2 g3 b1 b2 gsz hk => ?_
  intro A Q E hh hQ
  have I2 : Inv X pins σ G { s with heap := h' } := I.kept (t' := s.toks) hk
  have fo : ∀ b ∈ [s.heap.objs.size + 4, s.heap.objs.size + 3, s.heap.objs.size, (s.heap.objs.size + 1)], FpOk X pins G b := fun b hb => by
    have hle : s.heap.objs.size ≤ b := by
      simp only [List.mem_cons, List.not_mem_nil, or_false] at hb
      rcases hb with rfl | rfl | rfl | rfl <;> first | exact Nat.le_refl _ | exact Nat.le_add_right _ _
    exact I.fpOk hle (I.hok.fresh hle)
  have hB : ∀ b ∈ [s.heap.objs.size + 4, s.heap.objs.size + 3, s.heap.objs.size, (s.heap.objs.size + 1)], b < h'.objs.size := fun b hb => by
    rw [gsz]
    simp only [List.mem_cons, List.not_mem_nil, or_false] at hb
    rcases hb with rfl | rfl | rfl | rfl <;> exact blt (by omega)
  have hF : ∀ b ∈ [s.heap.objs.size + 2, s.heap.objs.size + 3, s.heap.objs.size, (s.heap.objs.size + 1), r1, r2], b < h'.objs.size := fun b hb => by
    rw [gsz]
    simp only [List.mem_cons, List.not_mem_nil, or_false] at hb
    rcases hb with rfl | rfl | rfl | rfl | rfl | rfl
    · exact blt (by omega)
    · exact blt (by omega)
    · exact blt (by omega)
    · exact blt (by omega)
    · exact Nat.lt_of_lt_of_le lt1 (Nat.le_add_right _ _)
    · exact Nat.lt_of_lt_of_le lt2 (Nat.le_add_right _ _)
  refine list_zip (s := { s with heap := h' }) (cols := fun i => [w1, w2].map fun r => r.getD i .non) (zk2 (b := s.heap.objs.size) lt1 lt2 sz1 sz2) hh hn2 hn (by simp) (fun i vals ⟨v1, v2, y1, y2, e⟩ => by subst e; exact (.cons (vals_at rv1 (by simpa using y1)) (.cons (vals_at rv2 (by simpa using y2)) .nil))) (fun i => by simp) I2 fo hB hF g1 ⟨g2, ⟨_, _, g3⟩, ⟨⟨_, b1, rfl, rfl⟩, by obtain ⟨o, ho, hc⟩ := q1; exact ⟨o, hk _ _ ho, hc⟩⟩, ⟨⟨_, b2, rfl, rfl⟩, by obtain ⟨o, ho, hc⟩ := q2; exact ⟨o, hk _ _ ho, hc⟩⟩⟩ fun S s2 G' ts a1 a2 a3 => hQ S s2 G' ts a1 a2 a3
theorem made3 {r1 r2 r3 : Addr} {w1 w2 w3 : List V} {n : Nat} {s : Shared} {E : Value → Shared → Prop} (I : Inv X pins σ G s) (h1 : SqT X.K G r1 w1) (h2 : SqT X.K G r2 w2) (h3 : SqT X.K G r3 w3) (l1 : w1.length = n) (l2 : w2.length = n) (l3 : w3.length = n) (hn : 1 ≤ n) (hn2 : n ≤ 1000) :
    wpAny (model X.prog X.w) X.A (call (.type "zip") [.ref r1, .ref r2, .ref r3]) (ZMade X pins σ G [w1, w2, w3] n) E s := by
  obtain ⟨its1, rv1, p1, _⟩ := I.tuple h1
  have q1 : s.heap.IsTuple r1 its1.toArray := p1
  have lt1 : r1 < s.heap.objs.size := by obtain ⟨o, ho, _⟩ := q1; exact Heap.lt_size ho
  have sz1 : its1.toArray.size = n := by rw [List.size_toArray, ← rv1.length, l1]
  obtain ⟨its2, rv2, p2, _⟩ := I.tuple h2
  have q2 : s.heap.IsTuple r2 its2.toArray := p2
  have lt2 : r2 < s.heap.objs.size := by obtain ⟨o, ho, _⟩ := q2; exact Heap.lt_size ho
  have sz2 : its2.toArray.size = n := by rw [List.size_toArray, ← rv2.length, l2]
  obtain ⟨its3, rv3, p3, _⟩ := I.tuple h3
  have q3 : s.heap.IsTuple r3 its3.toArray := p3
  have lt3 : r3 < s.heap.objs.size := by obtain ⟨o, ho, _⟩ := q3; exact Heap.lt_size ho
  have sz3 : its3.toArray.size = n := by rw [List.size_toArray, ← rv3.length, l3]
  refine zip_begins3 (begins_tuple r1 its1.toArray) (begins_tuple r2 its2.toArray) (begins_tuple r3 its3.toArray) q1 q2 q3 fun h' g1 g2 g3 b1 b2 b3 gsz hk => ?_
  intro A Q E hh hQ
  have I2 : Inv X pins σ G { s with heap := h' } := I.kept (t' := s.toks) hk
  have fo : ∀ b ∈ [s.heap.objs.size + 5, s.heap.objs.size + 4, s.heap.objs.size, (s.heap.objs.size + 1), (s.heap.objs.size + 2)], FpOk X pins G b := fun b hb => by
    have hle : s.heap.objs.size ≤ b := by
      simp only [List.mem_cons, List.not_mem_nil, or_false] at hb
      rcases hb with rfl | rfl | rfl | rfl | rfl <;> first | exact Nat.le_refl _ | exact Nat.le_add_right _ _
    exact I.fpOk hle (I.hok.fresh hle)
  have hB : ∀ b ∈ [s.heap.objs.size + 5, s.heap.objs.size + 4, s.heap.objs.size, (s.heap.objs.size + 1), (s.heap.objs.size + 2)], b < h'.objs.size := fun b hb => by
    rw [gsz]
    simp only [List.mem_cons, List.not_mem_nil, or_false] at hb
    rcases hb with rfl | rfl | rfl | rfl | rfl <;> exact blt (by omega)
  have hF : ∀ b ∈ [s.heap.objs.size + 3, s.heap.objs.size + 4, s.heap.objs.size, (s.heap.objs.size + 1), (s.heap.objs.size + 2), r1, r2, r3], b < h'.objs.size := fun b hb => by
    rw [gsz]
    simp only [List.mem_cons, List.not_mem_nil, or_false] at hb
    rcases hb with rfl | rfl | rfl | rfl | rfl | rfl | rfl | rfl
    · exact blt (by omega)
    · exact blt (by omega)
    · exact blt (by omega)
    · exact blt (by omega)
    · exact blt (by omega)
    · exact Nat.lt_of_lt_of_le lt1 (Nat.le_add_right _ _)
    · exact Nat.lt_of_lt_of_le lt2 (Nat.le_add_right _ _)
    · exact Nat.lt_of_lt_of_le lt3 (Nat.le_add_right _ _)
  refine list_zip (s := { s with heap := h' }) (cols := fun i => [w1, w2, w3].map fun r => r.getD i .non) (zk3 (b := s.heap.objs.size) lt1 lt2 lt3 sz1 sz2 sz3) hh hn2 hn (by simp) (fun i vals ⟨v1, v2, v3, y1, y2, y3, e⟩ => by subst e; exact (.cons (vals_at rv1 (by simpa using y1)) (.cons (vals_at rv2 (by simpa using y2)) (.cons (vals_at rv3 (by simpa using y3)) .nil)))) (fun i => by simp) I2 fo hB hF g1 ⟨g2, ⟨_, _, _, g3⟩, ⟨⟨_, b1, rfl, rfl⟩, by obtain ⟨o, ho, hc⟩ := q1; exact ⟨o, hk _ _ ho, hc⟩⟩, ⟨⟨_, b2, rfl, rfl⟩, by obtain ⟨o, ho, hc⟩ := q2; exact ⟨o, hk _ _ ho, hc⟩⟩, ⟨⟨_, b3, rfl, rfl⟩, by obtain ⟨o, ho, hc⟩ := q3; exact ⟨o, hk _ _ ho, hc⟩⟩⟩ fun S s2 G' ts a1 a2 a3 => hQ S s2 G' ts a1 a2 a3
end
end EvL
end

section
set_option Elab.async false
set_option linter.all false
set_option maxRecDepth 100000
set_option maxHeartbeats 400000
/-! E21f: the rule of list(zip(*rows)) -/
namespace EvL
open PySem PySem.Spec PyProof.Rows L2 EvZ
theorem star_call (f : Expr) (as : List Expr) (ks : List Keyword) (pos : Pos) (es : List Expr) (env : Env) : starEach (.Call f as ks pos :: es) env = (false, eval (.Call f as ks pos) env) :: starEach es env := rfl
theorem star_one (e : Expr) (p : Pos) (env : Env) : starEach [.Starred e p] env = [(true, eval e env)] := rfl
theorem star_none (pos : Pos) (env : Env) : (backTo pos (starEach [] env)).any (·.1) = false := rfl
section
variable {X : Cx} {pins : List (Addr × Obj)} {σ : L2.St} {H1 : Hp} {Q : VK}
/-- whatever rows there are -/
theorem madeAny {rs : List Addr} {rows : List (List V)} {n : Nat} {s : Shared} {E : Value → Shared → Prop} {us : List Value} (I : Inv X pins σ H1 s) (hl : rows.length = rs.length) (h1 : 1 ≤ rs.length) (h3 : rs.length ≤ 3) (hn : 1 ≤ n) (hn2 : n ≤ 1000)
    (hrow : ∀ (j : Nat) (r : Addr) (row : List V), rs[j]? = some r → rows[j]? = some row → SqT X.K H1 r row ∧ row.length = n) (rv : Vals (rs.map V.ref) us) : wpAny (model X.prog X.w) X.A (call (.type "zip") us) (ZMade X pins σ H1 rows n) E s := by
  match rs, rows, hl, h1, h3, hrow, rv with
  | [r1], [w1], _, _, _, hrow, .cons a1 .nil =>
    obtain ⟨q1, l1⟩ := hrow 0 r1 w1 rfl rfl
    cases a1
    exact made1 I q1 l1 hn hn2
  | [r1, r2], [w1, w2], _, _, _, hrow, .cons a1 (.cons a2 .nil) =>
    obtain ⟨q1, l1⟩ := hrow 0 r1 w1 rfl rfl
    obtain ⟨q2, l2⟩ := hrow 1 r2 w2 rfl rfl
    cases a1
    cases a2
    exact made2 I q1 q2 l1 l2 hn hn2
  | [r1, r2, r3], [w1, w2, w3], _, _, _, hrow, .cons a1 (.cons a2 (.cons a3 .nil)) =>
    obtain ⟨q1, l1⟩ := hrow 0 r1 w1 rfl rfl
    obtain ⟨q2, l2⟩ := hrow 1 r2 w2 rfl rfl
    obtain ⟨q3, l3⟩ := hrow 2 r3 w3 rfl rfl
    cases a1
    cases a2
    cases a3
    exact made3 I q1 q2 q3 l1 l2 l3 hn hn2
theorem listMade {rows : List (List V)} {n : Nat} {u : Value} {s : Shared} (hh : X.A.handled = none) (zm : ZMade X pins σ H1 rows n u s) (q : ∀ ts G' S, Chain H1 (colsV n rows) ts G' → G' S = none → Q (.ref S) (upd G' S (.lst ts))) :
    wpAny (model X.prog X.w) X.A (call (.type "list") [u]) (EP X pins σ Q) X.xe s :=
  zm X.A (EP X pins σ Q) X.xe hh fun S s4 G' ts j1 j2 j3 => ⟨.ref S, _, j1, rfl, q ts G' S j3 j2⟩
end
section
variable {X : Cx} {e : Expr} {te : TE} {p p1 p2 p3 p4 : Pos}
theorem run_zip {pins : List (Addr × Obj)} {s : Shared} {σ : L2.St} {H : Hp} {Q : VK} (hg : Gl X "zip") (hm : X.mg "zip" = none) (ha : PE X e te) (I : Inv X pins σ H s) (h : tZipS X.K te σ H Q) :
    wpAny (model X.prog X.w) X.A (eval (.Call (.Name "zip" p) [.Starred e p4] [] p3) X.env) (fun u s3 => ∃ H1 rows n, ZMade X pins σ H1 rows n u s3 ∧ ∀ ts G' S, Chain H1 (colsV n rows) ts G' → G' S = none → Q (.ref S) (upd G' S (.lst ts))) X.xe s := by
  refine Call_ (ld_blt I hg hm PyProof.Rows.boot_zip (callS_type (thn (ha.run pins s σ H _ I h) fun v s1 ⟨y, H1, I1, ry, a, rs, rows, n, ey, hs, hl2, h1, h3, hn1, hn2, hrow, q⟩ => ?_) (star_one _ _ _)))
  subst ey
  obtain rfl : v = Value.ref a := ry
  exact star_tup I1 hs fun us s2 I2 rv => thn (madeAny I2 hl2 h1 h3 hn1 hn2 hrow rv) fun u s3 zm => ⟨H1, rows, n, zm, q⟩
theorem pe_listZipS (hc : X.calm = true) (hl : Gl X "list") (hml : X.mg "list" = none) (hg : Gl X "zip") (hm : X.mg "zip" = none) (ha : PE X e te) : PE X (.Call (.Name "list" p1) [.Call (.Name "zip" p) [.Starred e p4] [] p3] [] p2) (tZipS X.K te) := by
  refine ⟨fun pins s σ H Q I h => ?_⟩
  refine Call_ (ld_blt I hl hml boot_list (PyProof.Rows.callWith_type1 (args_cons (thn (run_zip hg hm ha I h) fun u s3 ⟨H1, rows, n, zm, q⟩ => args_nil ?_) (star_call _ _ _ _ _ _)) (star_call _ _ _ _ _ _) (star_none _ _)))
  exact listMade (I.ok.hd hc) zm q
end
end EvL
end

section
set_option Elab.async false
set_option linter.all false
set_option maxRecDepth 100000
set_option maxHeartbeats 4000000
/-! E21: list(zip(*rows)) -/
namespace EvL
open PySem PySem.Spec PyProof.Rows L2
section
variable {K : PySem.W.Frag} {tb : Tb} {W : WX} {X : Cx} {a b c e : Expr} {es : List Expr} {fa fb fc f : Sem1} {ff : SemF} {pos p p1 p2 p3 p4 : Pos} {k j : Nat} {x : Str}
/-- rows that are tuples -/
def tups : List Dv → Option (List (List Dv))
  | [] => some []
  | .tup xs :: r => (tups r).map (xs :: ·)
  | _ :: _ => none
def wide (rows : List (List Dv)) : Nat := match rows with
  | [] => 0
  | r :: rs => rs.foldl (fun n q => min n q.length) r.length
def cols (rows : List (List Dv)) : List Dv := (List.range (wide rows)).map fun i => .tup (rows.map fun r => r.getD i .non)
def fZipS (f : Sem1) : SemF := fun en m => (f en m).bind fun x m1 => match frz m1 x with
  | some (.tup rows, m2) => (match tups rows with
    | some rs => if (decide (1 ≤ rs.length) && decide (rs.length ≤ 3) && decide (1 ≤ wide rs) && decide (wide rs ≤ 1000) && rs.all fun r => decide (r.length = wide rs)) then .ok (cols rs) m2 else .no
    | none => .no)
  | _ => .no
theorem repL_getD {F : Hp} : ∀ {xs : List Dv} {vs : List V} (i : Nat), RepL K tb F xs vs → Rep K tb F (xs.getD i .non) (vs.getD i .non)
  | _, _, i, .nil => by simpa using .non
  | _, _, 0, .cons h _ => by simpa [List.getD_eq_getElem?_getD] using h
  | _ :: xs, _ :: vs, i + 1, .cons _ r => by
    have := repL_getD i r
    simpa [List.getD_eq_getElem?_getD] using this
/-- rows, each a tuple: where they lie, what they hold -/
theorem tups_rep {F : Hp} : ∀ {rows : List Dv} {rs : List (List Dv)} {vs : List V}, RepL K tb F rows vs → tups rows = some rs → ∃ (as : List Addr) (ws : List (List V)), vs = as.map V.ref ∧ ws.length = as.length ∧ as.length = rs.length ∧ (∀ (j : Nat) (a : Addr) (w : List V), as[j]? = some a → ws[j]? = some w → SqT K F a w) ∧ ∀ (j : Nat) (r : List Dv) (w : List V), rs[j]? = some r → ws[j]? = some w → RepL K tb F r w
  | [], rs, _, .nil, e => by
    cases e
    exact ⟨[], [], rfl, rfl, rfl, fun j a w h => by simp at h, fun j a w h => by simp at h⟩
  | x :: rows, rs, _, .cons h r, e => by
    cases x <;> simp only [tups, Option.map_eq_some_iff, reduceCtorEq] at e
    obtain ⟨l, h1, rfl⟩ := e
    obtain ⟨as, ws, rfl, q1, q2, q3, q4⟩ := tups_rep r h1
    cases h with
    | @tup a xs vs' hs hr =>
      refine ⟨a :: as, vs' :: ws, rfl, by simp [q1], by simp [q2], fun j a' w h h' => ?_, fun j r' w h h' => ?_⟩
      · cases j with
        | zero => simp at h h'; subst h; subst h'; exact hs
        | succ j => simp at h h'; exact q3 j a' w h h'
      · cases j with
        | zero => simp at h h'; subst h; subst h'; exact hr
        | succ j => simp at h h'; exact q4 j r' w h h'
/-- the new tuples, told -/
theorem chain_rep {F : Hp} {ρ : List Addr} {m : Store} {G G' : Hp} {cs : List (List V)} {ts : List V} (h : Chain G cs ts G') (o : Wo K tb F ρ m G) : ∀ (ps : List (List Dv × List V)), cs = ps.map (·.2) → (∀ q ∈ ps, RepL K tb F q.1 q.2) → ∃ F', Ext F ρ F' ρ ∧ Wo K tb F' ρ m G' ∧ RepL K tb F' (ps.map fun q => Dv.tup q.1) ts := by
  induction h with
  | nil =>
    intro ps e _
    have : ps = [] := by simpa using e.symm
    subst this
    exact ⟨F, .refl _ _, o, .nil⟩
  | @snoc G0 cs ts T c hc hT ih =>
    intro ps e hp
    obtain ⟨p1, p2, rfl, e1, e2⟩ := List.map_eq_append_iff.mp e.symm
    obtain ⟨q, rfl, e3⟩ : ∃ q, p2 = [q] ∧ q.2 = c := by
      cases p2 with
      | nil => simp at e2
      | cons q p2 =>
        simp at e2
        exact ⟨q, by rw [e2.2], e2.1⟩
    obtain ⟨F1, x1, o1, r1⟩ := ih p1 e1.symm fun q hq => hp q (by simp [hq])
    obtain ⟨o2, x2⟩ := o1.alloc hT (.tup c)
    have rq := (hp q (by simp)).mono (x1.le.trans x2.le)
    rw [e3] at rq
    refine ⟨_, x1.trans x2, o2, ?_⟩
    rw [List.map_append]
    exact (r1.mono x2.le).append (.cons (.tup (.inl (.inl upd_same)) rq) .nil)
theorem rf_zipS (hc : X.calm = true) (hl : Gl X "list") (hml : X.mg "list" = none) (hg : Gl X "zip") (hm : X.mg "zip" = none) (ha : RE X tb W a fa) : RF X tb W (.Call (.Name "list" p1) [.Call (.Name "zip" p) [.Starred a p4] [] p3] [] p2) (fZipS fa) := by
  refine PE.weak (pe_listZipS hc hl hml hg hm ha) fun σ H Q q => ?_
  obtain ⟨F, ρ, en, m, he, ho, q⟩ := q
  refine tE_bindF he ho q fun x m1 F1 ρ1 H1 v e1 he1 ho1 r1 q1 => ?_
  split at q1
  · rename_i rows m2 hd
    obtain ⟨F2, x2, o2, r2⟩ := frz_ok ho1 r1 hd
    split at q1
    · rename_i rs hrs
      split at q1
      · rename_i hk
        simp only [Bool.and_eq_true, decide_eq_true_eq, List.all_eq_true] at hk
        obtain ⟨⟨⟨⟨k1, k2⟩, k3⟩, k4⟩, k5⟩ := hk
        cases r2 with
        | @tup a xs vs hs hr =>
          obtain ⟨as, ws, rfl, j1, j2, j3, j4⟩ := tups_rep hr hrs
          refine ⟨a, as, ws, wide rs, rfl, o2.sub.sqt hs, j1, by omega, by omega, k3, k4, fun j r row h h' => ?_, fun ts G' S hch hS => ?_⟩
          · refine ⟨o2.sub.sqt (j3 j r row h h'), ?_⟩
            have hj : j < rs.length := by rw [← j2]; exact (List.getElem?_eq_some_iff.mp h).1
            have := j4 j rs[j] row (List.getElem?_eq_getElem hj) h'
            rw [← this.length]
            exact k5 _ (List.getElem_mem _)
          · have rw_ : ∀ i : Nat, RepL X.K tb F2 (rs.map fun r => r.getD i .non) (ws.map fun r => r.getD i .non) := fun i => by
              have : ∀ (n : Nat) (rs : List (List Dv)) (ws : List (List V)), rs.length = n → ws.length = n → (∀ (j : Nat) (r : List Dv) (w : List V), rs[j]? = some r → ws[j]? = some w → RepL X.K tb F2 r w) → RepL X.K tb F2 (rs.map fun r => r.getD i .non) (ws.map fun r => r.getD i .non) := by
                intro n
                induction n with
                | zero =>
                  intro rs ws e1 e2 _
                  rw [List.eq_nil_of_length_eq_zero e1, List.eq_nil_of_length_eq_zero e2]
                  exact .nil
                | succ n ih =>
                  intro rs ws e1 e2 h
                  cases rs with
                  | nil => simp at e1
                  | cons r rs =>
                    cases ws with
                    | nil => simp at e2
                    | cons w ws =>
                      exact .cons (repL_getD i (h 0 r w rfl rfl)) (ih rs ws (by simpa using e1) (by simpa using e2) fun j r' w' h1 h2 => h (j + 1) r' w' (by simpa using h1) (by simpa using h2))
              exact this rs.length rs ws rfl (by omega) j4
            obtain ⟨F3, x3, o3, r3⟩ := chain_rep hch o2 ((List.range (wide rs)).map fun i => (rs.map fun r => r.getD i .non, ws.map fun r => r.getD i .non)) (by rw [List.map_map]; rfl) (fun q hq => by
              obtain ⟨i, _, rfl⟩ := List.mem_map.mp hq
              exact rw_ i)
            rw [List.map_map] at r3
            exact q1 F3 ρ1 G' S ts (x2.trans x3) o3 hS r3
      · exact q1.elim
    · exact q1.elim
  · exact q1.elim
end
end EvL
end

section
set_option Elab.async false
set_option linter.all false
set_option maxRecDepth 100000
set_option maxHeartbeats 4000000
/-! E22: built-ins of two; defs with their facts in one -/
namespace EvL
open PySem PySem.Spec PyProof.Rows L2
section
variable {K : PySem.W.Frag} {tb : Tb} {W : WX} {X : Cx} {a b : Expr} {fa fb : Sem1} {pos p : Pos} {x : Str} {bid : String}
def sTwo (op : Int → Int → Int) (fa fb : Sem1) : Sem1 := sBin (iop fun i j => .int (op i j)) fa fb
theorem re_b2 {op : Int → Int → Int} (hc : CallR X (.builtin bid) (fun xs H Q => ∃ i j, xs = [.int i, .int j] ∧ Q (.int (op i j)) H)) (hg : Gl X x) (hm : X.mg x = none) (hv : bootBuiltins x = some (.builtin bid)) (ha : RE X tb W a fa) (hb : RE X tb W b fb) (hn : x ≠ "__name__" := by decide) (hdb : (x == ("__debug__" : Str)) = false := by decide)
    (hs : starEach [a, b] X.env = (false, eval a X.env) :: starEach [b] X.env := by rfl) (hs2 : starEach [b] X.env = (false, eval b X.env) :: starEach [] X.env := by rfl) (hpl : (backTo pos (starEach [b] X.env)).any (·.1) = false := by rfl) : RE X tb W (.Call (.Name x p) [a, b] [] pos) (sTwo op fa fb) := by
  refine PE.weak (pe_callB hc hg hm hv (pa_cons ha (pa_cons hb pa_nil hs2) hs) hn hdb hs hpl) fun σ H Q q => ?_
  obtain ⟨F, ρ, en, m, he, ho, q⟩ := tE_iff.mp q
  refine tE_bind he ho q fun y m1 F1 ρ1 H1 v e1 he1 ho1 r1 q1 => ?_
  refine tE_bind he1 ho1 q1 fun z m2 F2 ρ2 H2 u e2 he2 ho2 r2 q2 => ?_
  split at q2
  · rename_i d1 d2 h1 h2
    have t1 := rv_top ho2 (r1.mono e2) h1
    have t2 := rv_top ho2 r2 h2
    cases d1 <;> cases d2 <;> try exact q2.elim
    exact ⟨_, _, by rw [t1.int, t2.int], q2 F2 ρ2 H2 _ (.refl _ _) ho2 (.d (.int _))⟩
  · exact q2.elim
theorem re_min2 (hc : X.calm = true) (hg : Gl X "min") (hm : X.mg "min" = none) (ha : RE X tb W a fa) (hb : RE X tb W b fb) (hs : starEach [a, b] X.env = (false, eval a X.env) :: starEach [b] X.env := by rfl) (hs2 : starEach [b] X.env = (false, eval b X.env) :: starEach [] X.env := by rfl) (hpl : (backTo pos (starEach [b] X.env)).any (·.1) = false := by rfl) :
    RE X tb W (.Call (.Name "min" p) [a, b] [] pos) (sTwo (fun i j => if j < i then j else i) fa fb) := re_b2 (call_min2 hc) hg hm (by decide +kernel) ha hb (by decide) (by decide) hs hs2 hpl
theorem re_max2 (hc : X.calm = true) (hg : Gl X "max") (hm : X.mg "max" = none) (ha : RE X tb W a fa) (hb : RE X tb W b fb) (hs : starEach [a, b] X.env = (false, eval a X.env) :: starEach [b] X.env := by rfl) (hs2 : starEach [b] X.env = (false, eval b X.env) :: starEach [] X.env := by rfl) (hpl : (backTo pos (starEach [b] X.env)).any (·.1) = false := by rfl) :
    RE X tb W (.Call (.Name "max" p) [a, b] [] pos) (sTwo (fun i j => if j > i then j else i) fa fb) := re_b2 (call_max2 hc) hg hm (by decide +kernel) ha hb (by decide) (by decide) hs hs2 hpl
end
/-- a def of the top: x, text st -/
structure Dt (K : PySem.W.Frag) (mg : Str → Option Value) (x : Str) (st : Stmt) (ps : List Str) : Prop where
  ex : ∃ (f : Addr) (fd : FuncData), Fun K x x st f fd ∧ Binds K fd ps [] ∧ KwB K fd ps 0 ps ∧ mg x = some (.ref f)
/-- its promise -/
structure FoX (P : Program) (w : World) (K : PySem.W.Frag) (mg : Str → Option Value) (gb : Heap) (tb : Tb) (k : Nat) (x : Str) (ps : List Str) (g : Fs) : Prop where
  ex : ∃ (f : Addr) (fd : FuncData), Fo P w K mg gb tb k x ps g f fd ∧ KwB K fd ps 0 ps
  ar : Ar ps.length g
section
variable {P : Program} {w : World} {K : PySem.W.Frag} {mg : Str → Option Value} {gb : Heap} {tb : Tb} {W : WX} {X : Cx} {e : Expr} {es : List Expr} {fl : SemL} {pos p : Pos} {j k : Nat} {x : Str} {ps ks : List Str} {g : Fs} {kws : List Keyword} {st : Stmt} {N : List Str}
theorem FoX.up (F : FoX P w K mg gb tb j x ps g) (h : j ≤ k) : FoX P w K mg gb tb k x ps g := by
  obtain ⟨⟨f, fd, F1, F2⟩, ar⟩ := F
  exact ⟨⟨f, fd, F1.up h, F2⟩, ar⟩
theorem fo_mk {G : SemS} (D : Dt K mg x st ps) (S : FnScope N ps (defScope st))
    (body : ∀ (f : Addr) (cdv : Value) (A : Around) (up : List Env) (s : Shared) (H : Hp) (E : XK), Room k (A.deeper (envOfC x (defScope st) s.heap.objs.size f cdv)) → A.guards = some [] →
      ∀ W : WX, Takes (cxOf (L2.CX P w) P w K mg gb N x (defScope st) f cdv A up s H E) W → RSs (cxOf (L2.CX P w) P w K mg gb N x (defScope st) f cdv A up s H E) tb W (defBody st) G) :
    FoX P w K mg gb tb (k + 1) x ps (fnS N.length ps.length G) := by
  obtain ⟨f, fd, F, b, kb, hm⟩ := D.ex
  exact ⟨⟨f, fd, ⟨fnE F S fun cdv A up s H E hr hg W tk => body f cdv A up s H E hr hg W tk, hm, F.kp, b⟩, kb⟩, ar_fnS⟩
/-- a def of which nothing is promised -/
theorem fo_no (D : Dt K mg x st ps) : FoX P w K mg gb tb k x ps (fun _ _ => .no) := by
  obtain ⟨f, fd, F, b, kb, hm⟩ := D.ex
  exact ⟨⟨f, fd, ⟨⟨fun vs H Q E h => h.1, fun A up s H ar us vs Q E _ _ _ _ _ h => by obtain ⟨_, _, _, _, _, _, _, z⟩ := h; exact z.elim⟩, hm, F.kp, b⟩, kb⟩, fun _ _ _ => rfl⟩
theorem re_fo (F : FoX X.prog X.w X.K X.mg X.base tb k x ps g) (hr : Room k X.A) (hgu : X.A.guards = some []) (tk : Takes X W) (hg : Gl X x) (ha : RA X tb W (e :: es) fl)
    (hdb : (x == ("__debug__" : Str)) = false := by decide) (hs : starEach (e :: es) X.env = (false, eval e X.env) :: starEach es X.env := by rfl) (hpl : (backTo pos (starEach es X.env)).any (·.1) = false := by rfl) :
    RE X tb W (.Call (.Name x p) (e :: es) [] pos) (sCall g fl) := by
  obtain ⟨⟨f, fd, F1, _⟩, ar⟩ := F
  exact re_call F1 hr hgu tk ar hg ha hdb hs hpl
theorem re_foK (F : FoX X.prog X.w X.K X.mg X.base tb k x ps g) (hr : Room k X.A) (hgu : X.A.guards = some []) (tk : Takes X W) (hg : Gl X x) (ha : RK X tb W kws fl)
    (hall : (backToKw pos (keywordEach kws X.env)).all (·.1.isSome) = true := by rfl) (hks : (backToKw pos (keywordEach kws X.env)).filterMap (·.1) = ps := by rfl) (hdb : (x == ("__debug__" : Str)) = false := by decide)
    (hpl : ((backTo pos (starEach [] X.env)).any (·.1) || (backToKw pos (keywordEach kws X.env)).any (·.1.isNone)) = false := by rfl) :
    RE X tb W (.Call (.Name x p) [] kws pos) (sCall g fl) := by
  obtain ⟨⟨f, fd, F1, kb⟩, ar⟩ := F
  exact re_callK0 F1 kb hr hgu tk ar hg ha hall hks hdb hpl
/-- held in the table -/
theorem ft_of {n : Nat} (F : FoX P w K mg gb tb k x ps g) (hm : mg x = some (.ref (tb.fnA n))) : Ft P w K mg gb tb k n g := by
  obtain ⟨⟨f, fd, F1, kb⟩, ar⟩ := F
  have e := F1.mg
  rw [hm] at e
  cases e
  exact ⟨ps, fd, F1.ok, F1.kp, F1.bd, ar⟩
theorem Ft.up {n : Nat} (F : Ft P w K mg gb tb j n g) (h : j ≤ k) : Ft P w K mg gb tb k n g := by
  obtain ⟨ps, fd, F1, F2⟩ := F.ex
  exact ⟨ps, fd, F1.up h, F2⟩
end
section
variable {tb : Tb} {W : WX} {X : Cx} {e : Expr} {f : Sem1} {pos p1 p2 p3 : Pos} {x : Str} {i : Nat}
theorem rs_app2 (hi : PE X (.Name x p1) (tVar i)) (he : RE X tb W e f) (hs : swapsWith (.Call (.Attribute (.Name x p1) "append" p2) [e] [] p3) none pos.line X.env = pure false := by rfl)
    (hst : starEach [e] X.env = (false, eval e X.env) :: starEach [] X.env := by rfl) (hbase : attributeBase (.Name x p1) "append" X.env (eval (.Name x p1) X.env) = eval (.Name x p1) X.env := by rfl)
    (hfew : ((backTo p3 (starEach (e :: []) X.env)).all (fun x => !x.1) && (backToKw p3 (keywordEach [] X.env)).all (fun x => x.1.isSome) && decide ((e :: []).length + ([] : List Keyword).length + (if ([] : List Keyword).isEmpty then 0 else 1) < 30)) = true := by rfl)
    (hline : (p2.endLine == p3.line) = true := by rfl) (hpl : (backTo p3 (starEach [] X.env)).any (·.1) = false := by rfl) : RS X tb W (.Expr (.Call (.Attribute (.Name x p1) "append" p2) [e] [] p3) pos) (gApp i f) :=
  rs_app hi he hs hst (pe_bm PySem.F.plainAttrs_list PySem.F.slot_list_append PySem.F.type_list_append mt_append hi (pa_cons he pa_nil hst) hbase hfew hline hst hpl)
end
theorem takesS {X : Cx} {a : Addr} {pn : List (Addr × Obj)} : Takes (X.suite a pn) WN := fun _ _ ⟨_, _, _, _, _, _, _, _, _, _, _, _, _, _, _, _, w⟩ => w.elim
end EvL
end

section
set_option Elab.async false
set_option linter.all false
set_option maxRecDepth 100000
set_option maxHeartbeats 4000000
/-! E23: the head of a law, its promise told where no repr is under way -/
namespace EvL
open PySem PySem.Spec PyProof.Rows L2
theorem head_call {P : Program} {w : World} {K : PySem.W.Frag} {mg mb : Str → Option Value} {k : Nat} {fa a : Addr} {tb : Tb} {nm x : Str} {g : Fs} {s₁ : Shared} {vs : List Value} {ns : List Int}
    (KX : K.In s₁.heap) (hns : s₁.heap.Ns mainGlobals mg) (hb : s₁.heap.Ns builtinsNs mb) (hbb : ∀ x : Str, x ≠ "__name__" → mb x = bootBuiltins x) (hlim : s₁.heap.NoLimit) (hg : s₁.gens = #[])
    (ha : s₁.heap.get? a = some { cls := .type "list", data := .seq vs.toArray }) (hi : IntsAre vs ns) (hl : ns.length ≤ sizeLine) (hr : Room k callerA)
    (F : ∀ gb : Heap, K.In gb → gb.Ns mainGlobals mg → FoX P w K mg gb tb k nm [x] g) (hfa : mg nm = some (.ref fa))
    (hsp : ∀ H : Hp, SqL K H a (ns.map V.int) → spE K tb 1 g [.ref a] H (fun v _ => v = .bl true) fun _ _ _ => False) :
    codeAny (model P w) callerA (.call (.ref fa) ⟨[.ref a], []⟩) (fun r s' => r = .ok (.ret (.bool true)) ∧ OldK s₁.heap s'.heap ∧ s'.os = s₁.os ∧ AllBare s'.gens) s₁ := by
  have rv := vals_ints hi
  have lenV := hi.length
  have main : ∀ H : Hp, Only H → SqL K H a (ns.map V.int) → HOk P w H s₁.heap → (∀ b, H b ≠ none → b = a) → (H a ≠ none → K.lookup a = none) →
      codeAny (model P w) callerA (.call (.ref fa) ⟨[.ref a], []⟩) (fun r s' => r = .ok (.ret (.bool true)) ∧ OldK s₁.heap s'.heap ∧ s'.os = s₁.os ∧ AllBare s'.gens) s₁ := by
    intro H only seq ok one out
    have keep : ∀ {b : Addr} {o : Obj}, s₁.heap.get? b = some o → H b = none → (hidT s₁.heap H).get? b = some o := fun e n => hidT_get e n
    have notD : ∀ {b : Addr} {o : Obj} {es : Array DictEntry} {ep : Nat}, s₁.heap.get? b = some o → o.data = .dict es ep → H b = none := fun {b o es ep} e d => by
      cases q : H b with
      | none => rfl
      | some u =>
        obtain rfl : b = a := one b (by rw [q]; simp)
        rw [ha] at e; cases e
        have d2 : Data.seq vs.toArray _ = Data.dict es ep := d
        cases d2
    have kNs : ∀ {b : Addr} {m : Str → Option Value}, s₁.heap.Ns b m → (hidT s₁.heap H).Ns b m := fun {b m} ⟨o, es, ep, e, d, r⟩ => ⟨o, es, ep, keep e (notD e d), d, r⟩
    have kIn : K.In (hidT s₁.heap H) := fun b o e => keep (KX b o e) (by
      cases q : H b with
      | none => rfl
      | some u =>
        obtain rfl : b = a := one b (by rw [q]; simp)
        rw [out (by rw [q]; simp)] at e; cases e)
    have hM : Mod K mg (hidT s₁.heap H) := ⟨kIn, kNs hns, ⟨mb, kNs hb, hbb⟩, let ⟨mc, h1, h2⟩ := hlim; ⟨mc, kNs h1, h2⟩⟩
    have e0 : Env0 P w K mg (hidT s₁.heap H) callerA [] s₁ H := ⟨rfl, hM, fun b o e => of_hidT e, Nat.le_of_eq (hidT_size _ _), trivial, fun b hb => absurd (show b ∈ ([] : List Addr) from hb) (by simp), ok, .of_eq hg⟩
    obtain ⟨⟨f, fd, Fo, _⟩, _⟩ := F _ kIn (kNs hns)
    have ef := Fo.mg
    rw [hfa] at ef
    cases ef
    refine codeAny_mono (Fo.ok.go callerA [] s₁ H ⟨[.ref a], []⟩ [.ref a] [.ref a] _ _ hr rfl e0 (Fo.bd s₁ [.ref a] KX rfl) (.cons rfl .nil) (hsp H seq)) fun r s' h => ?_
    cases r with
    | error e =>
      obtain ⟨_, _, _, _, _, _, _, _, _, _, _, _, z⟩ := (show L2.CX P w [] H s₁ (fun _ _ _ => False) e s' from h)
      exact z.elim
    | ok fl =>
      cases fl with
      | ret u =>
        obtain ⟨v, H', os, bare, un, ok2, r2, q⟩ := h
        have q2 : v = .bl true := q
        subst q2
        obtain rfl : u = Value.bool true := r2
        refine ⟨rfl, OldK.of_keep fun b o e => ?_, os, bare⟩
        cases q : H b with
        | none => exact un.keep b o e q (by intro z; exact absurd (show b ∈ ([] : List Addr) from z) (by simp)) (by simp)
        | some u =>
          rcases only b with z | ⟨ob, xs, z⟩
          · rw [q] at z; cases z
          · obtain ⟨e1, _⟩ := ok b _ z
            obtain ⟨e2, _⟩ := ok2 b _ (un.frzs b ob _ z)
            rw [e] at e1; cases e1
            exact e2
      | _ => exact False.elim h
  cases hk : K.lookup a with
  | some o =>
    have e := KX a o hk
    rw [ha] at e
    cases e
    refine main (fun _ => none) (fun _ => .inl rfl) (.inr ⟨_, vs.toArray, _, hk, rfl, rfl, rfl, by rw [List.size_toArray, lenV]; exact hl, by simpa using rv⟩) (fun b u z => by have z2 : (none : Option HO) = some u := z; cases z2) (fun b z => absurd rfl z) fun z => absurd rfl z
  | none =>
    refine main (fun b => if b = a then some (.frz { cls := .type "list", data := .seq vs.toArray } (.lst (ns.map V.int))) else none) (fun b => ?_) (.inl (.inr ⟨{ cls := .type "list", data := .seq vs.toArray }, if_pos rfl⟩)) (fun b u z => ?_) (fun b z => ?_) fun _ => hk
    · by_cases h : b = a
      · exact .inr ⟨_, _, if_pos h⟩
      · exact .inl (if_neg h)
    · by_cases h : b = a
      · have z2 := (if_pos h).symm.trans z
        cases z2
        subst h
        exact ⟨ha, by rw [List.length_map]; exact hl, vs, _, rv, ha⟩
      · have z2 := (if_neg h).symm.trans z
        cases z2
    · by_cases h : b = a
      · exact h
      · exact absurd (if_neg h) z
def mkTb (as cs : List Addr) : Tb where
  fnA := fun n => as.getD n 0
  clA := fun n => cs.getD n 0
  isL := fun _ _ _ => False
  isM := fun _ _ _ _ _ h => h
  isU := fun _ _ _ _ h => h
  isC := fun _ _ => False
  isCM := fun _ _ _ _ h => h
  hp := fun _ => True
  hpS := fun _ _ _ _ => trivial
/-- all but the tables -/
def noT (H : Hp) : Hp := fun b => match H b with
  | some (.tbl _) => none
  | x => x
theorem noT_le (H : Hp) : Le (noT H) H := fun b o e => by
  unfold noT at e
  split at e
  · cases e
  · exact e
theorem noT_nt (H : Hp) (b : Addr) (ps : Array Value) : noT H b ≠ some (.tbl ps) := fun e => by
  have e2 := noT_le H b _ e
  unfold noT at e
  rw [e2] at e
  cases e
theorem noT_at {H : Hp} {b : Addr} {o : HO} (e : H b = some o) (h : ∀ ps, o ≠ .tbl ps) : noT H b = some o := by
  unfold noT
  rw [e]
  split
  · rename_i ps z; cases z; exact absurd rfl (h ps)
  · rfl
theorem noT_sql {K : PySem.W.Frag} {H : Hp} {a : Addr} {vs : List V} (h : SqL K H a vs) : SqL K (noT H) a vs := by
  rcases h with h | h
  · refine .inl ?_
    rcases h with h | ⟨u, h⟩
    · exact .inl (noT_at h (by intro _ z; cases z))
    · exact .inr ⟨u, noT_at h (by intro _ z; cases z)⟩
  · exact .inr h
/-- what k_head leaves, from what the law's def computes -/
theorem walkG {l : PySem.W.OpenLaw} {n k : Nat} {q : Program} {loose : List Str} {XP : (Str → Option Value) → Heap → Prop} {YP : World → Heap → Prop} {d : DefRec} {K : Params → PySem.W.Frag} {x : Str} {g : Fs}
    (hn : l.most = some n) (hn2 : n ≤ sizeLine) (hdf : d.params.defaults = []) (hr : Room k callerA) (hY : ∀ (w : World) (h : Heap), YP w h → (K w.params).In h)
    (F : ∀ (w : World) (mg : Str → Option Value) (h : Heap), (K w.params).In h → h.Ns mainGlobals mg → ∃ as cs : List Addr, ∀ gb : Heap, FoX l.prog w (K w.params) mg gb (mkTb as cs) k d.name [x] g)
    (hg : ∀ ns : List Int, ns.length ≤ n → ∃ m, g [.d (.scr ns)] [] = .ok (.d (.bl true)) m) : PySem.W.WalkO q loose XP YP l.row.toRowW d [] (fun f vs => PySem.call f vs) := by
  refine Att.attach_call hn hdf fun w s₀ s₁ mg mb fa o pm cd doc a vs ns G Y ho hd hcd hmg hobj hints hlen hgn => ?_
  have KX := hY w _ Y
  obtain ⟨as, cs, hF⟩ := F w mg _ KX G.T.g
  refine head_call KX G.T.g G.T.b G.T.builtins G.T.nolimit hgn hobj hints (Nat.le_trans hlen hn2) hr (fun gb _ _ => hF gb) hmg fun H hS => ⟨rfl, ?_⟩
  obtain ⟨m, e⟩ := hg ns hlen
  refine ⟨noT H, [], [.d (.scr ns)], [], .cons (.d (.scr (noT_sql hS))) .nil, ⟨noT_le H, rfl, List.nodup_nil, fun i a xs h => by simp at h, fun i a xs h => by simp at h, fun a h => by simp at h, trivial, noT_nt H⟩, ?_⟩
  rw [e]
  intro F' ρ' H' v _ _ r
  cases r with
  | d r => cases r; rfl
/-! facts of the written part -/
section
variable {P : Program} {K : PySem.W.Frag} {h : Heap} {mg : Str → Option Value} {tb : Tb} {x f pref q : Str} {C fI fa cda cc : Addr} {ci : Nat} {st : Stmt} {ps : List Str}
theorem dt_mk {oc kV doc pm cdv ct : Value} {od an : Option Addr} {osl : Array (Option Value)} (X : K.In h) (G : h.Ns mainGlobals mg) (a : PySem.W.nsIn K mainGlobals x = some (some (.ref fa)))
    (l : K.lookup fa = some ⟨oc, od, .func (PySem.W.fnOf x x (defArgs st) (defBody st) (defScope st) .none kV doc pm an cdv ct), osl⟩) (c : PySem.W.codeIn K cdv x = true) (k : PySem.W.keepIn K (.ref fa) = true)
    (hb : ∀ (kV doc pm : Value) (an : Option Addr) (cdv ct : Value) (us : List Value), us.length = ps.length → bindArgs (PySem.W.fnOf x x (defArgs st) (defBody st) (defScope st) .none kV doc pm an cdv ct) ⟨us, []⟩ = pure (ps.zip us))
    (hk : ∀ (kV doc pm : Value) (an : Option Addr) (cdv ct : Value) (us : List Value), us.length = ps.length → bindArgs (PySem.W.fnOf x x (defArgs st) (defBody st) (defScope st) .none kV doc pm an cdv ct) ⟨[], ps.zip us⟩ = pure (ps.zip us)) : Dt K mg x st ps := by
  have F := fun_mk (st := st) l c k
  refine ⟨fa, _, F, F.binds hb, fun s us ws _ hn hl => ?_, PySem.W.mg_of X G a⟩
  obtain rfl : us = [] := List.eq_nil_of_length_eq_zero hn
  rw [List.nil_append] at hl ⊢
  exact .of_eq (hk _ _ _ _ _ _ ws hl)
/-- an error class at C, wherever the table holds it -/
def Er1C (P : Program) (K : PySem.W.Frag) (mg : Str → Option Value) (C : Addr) (x f pref : Str) : Prop := ∀ (tb : Tb) (ci : Nat), tb.clA ci = C → Er1 P K mg tb ci x f pref
def Er0C (K : PySem.W.Frag) (mg : Str → Option Value) (C : Addr) (x : Str) : Prop := ∀ (tb : Tb) (ci : Nat), tb.clA ci = C → Er0 K mg tb ci x
theorem er1_mk {nm q2 : Str} {N : Addr} {bs bm : List Value} {sn : List Str} {sub : List Value} {ab : Bool} {col : Option Bool} {dd : Option Addr} {m0 m1 m2 m3 m5 : Option Value} {oc kV doc pm ct : Value} {od an : Option Addr} {osl : Array (Option Value)} {j : Nat} {p1 p2 q1 q2' q3 q4 q5 q6 q7 q8 q9 q10 q11 q12 q13 : Pos}
    {ccl cl : Value} {cdd cld : Option Addr} {vs : Array Value} {ccs csl : Array (Option Value)} {file : Str} {tf : Tok} (X : K.In h) (G : h.Ns mainGlobals mg)
    (aC : PySem.W.nsIn K mainGlobals x = some (some (.ref C))) (xL : K.lookup C = some (excClassObj nm q2 C N bs bm true sn sub ab col dd m0 m1 m2 m3 m5 "ValueError.__new__"))
    (sa : PySem.W.findIn K (.ref C) "__setattr__" = some (some (.builtin "object.__setattr__"))) (noN : PySem.W.findIn K (.ref C) f = some none) (iC : PySem.W.findIn K (.ref C) "__init__" = some (some (.ref fI)))
    (tC : PySem.W.typeIn K (.ref fI) = some (.type "function")) (kC : PySem.W.keepIn K (.ref C) = true) (exC : PySem.W.subIn K (.ref C) (.type "BaseException") = some true) (veC : PySem.W.subIn K (.ref C) (.type "ValueError") = some true) (tyC : PySem.W.typeIn K (.ref C) = some (.type "type"))
    (op : PySem.W.nsIn K cStatics "thirdparty.any" = some none) (lI : K.lookup fI = some ⟨oc, od, .func (PySem.W.fnX "__init__" q (PySem.EvX.eArgs f p1 p2) (PySem.EvX.eBody pref f j q1 q2' q3 q4 q5 q6 q7 q8 q9 q10 q11 q12 q13) (PySem.EvX.eScope f) [("__class__", cc)] .none kV doc pm an (.ref cda) ct), osl⟩)
    (cI : PySem.W.codeIn K (.ref cda) q = true) (lc : K.lookup cda = some ⟨ccl, cdd, .fields vs, ccs⟩) (hv : vs[2]? = some (.str file tf)) (lcell : K.lookup cc = some ⟨cl, cld, .cell (some (.ref C)), csl⟩) (sp : PySem.W.nsIn K mainGlobals "super" = some none)
    (ga : PySem.W.findIn K (.ref C) "__getattribute__" = some (some (.builtin "BaseException.__getattribute__"))) (gg : PySem.W.findIn K (.ref C) "__getattr__" = some none) (hdC : PySem.W.hasDictIn K C = true)
    (hbm : PySem.HandSPX.refsVE bm = true) (su : PySem.W.alongIn K "__init__" bm = some (some (.builtin "ValueError.__init__"))) (hfile : ((P.main.file : Str) == file) = true) (hln : (q3.endLine == q8.line) = true)
    (hbn : ∀ a b : Value, bindArgs (PySem.W.fnX "__init__" q (PySem.EvX.eArgs f p1 p2) (PySem.EvX.eBody pref f j q1 q2' q3 q4 q5 q6 q7 q8 q9 q10 q11 q12 q13) (PySem.EvX.eScope f) [("__class__", cc)] .none kV doc pm an (.ref cda) ct) ⟨[a, b], []⟩ = (pure [(("self" : Str), a), (f, b)] : Sem (List (Str × Value))))
    (top : (P.main.scope.names.lookup ("super" : Str)).isSome = false) (okf : PySem.EvX.okF f = true) (hp : pref.length ≤ 1000) : Er1C P K mg C x f pref := by
  intro tb ci ht
  subst ht
  have hcl : PySem.W.clsIn K (tb.clA ci) = some { name := nm, bases := bs, mro := .ref (tb.clA ci) :: bm, ns := N, qualname := q2, hasDict := true, slotNames := sn, subclasses := sub, abstract := ab, collection := col, hasDel := false } := by unfold PySem.W.clsIn; rw [xL] <;> rfl
  refine ⟨⟨fI, { gC := PySem.W.mg_of X G aC, cls := ⟨nm, q2, N, bs, bm, sn, sub, ab, col, dd, m0, m1, m2, m3, m5, xL, hbm⟩, sa := sa, noN := noN, iC := iC, tC := tC, kC := kC, exC := exC, veC := veC, tyC := tyC, su := ?_, op := op, mr := ?_, fn := ⟨oc, od, q, doc, pm, kV, an, ct, osl, cda, cc, j, p1, p2, q1, q2', q3, q4, q5, q6, q7, q8, q9, q10, q11, q12, q13, lI, hln, hbn, cI, ⟨ccl, cdd, vs, ccs, file, tf, lc, hv, hfile⟩, ⟨cl, cld, csl, lcell⟩⟩, sp := PySem.W.mg_none_of X G sp, top := top, okf := okf, hp := hp }⟩, ⟨ga, gg, exC, hdC⟩⟩
  · unfold PySem.W.ks_superIn
    rw [hcl]
    show PySem.W.alongIn K "__init__" (((Value.ref (tb.clA ci) :: bm).dropWhile (· != .ref (tb.clA ci))).drop 1) = _
    have : ((Value.ref (tb.clA ci) :: bm).dropWhile (· != .ref (tb.clA ci))) = Value.ref (tb.clA ci) :: bm := by simp [List.dropWhile_cons]
    rw [this]
    exact su
  · unfold PySem.W.mroIn
    rw [hcl]
    simp
theorem conT_mk {A : Addr} {ns : List Int} {o : Obj} {its : Array Value} {n : Nat} (X : K.In h) (G : h.Ns mainGlobals mg) (a : PySem.W.nsIn K mainGlobals x = some (some (.ref A))) (l : K.lookup A = some o) (hc : o.cls = .type "tuple") (hd : o.data = .seq its n) (hz : its.size ≤ sizeLine) (hv : Vals (ns.map V.int) its.toList) : ConT K mg x ns :=
  ⟨A, o, its, n, PySem.W.mg_of X G a, l, hc, hd, hz, hv⟩
theorem er0_mk (X : K.In h) (G : h.Ns mainGlobals mg) (aC : PySem.W.nsIn K mainGlobals x = some (some (.ref C))) (q : PySem.W.excIn K C [.type "ValueError", .type "Exception", .type "BaseException", .type "object"] "ValueError.__new__" = true) (kC : PySem.W.keepIn K (.ref C) = true)
    (exC : PySem.W.subIn K (.ref C) (.type "BaseException") = some true) (tyC : PySem.W.typeIn K (.ref C) = some (.type "type")) : Er0C K mg C x := by
  intro tb ci ht
  subst ht
  exact ⟨⟨_, _, _, _, F.excBase_ValueError, q⟩, PySem.W.mg_of X G aC, kC, exC, tyC⟩
end
end EvL
end

section
set_option Elab.async false
set_option linter.all false
set_option maxRecDepth 100000
set_option maxHeartbeats 4000000
/-! E24: lambdas made, and kept as data -/
namespace EvL
open PySem PySem.Spec PyProof.Rows L2 LamX
/-- what the one table tells, the other tells too -/
structure Sub (tb tb' : Tb) : Prop where
  fn : tb'.fnA = tb.fnA
  cl : tb'.clA = tb.clA
  lam : ∀ n F a, tb.isL n F a → tb'.isL n F a
  hp : ∀ H, tb.hp H → tb'.hp H
section
variable {K : PySem.W.Frag} {tb tb' : Tb}
theorem Sub.refl (tb : Tb) : Sub tb tb := ⟨rfl, rfl, fun _ _ _ h => h, fun _ h => h⟩
mutual
theorem Rep.conv {F : Hp} (s : Sub tb tb') : ∀ {d : Dv} {v : V}, Rep K tb F d v → Rep K tb' F d v
  | _, _, .non => .non
  | _, _, .bl b => .bl b
  | _, _, .int i => .int i
  | _, _, .str x => .str x
  | _, _, .tup h r => .tup h (RepL.conv s r)
  | _, _, .lst h r => .lst h (RepL.conv s r)
  | _, _, .dic h r => .dic h (RepK.conv s r)
  | _, _, .fn n h => by rw [← s.fn]; exact .fn n h
  | _, _, .lam h => .lam (s.lam _ _ _ h)
  | _, _, .scr h => .scr h
theorem RepL.conv {F : Hp} (s : Sub tb tb') : ∀ {d : List Dv} {v : List V}, RepL K tb F d v → RepL K tb' F d v
  | _, _, .nil => .nil
  | _, _, .cons h r => .cons (Rep.conv s h) (RepL.conv s r)
theorem RepK.conv {F : Hp} (s : Sub tb tb') : ∀ {d : List (Key × Dv)} {v : List (Key × V)}, RepK K tb F d v → RepK K tb' F d v
  | _, _, .nil => .nil
  | _, _, .cons h r => .cons (Rep.conv s h) (RepK.conv s r)
end
theorem Wo.conv {F H : Hp} {ρ : List Addr} {m : Store} (s : Sub tb tb') (o : Wo K tb F ρ m H) : Wo K tb' F ρ m H :=
  ⟨o.sub, o.len, o.nd, fun i a xs h1 h2 => let ⟨q1, vs, q2, q3⟩ := o.lst i a xs h1 h2; ⟨q1, vs, q2, q3.conv s⟩, fun i a xs h1 h2 => let ⟨q1, vs, q2, q3⟩ := o.dic i a xs h1 h2; ⟨q1, vs, q2, q3.conv s⟩, o.has, s.hp _ o.hp, o.nt⟩
theorem XRep.conv {F : Hp} {x : Ex} {c : Value} {d : Option Addr} (s : Sub tb tb') (h : XRep K tb F x c d) : XRep K tb' F x c d := by
  obtain ⟨h1, h2⟩ := h
  refine ⟨by rw [s.cl]; exact h1, ?_⟩
  cases e : x.pay with
  | none => trivial
  | some p =>
    obtain ⟨f, y⟩ := p
    rw [e] at h2
    obtain ⟨dd, v, a1, a2, a3⟩ := h2
    exact ⟨dd, v, a1, a2, a3.conv s⟩
/-- the slots that hold data -/
def dataEn (en : En) : En := en.map fun x => match x with
  | some (.d d) => some (.d d)
  | _ => none
theorem dataEn_at {en : En} {i : Nat} {x : Sv} (h : (dataEn en)[i]? = some (some x)) : ∃ d, x = .d d ∧ en[i]? = some (some (.d d)) := by
  unfold dataEn at h
  rw [List.getElem?_map] at h
  cases e : en[i]? with
  | none => rw [e] at h; cases h
  | some y =>
    rw [e] at h
    cases y with
    | none => cases h
    | some z =>
      cases z with
      | d d => cases h; exact ⟨d, rfl, rfl⟩
      | o j => cases h
      | c => cases h
theorem EnvOk.data {F F' : Hp} {ρ ρ' : List Addr} {en : En} {σ : L2.St} (s : Sub tb tb') (l : Le F F') (h : EnvOk K tb F ρ en σ) : EnvOk K tb' F' ρ' (dataEn en) σ := by
  refine ⟨by simp [dataEn, h.len], fun i x q => ?_⟩
  obtain ⟨d, rfl, e⟩ := dataEn_at q
  obtain ⟨v, a, b⟩ := h.at_ i _ e
  exact ⟨v, a, .d (((RepS.rv (m := []) b).mono l).conv s)⟩
end
/-- a lambda's object -/
def LamO (f : Addr) (q : Str) (params : Arguments) (body : Expr) (scope : Scope) (cl : List (Str × Addr)) (c' : Addr) (dv : Value) : HO := .ext fun h => ∃ pm ctv doc : Value, h.get? f = some (PySem.W.kdv_obj "<lambda>" q params (.expr body) scope cl dv doc pm c' ctv)
theorem lamO_nt {f : Addr} {q : Str} {params : Arguments} {body : Expr} {scope : Scope} {cl : List (Str × Addr)} {c' : Addr} {dv : Value} (ps : Array Value) : LamO f q params body scope cl c' dv ≠ .tbl ps := fun z => by unfold LamO at z; cases z
theorem lamO_nl {f : Addr} {q : Str} {params : Arguments} {body : Expr} {scope : Scope} {cl : List (Str × Addr)} {c' : Addr} {dv : Value} (xs : List V) : LamO f q params body scope cl c' dv ≠ .lst xs := fun z => by unfold LamO at z; cases z
theorem lamO_nd {f : Addr} {q : Str} {params : Arguments} {body : Expr} {scope : Scope} {cl : List (Str × Addr)} {c' : Addr} {dv : Value} (xs : List (Key × V)) : LamO f q params body scope cl c' dv ≠ .dK xs := fun z => by unfold LamO at z; cases z
theorem codeO_nl {c' : Addr} {q : Str} (xs : List V) : CodeO c' q ≠ .lst xs := fun z => by unfold CodeO at z; cases z
theorem codeO_nd {c' : Addr} {q : Str} (xs : List (Key × V)) : CodeO c' q ≠ .dK xs := fun z => by unfold CodeO at z; cases z
/-- a lambda of a frame: its text; the name that has a default (0), if one has -/
structure LEn where
  params : Arguments
  body : Expr
  scope : Scope
  dk : Option Str
/-- how its arguments are bound -/
def LEn.Bd (e : LEn) : Prop := match e.dk with
  | none => ∀ (s : Shared) (q : Str) (cl : List (Str × Addr)) (doc pm cdv ct : Value), BindsTo s (PySem.W.kdv_fn "<lambda>" q e.params (.expr e.body) e.scope cl .none doc pm cdv ct) ⟨[], []⟩ []
  | some k => e.scope.names.lookup k = some .local ∧ ∀ (s : Shared) (q : Str) (cl : List (Str × Addr)) (doc pm cdv ct : Value) (d : Addr) (o : Obj) (v : Value) (n : Nat), s.heap.get? d = some o → o.data = .seq #[v] n → BindsTo s (PySem.W.kdv_fn "<lambda>" q e.params (.expr e.body) e.scope cl (.ref d) doc pm cdv ct) ⟨[], []⟩ [(k, v)]
/-- its object stands at f -/
def LamAt (q : Str) (cells : List (Str × Addr)) (e : LEn) (F : Hp) (f : Addr) : Prop := ∃ (c' : Addr) (dv : Value), F f = some (LamO f q e.params e.body e.scope (cloFrom cells e.scope.names []) c' dv) ∧ F c' = some (CodeO c' q) ∧ match e.dk with
  | none => dv = .none
  | some _ => ∃ d, dv = .ref d ∧ F d = some (.tup [V.int 0])
theorem LamAt.mono {q : Str} {cells : List (Str × Addr)} {e : LEn} {F F' : Hp} {f : Addr} (l : Le F F') (h : LamAt q cells e F f) : LamAt q cells e F' f := by
  obtain ⟨c', dv, h1, h2, h3⟩ := h
  refine ⟨c', dv, l _ _ h1, l _ _ h2, ?_⟩
  cases hd : e.dk with
  | none => rw [hd] at h3; exact h3
  | some k => rw [hd] at h3; obtain ⟨d, e1, e2⟩ := h3; exact ⟨d, e1, l _ _ e2⟩
/-- its names: captured ones and globals, and such of its own as the maker has none -/
structure LamK (sc : Scope) (N : List Str) (scope : Scope) : Prop where
  kind : scope.kind = .function
  co : scope.isCoroutine = false
  gen : scope.isGenerator = false
  own : ∀ y ∈ scope.names, y.2 ≠ .cell ∧ (y.2 = .local → y.1 ∉ N)
  free : ∀ y ∈ scope.names, y.2 = .free → sc.names.lookup y.1 = some .cell ∨ sc.names.lookup y.1 = some .free
def lamKB (sc : Scope) (N : List Str) (scope : Scope) : Bool :=
  decide (scope.kind = .function) && (!scope.isCoroutine && (!scope.isGenerator && scope.names.all fun y => (!decide (y.2 = .cell) && (!decide (y.2 = .local) || !N.contains y.1)) && (!decide (y.2 = .free) || (decide (sc.names.lookup y.1 = some .cell) || decide (sc.names.lookup y.1 = some .free)))))
theorem lamK_by {sc scope : Scope} {N : List Str} (h : lamKB sc N scope = true) : LamK sc N scope := by
  unfold lamKB at h
  simp only [Bool.and_eq_true, Bool.or_eq_true, Bool.not_eq_true', decide_eq_true_eq, decide_eq_false_iff_not, List.all_eq_true] at h
  obtain ⟨h1, h2, h3, h4⟩ := h
  refine ⟨h1, h2, h3, fun y hy => ⟨(h4 y hy).1.1, fun e => ?_⟩, fun y hy e => ?_⟩
  · rcases (h4 y hy).1.2 with z | z
    · exact absurd e z
    · intro hm
      rw [List.contains_iff_mem.mpr hm] at z
      cases z
  · rcases (h4 y hy).2 with z | z
    · exact absurd e z
    · exact z
theorem LamK.has {X : Cx} {scope : Scope} {N : List Str} (L : LamK X.env.scope N scope) (ok : X.Ok) : ∀ y ∈ scope.names, y.2 = .free → ∃ c, X.env.cells.lookup y.1 = some c := fun y hy e => by
  rcases L.free y hy e with k | k
  · exact ok.has _ (.inl k)
  · exact ok.has _ (.inr k)
section
variable {X : Cx} {pins : List (Addr × Obj)} {σ : L2.St} {H : Hp} {s : Shared}
/-- a lambda is made, its defaults stand; its object is known from now on -/
theorem lam_tail3 {T : List (Addr × Str)} {c P : Addr} {params : Arguments} {body : Expr} {scope : Scope} {pos : Pos} {fl : Nat} {dv : Value} {E : Value → Shared → Prop} {Q : Value → Shared → Prop} (I : Inv X pins σ H s) (TB : TabB X.base X.mg c P) (hcode : X.env.code = .ref c)
    (hm : (P, X.env.qual ++ "<lambda>") ∈ T) (hu : ∀ p ∈ T, p.1 = P → p.2 = X.env.qual ++ "<lambda>") (hT : Tabs T H) (hfree : ∀ y ∈ scope.names, y.2 = .free → ∃ c, X.env.cells.lookup y.1 = some c)
    (h : ∀ (f c' : Addr) (H1 : Hp) (s' : Shared), Inv X pins σ (upd H1 f (LamO f (X.env.qual ++ "<lambda>") params body scope (cloFrom X.env.cells scope.names []) c' dv)) s' → ExtN H H1 → (∀ b o, H b = some o → ∃ o', H1 b = some o') → Tabs T H1 → H1 f = none → H1 c' = some (CodeO c' (X.env.qual ++ "<lambda>")) → Q (.ref f) s') :
    wpAny (model X.prog X.w) X.A (makeTail "<lambda>" (X.env.qual ++ "<lambda>") params (.expr body) scope X.env dv .none none pos fl) Q E s := by
  obtain ⟨ps, hP, ht, ha⟩ := hT _ hm
  have bP : s.heap.BuiltinsAt X.mg P := TB.bm.keeps I.bk
  have hP' : s.heap.get? P = some { cls := .none, data := .fields ps } := I.hok P _ hP
  have made : ∀ (c' : Addr) (pm ctv doc : Value) (H1 : Hp) (h' : Heap) (tk : Nat), Inv X pins σ H1 { s with heap := h', toks := tk } → Inv X pins σ (upd H1 h'.objs.size (LamO h'.objs.size (X.env.qual ++ "<lambda>") params body scope (cloFrom X.env.cells scope.names []) c' dv)) { s with heap := h'.push (PySem.W.kdv_obj "<lambda>" (X.env.qual ++ "<lambda>") params (.expr body) scope (cloFrom X.env.cells scope.names []) dv doc pm c' ctv), toks := tk } := fun c' pm ctv doc H1 h' tk I1 =>
    I1.laid (t' := tk) (fun b o e => Heap.get?_push_of_some _ e) (Nat.le_refl _) ⟨⟨pm, ctv, doc, Heap.get?_push_size _ rfl⟩, ⟨_, Heap.get?_push_size _ rfl⟩, fun h1 h2 ⟨p1, p2, p3, e⟩ k => ⟨p1, p2, p3, k _ e⟩⟩
  cases hc : codeAmong pos ps.toList with
  | none =>
    refine PySem.W.kdv_makeTail (mg := X.mg) (c := c) (P := P) (ps := ps) (closure_ok hfree) I.ok.glob (I.mod.glob.keeps I.bk) hcode (TB.code.keeps I.bk) hP' ht hc TB.gP bP fun c' ctv doc h' tk hx hge hlt hrec htb => ?_
    obtain ⟨c2, oc, vs, t, e2, hoc, hd, hv⟩ := hrec
    cases e2
    have hsz : s.heap.objs.size ≤ h'.objs.size := Nat.le_trans hge (Nat.le_of_lt hlt)
    have nC : H c' = none := I.hok.fresh hge
    have I1 := inv_table (t' := tk) (more := #[rawInt pos.line, rawInt pos.col, .ref c']) (h' := h') I hP (fun b o hb e => hx b o hb e) htb hge ⟨oc, vs, t, hoc, hd, hv⟩
    have hE : ExtN H (upd (upd H P (.tbl (ps ++ #[rawInt pos.line, rawInt pos.col, .ref c']))) c' (CodeO c' (X.env.qual ++ "<lambda>"))) := fun b o e n => by
      rw [upd_ne (ne_of_none e nC), upd_ne (fun z => n ps (Option.some.inj (e.symm.trans (by rw [z]; exact hP))))]
      exact e
    have eL : (ps ++ #[rawInt pos.line, rawInt pos.col, .ref c']).toList = ps.toList ++ [rawInt pos.line, rawInt pos.col, .ref c'] := by simp
    refine h h'.objs.size c' _ _ (made c' ((X.mg "__name__").getD .none) ctv doc _ h' tk I1) hE (fun b o e => ?_) (fun p hp => ?_) (I1.hok.fresh (Nat.le_refl _)) upd_same
    · by_cases hb : b = c'
      · subst hb; exact ⟨_, upd_same⟩
      · by_cases hb2 : b = P
        · subst hb2; exact ⟨_, by rw [upd_ne hb, upd_same]⟩
        · exact ⟨o, by rw [upd_ne hb, upd_ne hb2]; exact e⟩
    · by_cases hb : p.1 = P
      · rw [hu p hp hb, hb]
        refine ⟨_, by rw [upd_ne (ne_of_none hP nC), upd_same], by rw [eL]; exact PySem.TriplesOk_snoc _ _ _ _ ht, fun p' cv hcv => ?_⟩
        rw [eL] at hcv
        rcases among_app _ ht hcv with z | z
        · obtain ⟨c0, e1, e2⟩ := ha p' cv z
          exact ⟨c0, e1, hE _ _ e2 codeO_ne⟩
        · exact ⟨c', z, upd_same⟩
      · obtain ⟨ps', a1, a2, a3⟩ := hT p hp
        refine ⟨ps', by rw [upd_ne (ne_of_none a1 nC), upd_ne hb]; exact a1, a2, fun p' cv hcv => ?_⟩
        obtain ⟨c0, e1, e2⟩ := a3 p' cv hcv
        exact ⟨c0, e1, hE _ _ e2 codeO_ne⟩
  | some cv =>
    obtain ⟨c', e, hco⟩ := ha pos cv hc
    subst e
    refine PySem.W.kdv_makeTailHit (mg := X.mg) (c := c) (P := P) (ps := ps) (closure_ok hfree) I.ok.glob (I.mod.glob.keeps I.bk) hcode (TB.code.keeps I.bk) hP' ht hc bP fun ctv doc h' tk hx hsz => ?_
    have I1 : Inv X pins σ H { s with heap := h', toks := tk } := I.kept fun b o e => hx b o e
    exact h h'.objs.size c' H _ (made c' _ ctv doc H h' tk I1) (ExtN.refl H) (fun b o e => ⟨o, e⟩) hT (I1.hok.fresh (Nat.le_refl _)) hco
end
end EvL
end

section
set_option Elab.async false
set_option linter.all false
set_option maxRecDepth 100000
set_option maxHeartbeats 4000000
/-! E25: a lambda as an expression -/
namespace EvL
open PySem PySem.Spec PyProof.Rows L2 LamX
section
variable {tb : Tb} {W : WX} {X : Cx} {T : List (Addr × Str)} {params : Arguments} {body : Expr} {scope : Scope} {pos : Pos} {n : Nat} {c P : Addr} {N : List Str}
theorem Wo.lam {K : PySem.W.Frag} {F H H1 : Hp} {ρ : List Addr} {m : Store} {f c' : Addr} {q : Str} {cl : List (Str × Addr)} {dv : Value} (o : Wo K tb F ρ m H) (eN : ExtN H H1) (th : ∀ b o, H b = some o → ∃ o', H1 b = some o') (hp : tb.hp (upd H1 f (LamO f q params body scope cl c' dv))) (hf : H1 f = none) (hc : H1 c' = some (CodeO c' q)) :
    Ext F ρ (upd (upd F c' (CodeO c' q)) f (LamO f q params body scope cl c' dv)) ρ ∧ Wo K tb (upd (upd F c' (CodeO c' q)) f (LamO f q params body scope cl c' dv)) ρ m (upd H1 f (LamO f q params body scope cl c' dv)) := by
  have kp : ∀ b u, F b = some u → H1 b = some u := fun b u e => eN b u (o.sub b u e) fun ps z => o.nt b ps (by rw [e, z])
  have ncf : c' ≠ f := fun z => by rw [z, hf] at hc; cases hc
  have le : Le F (upd (upd F c' (CodeO c' q)) f (LamO f q params body scope cl c' dv)) := fun b u e => by
    have e1 := kp b u e
    have nf : b ≠ f := fun z => by rw [z, hf] at e1; cases e1
    rw [upd_ne nf]
    by_cases h : b = c'
    · subst h; rw [upd_same]; rw [hc] at e1; exact e1
    · rw [upd_ne h]; exact e
  have live : ∀ (a : Addr) (u : HO), H a = some u → (∀ ps, u ≠ .tbl ps) → u ≠ CodeO c' q → H1 a = some u ∧ a ≠ f ∧ a ≠ c' := fun a u e h1 h2 => by
    have e1 := eN a u e h1
    exact ⟨e1, fun z => (by rw [z, hf] at e1; cases e1), fun z => (by rw [z, hc] at e1; exact h2 (Option.some.inj e1).symm)⟩
  refine ⟨⟨le, List.prefix_refl _⟩, ⟨fun b u e => ?_, o.len, o.nd, fun i a xs h1 h2 => ?_, fun i a xs h1 h2 => ?_, fun a ha => ?_, hp, fun b ps e => ?_⟩⟩
  · by_cases h : b = f
    · subst h; rw [upd_same] at e ⊢; exact e
    · rw [upd_ne h] at e ⊢
      by_cases h2 : b = c'
      · subst h2; rw [upd_same] at e; rw [hc]; exact e
      · rw [upd_ne h2] at e; exact kp b u e
  · obtain ⟨q1, vs, q2, q3⟩ := o.lst i a xs h1 h2
    obtain ⟨k1, k2, k3⟩ := live a _ q2 (by intro _ z; cases z) (fun z => codeO_nl _ z.symm)
    exact ⟨by rw [upd_ne k2, upd_ne k3]; exact q1, vs, by rw [upd_ne k2]; exact k1, q3.mono le⟩
  · obtain ⟨q1, vs, q2, q3⟩ := o.dic i a xs h1 h2
    obtain ⟨k1, k2, k3⟩ := live a _ q2 (by intro _ z; cases z) (fun z => codeO_nd _ z.symm)
    exact ⟨by rw [upd_ne k2, upd_ne k3]; exact q1, vs, by rw [upd_ne k2]; exact k1, q3.mono le⟩
  · by_cases h : a = f
    · subst h; rw [upd_same]; simp
    · rw [upd_ne h]
      cases e : H a with
      | none => exact absurd e (o.has a ha)
      | some u =>
        obtain ⟨u', e'⟩ := th a u e
        rw [e']; simp
  · by_cases h : b = f
    · subst h; rw [upd_same] at e; exact lamO_nt ps (Option.some.inj e)
    · rw [upd_ne h] at e
      by_cases h2 : b = c'
      · subst h2; rw [upd_same] at e; exact codeO_ne ps (Option.some.inj e)
      · rw [upd_ne h2] at e; exact o.nt b ps e
theorem Tabs.lam {H : Hp} {f : Addr} {u : HO} (t : Tabs T H) (hf : H f = none) : Tabs T (upd H f u) := t.ext fun b o e => by rw [upd_ne (ne_of_none e hf)]; exact e
/-- lambda: e -/
theorem re_lam {e : LEn} (hT : tb.hp = Tabs T) (hL : ∀ (F : Hp) (f : Addr), LamAt (X.env.qual ++ "<lambda>") X.env.cells e F f → tb.isL n F f)
    (TB : TabB X.base X.mg c P) (hcode : X.env.code = .ref c) (hm : (P, X.env.qual ++ "<lambda>") ∈ T) (hu : ∀ p ∈ T, p.1 = P → p.2 = X.env.qual ++ "<lambda>") (hk : e.dk = none) (hdef : defaultsOf e.params X.env = ([], [])) (L : LamK X.env.scope N e.scope) : RE X tb W (.Lambda e.params e.body e.scope pos) (sC (.fn n)) := by
  refine ⟨fun pins s σ H Q I q => ?_⟩
  obtain ⟨F, ρ, en, m, he, ho, q⟩ := q
  have hTH : Tabs T H := by rw [← hT]; exact ho.hp
  refine PySem.W.kla_eval hdef ?_
  rw [makeFunction_eq]
  simp only [List.zip_nil_right, List.filterMap_nil, List.isEmpty_nil, if_true, pure_bind]
  refine lam_tail3 I TB hcode hm hu hTH (L.has I.ok) fun f c' H1 s' I1 eN th T1 hf hc => ?_
  obtain ⟨ex, wo⟩ := ho.lam (params := e.params) (body := e.body) (scope := e.scope) (cl := cloFrom X.env.cells e.scope.names []) (dv := .none) eN th (by rw [hT]; exact Tabs.lam T1 hf) hf hc
  have ncf : c' ≠ f := fun z => by rw [z, hf] at hc; cases hc
  exact ⟨.ref f, _, I1, rfl, q _ ρ _ _ ex wo (.d (.lam (hL _ f ⟨c', .none, upd_same, by rw [upd_ne ncf, upd_same], by rw [hk]⟩)))⟩
/-- lambda k=0: e -/
theorem re_lamk {e : LEn} {kn : Str} {j : Nat} {pj : Pos} (hT : tb.hp = Tabs T) (hL : ∀ (F : Hp) (f : Addr), LamAt (X.env.qual ++ "<lambda>") X.env.cells e F f → tb.isL n F f)
    (TB : TabB X.base X.mg c P) (hcode : X.env.code = .ref c) (hm : (P, X.env.qual ++ "<lambda>") ∈ T) (hu : ∀ p ∈ T, p.1 = P → p.2 = X.env.qual ++ "<lambda>") (hk : e.dk = some kn) (hd : e.params.defaults = [.Constant (.int 0) j pj]) (hkd : e.params.kw_defaults = []) (L : LamK X.env.scope N e.scope) : RE X tb W (.Lambda e.params e.body e.scope pos) (sC (.fn n)) := by
  refine ⟨fun pins s σ H Q I q => ?_⟩
  obtain ⟨F, ρ, en, m, he, ho, q⟩ := q
  refine PySem.W.kdv_lam (by rw [hd]; rfl) hkd ?_
  rw [hd]
  refine PySem.W.kdv_all1 (thn ((pe_int (X := X) (i := 0)).run pins s σ H (fun v H1 => v = .int 0 ∧ H1 = H) I ⟨rfl, rfl⟩) fun u s1 ⟨v, H1, I1, r1, q1⟩ => PySem.W.kdv_all0 ?_)
  obtain ⟨ev, eH⟩ := q1
  subst ev
  rw [eH] at I1
  rw [makeFunction_eq]
  simp only [List.zip_nil_right, List.filterMap_nil, List.isEmpty_nil, List.isEmpty_cons, if_true, pure_bind, Bool.false_eq_true, if_false]
  refine wpAny_bind (wpAny_newTextTuple ?_)
  have hn : H s1.heap.objs.size = none := I1.hok.fresh (Nat.le_refl _)
  have I2 : Inv X pins σ (upd H s1.heap.objs.size (.tup [V.int 0])) { s1 with heap := s1.heap.push { cls := .type "tuple", data := .seq [u].toArray }, toks := s1.toks } :=
    I1.laid (fun b o e => Heap.get?_push_of_some _ e) (Nat.le_refl _) ⟨by decide, [u], .cons r1 .nil, ⟨_, Heap.get?_push_size _ rfl, rfl, _, rfl⟩⟩
  obtain ⟨ho2, ex2⟩ := ho.alloc hn (.tup [V.int 0])
  have hTH : Tabs T (upd H s1.heap.objs.size (.tup [V.int 0])) := by rw [← hT]; exact ho2.hp
  refine lam_tail3 I2 TB hcode hm hu hTH (L.has I.ok) fun f c' H1 s' I3 eN th T1 hf hc => ?_
  obtain ⟨ex, wo⟩ := ho2.lam (params := e.params) (body := e.body) (scope := e.scope) (cl := cloFrom X.env.cells e.scope.names []) (dv := .ref s1.heap.objs.size) eN th (by rw [hT]; exact Tabs.lam T1 hf) hf hc
  have ncf : c' ≠ f := fun z => by rw [z, hf] at hc; cases hc
  have hdt := ex.le s1.heap.objs.size (.tup [V.int 0]) upd_same
  exact ⟨.ref f, _, I3, rfl, q _ ρ _ _ (ex2.trans ex) wo (.d (.lam (hL _ f ⟨c', _, upd_same, by rw [upd_ne ncf, upd_same], by rw [hk]; exact ⟨_, rfl, hdt⟩⟩)))⟩
end
end EvL
end

section
set_option Elab.async false
set_option linter.all false
set_option maxRecDepth 100000
set_option maxHeartbeats 4000000
/-! E26: a def that calls what it got -/
namespace EvL
open PySem PySem.Spec PyProof.Rows L2 LamX
/-- the table while a def runs that got something to call -/
def Tb.setC (tb : Tb) (C : Hp → V → Prop) (h : ∀ (F F' : Hp) (v : V), Le F F' → C F v → C F' v) : Tb := { tb with isC := C, isCM := h }
theorem Tb.setC_sub (tb : Tb) (C : Hp → V → Prop) (h : ∀ (F F' : Hp) (v : V), Le F F' → C F v → C F' v) : Sub tb (tb.setC C h) ∧ Sub (tb.setC C h) tb := ⟨⟨rfl, rfl, fun _ _ _ q => q, fun _ q => q⟩, ⟨rfl, rfl, fun _ _ _ q => q, fun _ q => q⟩⟩
/-- the call of what slot 0 holds -/
def sClo (clo : Store → Rs Sv) : Sem1 := fun en m => match en[0]? with
  | some (some Sv.c) => clo m
  | _ => .no
/-- the def's run on something to call -/
def hdRun (ns : Nat) (gH : (Store → Rs Sv) → SemS) (clo : Store → Rs Sv) (m : Store) : Rs Sv := match gH clo (start0 ns [Sv.c]) m with
  | .rt (.d d) m2 => .ok (.d d) (m2.take m.length)
  | .ex x _ m2 => .ex x (m2.take m.length)
  | _ => .no
def sHeard (ns : Nat) (gH : (Store → Rs Sv) → SemS) (nL : Nat) (lamS : Nat → Sem1) (fe : Sem1) : Sem1 := fun en m => (lCons fe lNil en m).bind fun xs m1 => match xs with
  | [Sv.d (.fn n)] => if 1000 ≤ n ∧ n < 1000 + nL then hdRun ns gH (fun m2 => lamS (n - 1000) (dataEn en) m2) m1 else .no
  | _ => .no
/-- what is known of the def, whatever it is handed -/
structure Hd (P : Program) (w : World) (K : PySem.W.Frag) (mg : Str → Option Value) (gb : Heap) (tb : Tb) (k : Nat) (x a : Str) (N : List Str) (st : Stmt) (gH : (Store → Rs Sv) → SemS) : Prop where
  dt : Dt K mg x st [a]
  sc : FnScope N [a] (defScope st)
  at0 : N[0]? = some a
  vis : Vis (defScope st) a
  body : ∀ (C : Hp → V → Prop) (hC : ∀ (F F' : Hp) (v : V), Le F F' → C F v → C F' v) (f : Addr) (cdv : Value) (A : Around) (up : List Env) (s : Shared) (H : Hp) (E : XK), Room k (A.deeper (envOfC x (defScope st) s.heap.objs.size f cdv)) → A.guards = some [] → ∀ clo : Store → Rs Sv,
    (∀ (pn : List (Addr × Obj)) (xe : Value → Shared → Prop) (W' : WX), Takes ((cxOf (L2.CX P w) P w K mg gb N x (defScope st) f cdv A up s H E).tr pn xe) W' → ∀ p1 p2 : Pos, RE ((cxOf (L2.CX P w) P w K mg gb N x (defScope st) f cdv A up s H E).tr pn xe) (tb.setC C hC) W' (.Call (.Name a p1) [] [] p2) (sClo clo)) →
    ∀ W : WX, Takes (cxOf (L2.CX P w) P w K mg gb N x (defScope st) f cdv A up s H E) W → RSs (cxOf (L2.CX P w) P w K mg gb N x (defScope st) f cdv A up s H E) (tb.setC C hC) W (defBody st) (gH clo)
/-- what is known of the lambdas of a def, by their numbers -/
structure Lm (X : Cx) (tb : Tb) (k nL : Nat) (lamS : Nat → Sem1) : Prop where
  lam : ∀ (i : Nat), i < nL → ∀ (F : Hp) (f : Addr), tb.isL (1000 + i) F f → ∃ e : LEn, LamAt (X.env.qual ++ "<lambda>") X.env.cells e F f ∧ LamK X.env.scope X.N e.scope ∧ e.Bd ∧
    ∀ (c' : Addr) (A : Around) (outer : List Env) (s : Shared) (H : Hp) (E : XK), Room k (A.deeper (lamEnv X e.scope s.heap.objs.size f c')) → A.guards = some [] → ∀ (C : Hp → V → Prop) (hC : ∀ (F F' : Hp) (v : V), Le F F' → C F v → C F' v) (W : WX), Takes (lamCx X A outer s H E e.scope f c') W → RE (lamCx X A outer s H E e.scope f c') (tb.setC C hC) W e.body (lamS i)
section
variable {X : Cx} {pins : List (Addr × Obj)} {σ : L2.St} {H HZ : Hp} {s s1 : Shared}
/-- the frame's cells stand as they stood -/
def CellK (X : Cx) (H HZ : Hp) (h hZ : Heap) : Prop := ∀ (y : Str) (c : Addr) (o : Obj), X.env.cells.lookup y = some c → h.get? c = some o → H c = none → HZ c = none ∧ ∃ sl, hZ.get? c = some { o with slots := sl }
theorem CellK.refl (X : Cx) (H : Hp) (h : Heap) : CellK X H H h h := fun y c o _ e n => ⟨n, o.slots, e⟩
theorem CellK.un {X : Cx} {H H1 H2 : Hp} {h h1 h2 : Heap} {fs : List Addr} (k : CellK X H H1 h h1) (u : Un fs [] H1 H2 h1 h2) : CellK X H H2 h h2 := fun y c o e ho n => by
  obtain ⟨n1, sl, e1⟩ := k y c o e ho n
  obtain ⟨sl2, e2⟩ := u.any e1 n1 (by simp)
  exact ⟨u.free c _ e1 n1 (by simp), sl2, e2⟩
theorem lam_start3 {A : Around} {outer : List Env} {E : XK} {scope : Scope} {f c' : Addr} {h₁ : Heap} {tk : Nat} {mm : Str → Option Value} (I : Inv X pins σ H s) (L : LamK X.env.scope X.N scope) (e0 : Env0 X.prog X.w X.K X.mg X.base A outer s1 HZ) (hd : A.handled = none)
    (un : CellK X H HZ s.heap s1.heap) (hns : h₁.Ns s1.heap.objs.size mm) (kp : ∀ b o, s1.heap.get? b = some o → h₁.get? b = some o) :
    Inv (lamCx X A outer s1 HZ E scope f c') [] σ HZ { s1 with heap := h₁, toks := tk } := by
  have fr := L.has I.ok
  have down : ∀ {y c}, (cloFrom X.env.cells scope.names []).lookup y = some c → X.env.cells.lookup y = some c := fun {y c} e => by
    rcases cloFrom_mem (PySem.mem_of_lookup e) with z | ⟨z1, z2⟩
    · cases z
    · obtain ⟨c1, hc1⟩ := fr _ z1 rfl
      have hc2 : X.env.cells.lookup y = some c1 := hc1
      have ec : c = c1 := by
        rw [z2, hc2] <;> rfl
      rw [ec]
      exact hc2
  have up : ∀ {y}, scope.names.lookup y = some .free → ∃ c, (cloFrom X.env.cells scope.names []).lookup y = some c := fun {y} hl => by
    have hy : (y, NameKind.free) ∈ scope.names := PySem.mem_of_lookup hl
    exact mem_lookup (cloFrom_has (cells := X.env.cells) (acc := []) hy)
  have stays : ∀ {y : Str} {c : Addr} {v : Option Value}, X.env.cells.lookup y = some c → H c = none → s.heap.IsCell c v → h₁.IsCell c v := fun {y c v} ec n ⟨o, ho, hd⟩ => by
    obtain ⟨_, sl, q⟩ := un y c o ec ho n
    exact ⟨_, kp _ _ q, hd⟩
  have nA : ∀ b : Addr, b ∉ (lamCx X A outer s1 HZ E scope f c').ex := fun b z => absurd (show b ∈ ([] : List Addr) from z) (by simp)
  refine ⟨⟨e0.mod, L.kind, rfl, rfl, Nat.le_refl _, fun y z c e1 e2 => I.ok.inj y z c (down e1) (down e2), fun y hy => ?_, fun y c z _ => ?_, fun _ => hd, Around.frames_deeper e0.frames, .inr ⟨rfl, rfl⟩, fun b z => absurd z (nA b), e0.bs, e0.bsz, fun b _ _ => nA b,
      fun b z => absurd z (nA b), e0.funs, e0.frf⟩,
    rfl, e0.bare, Un.kept kp, ⟨_, hns, fun i y v e1 e2 e3 => ?_⟩, fun y c e => ?_, e0.hok.fresh (Nat.le_refl _), fun y c e => ?_, fun q hq => absurd (show q ∈ ([] : List (Addr × Obj)) ++ [] from hq) (by simp), e0.hok.kept kp, I.len⟩
  · have hy : scope.names.lookup y = some .cell ∨ scope.names.lookup y = some .free := hy
    rcases hy with hy | hy
    · exact absurd rfl (L.own _ (PySem.mem_of_lookup hy)).1
    · exact up hy
  · have z : false = true := z
    cases z
  · have e3 : Vis scope y := e3
    have e1 : X.N[i]? = some y := e1
    rcases e3 with k | k | k
    · exact absurd (List.mem_of_getElem? e1) ((L.own _ (PySem.mem_of_lookup k)).2 rfl)
    · exact absurd rfl (L.own _ (PySem.mem_of_lookup k)).1
    · obtain ⟨m, hn, hl⟩ := I.loc
      have hvis : Vis X.env.scope y := (L.free _ (PySem.mem_of_lookup k) rfl).elim (fun k => .inr (.inl k)) (fun k => .inr (.inr k))
      obtain ⟨w', r, q⟩ := hl i y v e1 e2 hvis
      obtain ⟨c2, h2⟩ := up k
      refine ⟨w', r, .inr ⟨.inr k, c2, h2, ?_⟩⟩
      have c1 := down h2
      rcases q with ⟨k', _⟩ | ⟨_, c3, e', z⟩
      · have k' : X.env.scope.names.lookup y = some .local := k'
        rcases L.free _ (PySem.mem_of_lookup k) rfl with k2 | k2 <;> rw [show X.env.scope.names.lookup y = _ from k2] at k' <;> cases k'
      · rw [c1] at e'
        cases e'
        exact stays c1 (I.freeC y _ c1) z
  · obtain ⟨w', z⟩ := I.cell y c (down e)
    exact ⟨w', stays (down e) (I.freeC y c (down e)) z⟩
  · obtain ⟨v, o, ho, hd⟩ := I.cell y c (down e)
    exact (un y c o (down e) ho (I.freeC y c (down e))).1
end
section
variable {X : Cx} {pins : List (Addr × Obj)} {σ : L2.St} {H : Hp} {s : Shared}
/-- x(), in the def that got the lambda (as pe_act, of a lambda that is known): Z is that def's context, entered at s -/
theorem pe_act3 {CXg : CXT} {Eg : XK} {Ng : List Str} {qg : Str} {sg : Scope} {g f : Addr} {cdg : Value} {e : LEn} {k i : Nat} {a : Str} {pn : List (Addr × Obj)} {xe : Value → Shared → Prop} {W : WX} {tb : XK → TE} {p1 p2 : Pos} {s2 : Shared} {H2 : Hp}
    (I : Inv X pins σ H s) (ck : CellK X H H2 s.heap s2.heap) (L : LamK X.env.scope X.N e.scope) (hbind : e.Bd)
    (tk : Takes ((cxOf CXg X.prog X.w X.K X.mg X.base Ng qg sg g cdg X.A X.stack s2 H2 Eg).tr pn xe) W) (hr : Room (k + 1) (X.A.deeper (envOfC qg sg s2.heap.objs.size g cdg)))
    (hbody : ∀ (c' : Addr) (A : Around) (outer : List Env) (s : Shared) (H : Hp) (E : XK), Room k (A.deeper (lamEnv X e.scope s.heap.objs.size f c')) → A.guards = X.A.guards → PE (lamCx X A outer s H E e.scope f c') e.body (tb E))
    (hN : Ng[i]? = some a) (hv : Vis sg a) (hd : (a == ("__debug__" : Str)) = false := by decide) (hcd : (a == ("__classdict__" : Str)) = false := by decide) :
    PE ((cxOf CXg X.prog X.w X.K X.mg X.base Ng qg sg g cdg X.A X.stack s2 H2 Eg).tr pn xe) (.Call (.Name a p1) [] [] p2)
      (fun σZ HZ Q => σZ[i]? = some (some (.ref f)) ∧ LamAt (X.env.qual ++ "<lambda>") X.env.cells e HZ f ∧ tb (WE W σZ) σ HZ Q) := by
  refine ⟨fun pinsZ sZ σZ HZ Q IZ h => ?_⟩
  obtain ⟨hs, ⟨c', dv, hfO, hc, hdv⟩, ht⟩ := h
  refine wpAny_Call_Name_kw (thn ((pe_var (pos := p1) (i := i) hN hv hd hcd).run pinsZ sZ σZ HZ (fun v H1 => v = .ref f ∧ H1 = HZ) IZ ⟨.ref f, hs, rfl, rfl⟩) fun u s1 ⟨v, H1, I1, r1, q1⟩ => ?_)
  obtain ⟨ev, eH⟩ := q1
  subst ev
  rw [eH] at I1
  obtain rfl : u = Value.ref f := r1
  obtain ⟨⟨pm, ctv, doc, of1⟩, _, _⟩ := I1.hok f _ hfO
  refine PySem.W.callWith_F0 ⟨_, _, _, _, of1⟩ ?_
  have un0 : Un (frs X.stack) [] H2 HZ s2.heap s1.heap := I1.base
  have un : CellK X H HZ s.heap s1.heap := ck.un un0
  obtain ⟨⟨oc, vs, t, hoc, hdc, hvc⟩, _, _⟩ := I1.hok c' _ hc
  have bd : ∃ binds : List (Str × Value), BindsTo s1 (PySem.W.kdv_fn "<lambda>" (X.env.qual ++ "<lambda>") e.params (.expr e.body) e.scope (cloFrom X.env.cells e.scope.names []) dv doc pm (.ref c') ctv) ⟨[], []⟩ binds ∧ ∀ y ∈ binds, e.scope.names.lookup y.1 = some .local := by
    unfold LEn.Bd at hbind
    cases hdk : e.dk with
    | none =>
      rw [hdk] at hbind hdv
      subst hdv
      exact ⟨[], hbind _ _ _ _ _ _ _, fun y hy => absurd hy (by simp)⟩
    | some kn =>
      rw [hdk] at hbind hdv
      obtain ⟨d, rfl, hdt⟩ := hdv
      obtain ⟨_, its, rv, ⟨o, ho, _, n, hod⟩⟩ := I1.hok d _ hdt
      cases rv with
      | @cons _ u' _ us' r rs =>
        cases rs
        exact ⟨[(kn, u')], hbind.2 _ _ _ _ _ _ _ _ _ _ _ ho hod, fun y hy => by rw [List.mem_singleton.mp hy]; exact hbind.1⟩
  obtain ⟨binds, bd1, bd2⟩ := bd
  have rc : codeAny (model X.prog X.w) (X.A.deeper (envOfC qg sg s2.heap.objs.size g cdg)) (.call (.ref f) ⟨[], []⟩) (CR (L2.CX X.prog X.w) (envOfC qg sg s2.heap.objs.size g cdg :: X.stack) X.prog X.w HZ s1 Q (WE W σZ)) s1 := by
    refine PySem.W.kla_callFunE hr.depth of1 rfl L.co L.gen rfl ⟨c', oc, vs, t, rfl, hoc, hdc, hvc⟩ (bd1 _ _ _ _ ?_)
    refine (wpAny_newFunctionEnv (fun y hy => (L.own y hy).1) bd2 (fun h₁ hns hsb => ⟨I1.nolimit.fresh _ hsb, ?_⟩) L.kind)
    show codeAny _ _ (.expr e.body (lamEnv X e.scope s1.heap.objs.size f c')) _ _
    have kp : ∀ b o, s1.heap.get? b = some o → h₁.get? b = some o := fun b o e => hsb.extBut b o (Nat.ne_of_lt (Heap.lt_size e)) (Heap.get?_push_of_some _ e)
    have J : Inv (lamCx X (X.A.deeper (envOfC qg sg s2.heap.objs.size g cdg)) (envOfC qg sg s2.heap.objs.size g cdg :: X.stack) s1 HZ (WE W σZ) e.scope f c') [] σ HZ { s1 with heap := h₁, toks := s1.toks + binds.length } :=
      lam_start3 I L I1.env0 hr.hd un hns kp
    refine PySem.W.kla_codeExpr (wpAny_mono ((hbody _ _ _ s1 HZ (WE W σZ) (hr.deeper _) rfl).run [] _ _ HZ Q J ht) (fun v s' hq => ?_) fun e s' hq => hq)
    obtain ⟨w', H', J', rv, q⟩ := hq
    exact ⟨w', H', J'.os, J'.bare, J'.base, J'.hok, rv, q⟩
  refine wpAny_call (codeAny_mono rc fun r s' hq => ?_)
  match r, hq with
  | .error e, hq => exact passAt tk σZ pinsZ HZ s1 e s' I1 hq
  | .ok (.ret u), hq => exact I1.after hq
  | .ok .next, hq => exact hq.elim
  | .ok .brk, hq => exact hq.elim
  | .ok .cont, hq => exact hq.elim
end
end EvL
end

section
set_option Elab.async false
set_option linter.all false
set_option maxRecDepth 100000
set_option maxHeartbeats 4000000
/-! E27: x(e), e a lambda, x a def that calls it -/
namespace EvL
open PySem PySem.Spec PyProof.Rows L2 LamX
section
variable {tb : Tb} {W : WX} {X Y : Cx} {e : Expr} {fe : Sem1} {pos p : Pos} {k nL ns : Nat} {x a : Str} {N : List Str} {st : Stmt} {gH : (Store → Rs Sv) → SemS} {lamS : Nat → Sem1}
/-- the bound of a reading: what it starts from -/
def tEF (K : PySem.W.Frag) (tb : Tb) (W : WX) (F0 : Hp) (f : Sem1) : TE := fun σ H Q => ∃ F ρ en m, Le F0 F ∧ EnvOk K tb F ρ en σ ∧ Wo K tb F ρ m H ∧ PostE K tb W F ρ σ Q (f en m)
/-- as sHeard, the lambdas read en0 -/
def sHeardAt (ns : Nat) (gH : (Store → Rs Sv) → SemS) (nL : Nat) (lamS : Nat → Sem1) (en0 : En) (fe : Sem1) : Sem1 := fun en m => (lCons fe lNil en m).bind fun xs m1 => match xs with
  | [Sv.d (.fn n)] => if 1000 ≤ n ∧ n < 1000 + nL then hdRun ns gH (fun m2 => lamS (n - 1000) (dataEn en0) m2) m1 else .no
  | _ => .no
/-- Y: where x(e) stands; X: the frame that made the lambdas, at s0 -/
theorem heard_core {σ0 : L2.St} {F0 : Hp} {ρ0 : List Addr} {en0 : En} {pins : List (Addr × Obj)} {s : Shared} {σ : L2.St} {H : Hp} {Q : VK} (hY : Y.prog = X.prog ∧ Y.w = X.w ∧ Y.K = X.K ∧ Y.mg = X.mg ∧ Y.base = X.base ∧ Y.A = X.A ∧ Y.stack = X.stack) (he0 : EnvOk X.K tb F0 ρ0 en0 σ0)
    (ck : ∀ (H' : Hp) (s' : Shared), Inv Y pins σ H' s' → ∃ (pn0 : List (Addr × Obj)) (H0 : Hp) (s0 : Shared), Inv X pn0 σ0 H0 s0 ∧ CellK X H0 H' s0.heap s'.heap) (HD : Hd X.prog X.w X.K X.mg X.base tb (k + 1) x a N st gH) (LM : Lm X tb k nL lamS) (hr : Room (k + 2) X.A) (hgu : X.A.guards = some []) (tk : Takes Y W) (hg : Gl Y x) (ha : RE Y tb W e fe) (hns : N.length = ns)
    (hdb : (x == ("__debug__" : Str)) = false) (hs : starEach [e] Y.env = (false, eval e Y.env) :: starEach [] Y.env) (hpl : (backTo pos (starEach [] Y.env)).any (·.1) = false)
    (hd : (a == ("__debug__" : Str)) = false) (hcd : (a == ("__classdict__" : Str)) = false) (I : Inv Y pins σ H s) (q0 : tEF Y.K tb W F0 (sHeardAt ns gH nL lamS en0 fe) σ H Q) : wpAny (model Y.prog Y.w) Y.A (eval (.Call (.Name x p) [e] [] pos) Y.env) (EP Y pins σ Q) Y.xe s := by
  obtain ⟨y1, y2, y3, y4, y5, y6, y7⟩ := hY
  obtain ⟨F, ρ, en, m, l0, he, ho, q⟩ := q0
  obtain ⟨g, fd, Fn, hb, _, hmg⟩ := HD.dt.ex
  refine wpAny_Call_Name_kw (ld_glob I hg (by rw [y4]; exact hmg) ?_ hdb)
  refine PySem.W.callWith_K (h₀ := Y.base) I.ok.mod.kin (by rw [y3]; exact Fn.kp) (thn ((ra_cons ha ra_nil hs).run pos pins s σ H (fun vs H2 => ∃ F1 ρ1 m1 n f, vs = [V.ref f] ∧ Le F0 F1 ∧ EnvOk Y.K tb F1 ρ1 en σ ∧ Wo Y.K tb F1 ρ1 m1 H2 ∧ tb.isL (1000 + n) F1 f ∧ n < nL ∧ PostE Y.K tb W F1 ρ1 σ Q (hdRun ns gH (fun m2 => lamS n (dataEn en0) m2) m1)) I ?_) fun us s2 ⟨vs, H2, I2, r, q2⟩ => ⟨I2.kIn, ?_⟩) hs hpl
  · unfold sHeardAt at q
    refine tEL_bind he ho q fun xs m1 F1 ρ1 H1 vs e1 he1 ho1 r1 q1 => ?_
    split at q1
    · rename_i n
      split at q1
      · rename_i hn
        cases r1 with
        | cons r1 r2 =>
          cases r2
          cases r1 with
          | d r1 =>
            obtain ⟨j, rfl⟩ : ∃ j, n = 1000 + j := ⟨n - 1000, by omega⟩
            have ej : 1000 + j - 1000 = j := by omega
            rw [ej] at q1
            cases r1 with
            | fn _ hlt => omega
            | lam hl => exact ⟨F1, ρ1, m1, j, _, rfl, l0.trans e1.le, he1, ho1, hl, by omega, q1⟩
      · exact q1.elim
    · exact q1.elim
  · obtain ⟨F1, ρ1, m1, n, f, rfl, l1, he1, ho1, hl, hn, q1⟩ := q2
    obtain ⟨oc, od, kV, doc, pm, an, cdv, ct, osl, rfl, lk, hcg⟩ := Fn.ex
    obtain ⟨le, la, LS, hbind, hbody⟩ := LM.lam n hn F1 f hl
    have r' : us = [Value.ref f] := by
      cases r with
      | cons a b =>
        cases b
        cases a
        rfl
    subst r'
    have rc : codeAny (model X.prog X.w) X.A (.call (.ref g) ⟨[.ref f], []⟩) (CR (L2.CX X.prog X.w) X.stack X.prog X.w H2 s2 Q (WE W σ)) s2 := by
      have env0 : Env0 X.prog X.w X.K X.mg X.base X.A X.stack s2 H2 := by
        have z := I2.env0
        rw [y1, y2, y3, y4, y5, y6, y7] at z
        exact z
      have kin : X.K.In s2.heap := by
        have z := I2.kIn
        rw [y3] at z
        exact z
      refine run_ofS (CX := L2.CX X.prog X.w) (N := N) (ps := [a]) (us := [.ref f]) (vs := [.ref f]) lk hcg HD.sc hr env0 (hb s2 [.ref f] kin rfl) (.cons rfl .nil) rfl fun hr' => ?_
      -- the table while it runs
      let C : Hp → V → Prop := fun F v => v = V.ref f ∧ Le F1 F
      have hC : ∀ (F F' : Hp) (v : V), Le F F' → C F v → C F' v := fun F F' v l h => ⟨h.1, h.2.trans l⟩
      have tk0 : Takes (cxOf (L2.CX X.prog X.w) X.prog X.w X.K X.mg X.base N x (defScope st) g cdv X.A X.stack s2 H2 (WE W σ)) (fun cls d _ H => (WE W σ) cls d H) := takes_of rfl rfl rfl rfl
      have hS := tb.setC_sub C hC
      rw [y3] at he1 ho1 q1
      refine ⟨_, HD.body C hC g cdv X.A X.stack s2 H2 (WE W σ) hr' hgu (fun m2 => lamS n (dataEn en0) m2) (fun pn xe W' tk' p1 p2 => ?_) _ tk0, ?_⟩
      · obtain ⟨pn0, H0, s0, I0, ck0⟩ := ck _ _ I2
        have act := pe_act3 (i := 0) (W := W') (tb := fun E => tE X.K (tb.setC C hC) (fun cls d _ H' => E cls d H') (lamS n)) (p1 := p1) (p2 := p2) I0 ck0 LS hbind tk' hr'
          (fun c' A outer s H E hr2 hg2 => hbody c' A outer s H E hr2 (hg2.trans hgu) C hC _ (takes_of rfl rfl rfl rfl)) HD.at0 HD.vis hd hcd
        refine PE.weak act fun σZ HZ QZ qz => ?_
        obtain ⟨F3, ρ3, en3, m3, he3, ho3, q3⟩ := tE_iff.mp qz
        unfold sClo at q3
        split at q3
        · rename_i h0
          obtain ⟨v, hv, rv⟩ := he3.at_ 0 _ h0
          cases rv with
          | c hcc =>
            obtain ⟨rfl, le3⟩ := hcc
            refine ⟨hv, la.mono (le3.trans ho3.sub), tE_iff.mpr ⟨F3, ρ3, dataEn en0, m3, he0.data hS.1 (l1.trans le3), ho3, ?_⟩⟩
            replace q3 : PostE X.K (tb.setC C hC) W' F3 ρ3 σZ QZ (lamS n (dataEn en0) m3) := q3
            cases ec : lamS n (dataEn en0) m3 with
            | ok y m4 => rw [ec] at q3; exact q3
            | ex y m4 => rw [ec] at q3; exact q3
            | no => rw [ec] at q3; exact q3
        · exact q3.elim
      · refine ⟨F1, ρ1, start0 ns [Sv.c], m1, ?_, ho1.conv hS.1, ?_⟩
        · have st := start_ok (N := N) (K := X.K) (tb := tb.setC C hC) (F := F1) (ρ := ρ1) (xs := [Sv.c]) (vs := [V.ref f]) (.cons (.c ⟨rfl, .refl F1⟩) .nil) (ns - 1)
          subst hns
          exact st
        · have hlen : ρ1.length = m1.length := ho1.len
          unfold hdRun at q1
          cases eg : gH (fun m2 => lamS n (dataEn en0) m2) (start0 ns [Sv.c]) m1 with
          | rt y m2 =>
            rw [eg] at q1
            cases y with
            | d d =>
              intro F' ρ' H' v ex o' r'
              have c := (o'.conv hS.2).cut m1.length
              rw [pre_take ex.pre hlen] at c
              exact q1 F' ρ1 H' v ⟨ex.le, List.prefix_refl _⟩ c (.d ((RepS.rv (m := m2) r').conv hS.2))
            | o j => exact q1.elim
            | c => exact q1.elim
          | ex y e2 m2 =>
            rw [eg] at q1
            intro F' ρ' σ' H' cc d ex _ o' r'
            have c := (o'.conv hS.2).cut m1.length
            rw [pre_take ex.pre hlen] at c
            exact q1 F' ρ1 H' cc d ⟨ex.le, List.prefix_refl _⟩ c (r'.conv hS.2)
          | nx e2 m2 => rw [eg] at q1; exact q1.elim
          | bk e2 m2 => rw [eg] at q1; exact q1.elim
          | ct e2 m2 => rw [eg] at q1; exact q1.elim
          | no => rw [eg] at q1; exact q1.elim
    have rcY : codeAny (model Y.prog Y.w) Y.A (.call (.ref g) ⟨[.ref f], []⟩) (CR (L2.CX Y.prog Y.w) Y.stack Y.prog Y.w H2 s2 Q (WE W σ)) s2 := by
      rw [y1, y2, y6, y7]
      exact rc
    refine wpAny_call (codeAny_mono rcY fun res s' hq => ?_)
    match res, hq with
    | .error e, hq => exact passAt tk σ pins H2 s2 e s' I2 hq
    | .ok (.ret u), hq => exact I2.after hq
    | .ok .next, hq => exact hq.elim
    | .ok .brk, hq => exact hq.elim
    | .ok .cont, hq => exact hq.elim
/-- x(e) in the frame -/
theorem re_heard (HD : Hd X.prog X.w X.K X.mg X.base tb (k + 1) x a N st gH) (LM : Lm X tb k nL lamS) (hr : Room (k + 2) X.A) (hgu : X.A.guards = some []) (tk : Takes X W) (hg : Gl X x) (ha : RE X tb W e fe) (hns : N.length = ns := by rfl)
    (hdb : (x == ("__debug__" : Str)) = false := by decide) (hs : starEach [e] X.env = (false, eval e X.env) :: starEach [] X.env := by rfl) (hpl : (backTo pos (starEach [] X.env)).any (·.1) = false := by rfl)
    (hd : (a == ("__debug__" : Str)) = false := by decide) (hcd : (a == ("__classdict__" : Str)) = false := by decide) : RE X tb W (.Call (.Name x p) [e] [] pos) (fun en m => sHeardAt ns gH nL lamS en fe en m) := by
  refine ⟨fun pins s σ H Q I q0 => ?_⟩
  obtain ⟨F, ρ, en, m, he, ho, q⟩ := tE_iff.mp q0
  exact heard_core ⟨rfl, rfl, rfl, rfl, rfl, rfl, rfl⟩ he (fun H' s' I' => ⟨pins, H', s', I', CellK.refl _ _ _⟩) HD LM hr hgu tk hg ha hns hdb hs hpl hd hcd I ⟨F, ρ, en, m, .refl F, he, ho, q⟩
/-- x(e) in a block of the frame X that made the lambdas; I0: where the block starts -/
theorem heard_blk {pn : List (Addr × Obj)} {σ0 : L2.St} {H0 F0 : Hp} {s0 : Shared} {ρ0 : List Addr} {en0 : En} {scope : Scope} {cenv : Env} {fp : List Addr} (I0 : Inv X pn σ0 H0 s0) (hfp : ∀ b ∈ fp, FpOk X pn H0 b) (he0 : EnvOk X.K tb F0 ρ0 en0 σ0)
    (HD : Hd X.prog X.w X.K X.mg X.base tb (k + 1) x a N st gH) (LM : Lm X tb k nL lamS) (hr : Room (k + 2) X.A) (hgu : X.A.guards = some []) (hg : Gl (X.blk s0 H0 scope cenv fp) x) (ha : RE (X.blk s0 H0 scope cenv fp) tb WN e fe) (hns : N.length = ns := by rfl)
    (hdb : (x == ("__debug__" : Str)) = false := by decide) (hs : starEach [e] cenv = (false, eval e cenv) :: starEach [] cenv := by rfl) (hpl : (backTo pos (starEach [] cenv)).any (·.1) = false := by rfl)
    (hd : (a == ("__debug__" : Str)) = false := by decide) (hcd : (a == ("__classdict__" : Str)) = false := by decide) : PE (X.blk s0 H0 scope cenv fp) (.Call (.Name x p) [e] [] pos) (tEF X.K tb WN F0 (sHeardAt ns gH nL lamS en0 fe)) := by
  refine ⟨fun pins s σ H Q I q => ?_⟩
  refine heard_core (X := X) (Y := X.blk s0 H0 scope cenv fp) ⟨rfl, rfl, rfl, rfl, rfl, rfl, rfl⟩ he0 (fun H' s' I' => ⟨pn, H0, s0, I0, fun y c o e ho n => ?_⟩) HD LM hr hgu takesN hg ha hns hdb hs hpl hd hcd I q
  have hx : c ∉ fp := fun z => (hfp c z).2.2.2.2.1 y c e rfl
  have u : Un (X.blk s0 H0 scope cenv fp).fs fp H0 H' s0.heap s'.heap := I'.base
  exact ⟨u.free c o ho n hx, u.any ho n hx⟩
end
end EvL
end

section
set_option Elab.async false
set_option linter.all false
set_option maxRecDepth 100000
set_option maxHeartbeats 4000000
/-! E28: a def that makes lambdas: it runs over a table of its own -/
namespace EvL
open PySem PySem.Spec PyProof.Rows L2 LamX
/-- over a frame: its lambdas are told by L -/
def Tb.ofX (tb : Tb) (q : Str) (cells : List (Str × Addr)) (L : List LEn) : Tb := { tb with
  isL := fun n F f => 1000 ≤ n ∧ ∃ e, L[n - 1000]? = some e ∧ LamAt (q ++ "<lambda>") cells e F f
  isM := fun n F F' a l h => ⟨h.1, let ⟨e, h1, h2⟩ := h.2; ⟨e, h1, h2.mono l⟩⟩
  isU := fun n F a h z => by have := z.1; omega }
mutual
def lamFree : Dv → Bool
  | .fn n => decide (n < 1000)
  | .tup xs => lamFreeL xs
  | .lst xs => lamFreeL xs
  | .dic kvs => lamFreeK kvs
  | .non => true
  | .bl _ => true
  | .int _ => true
  | .str _ => true
  | .scr _ => true
def lamFreeL : List Dv → Bool
  | [] => true
  | x :: xs => lamFree x && lamFreeL xs
def lamFreeK : List (Key × Dv) → Bool
  | [] => true
  | (_, x) :: xs => lamFree x && lamFreeK xs
end
section
variable {K : PySem.W.Frag} {tb tb' : Tb} {F : Hp}
mutual
theorem Rep.free (h : tb'.fnA = tb.fnA) : ∀ {d : Dv} {v : V}, lamFree d = true → Rep K tb F d v → Rep K tb' F d v
  | _, _, _, .non => .non
  | _, _, _, .bl b => .bl b
  | _, _, _, .int i => .int i
  | _, _, _, .str x => .str x
  | _, _, q, .tup a r => .tup a (RepL.free h (by simpa [lamFree] using q) r)
  | _, _, q, .lst a r => .lst a (RepL.free h (by simpa [lamFree] using q) r)
  | _, _, q, .dic a r => .dic a (RepK.free h (by simpa [lamFree] using q) r)
  | _, _, _, .fn n hn => by rw [← h]; exact .fn n hn
  | .fn n, .ref a, q, .lam hl => absurd hl (tb.isU n F a (by simpa [lamFree] using q))
  | _, _, _, .scr a => .scr a
theorem RepL.free (h : tb'.fnA = tb.fnA) : ∀ {d : List Dv} {v : List V}, lamFreeL d = true → RepL K tb F d v → RepL K tb' F d v
  | _, _, _, .nil => .nil
  | _, _, q, .cons a r => .cons (Rep.free h (by simp [lamFreeL] at q; exact q.1) a) (RepL.free h (by simp [lamFreeL] at q; exact q.2) r)
theorem RepK.free (h : tb'.fnA = tb.fnA) : ∀ {d : List (Key × Dv)} {v : List (Key × V)}, lamFreeK d = true → RepK K tb F d v → RepK K tb' F d v
  | _, _, _, .nil => .nil
  | _, _, q, .cons a r => .cons (Rep.free h (by simp [lamFreeK] at q; exact q.1) a) (RepK.free h (by simp [lamFreeK] at q; exact q.2) r)
end
def freeSo : So → Bool
  | .lst xs => lamFreeL xs
  | .dic xs => lamFreeK xs
  | .gone => true
theorem Wo.free {H : Hp} {ρ : List Addr} {m : Store} (h : tb'.fnA = tb.fnA) (hp : tb'.hp = tb.hp) (hm : m.all freeSo = true) (o : Wo K tb F ρ m H) : Wo K tb' F ρ m H := by
  rw [List.all_eq_true] at hm
  exact ⟨o.sub, o.len, o.nd, fun i a xs h1 h2 => let ⟨q1, vs, q2, q3⟩ := o.lst i a xs h1 h2; ⟨q1, vs, q2, q3.free h (hm _ (List.mem_of_getElem? h2))⟩, fun i a xs h1 h2 => let ⟨q1, vs, q2, q3⟩ := o.dic i a xs h1 h2; ⟨q1, vs, q2, q3.free h (hm _ (List.mem_of_getElem? h2))⟩, o.has, by rw [hp]; exact o.hp, o.nt⟩
end
theorem RepS.conv0 {K : PySem.W.Frag} {tb tb' : Tb} {F : Hp} {ρ : List Addr} (s : Sub tb tb') (hC : tb'.isC = tb.isC) {x : Sv} {v : V} (h : RepS K tb F ρ x v) : RepS K tb' F ρ x v := by
  cases h with
  | d h => exact .d (h.conv s)
  | o h => exact .o h
  | c h => exact .c (by rw [hC]; exact h)
theorem RepSL.conv0 {K : PySem.W.Frag} {tb tb' : Tb} {F : Hp} {ρ : List Addr} (s : Sub tb tb') (hC : tb'.isC = tb.isC) : ∀ {x : List Sv} {v : List V}, RepSL K tb F ρ x v → RepSL K tb' F ρ x v
  | _, _, .nil => .nil
  | _, _, .cons h r => .cons (h.conv0 s hC) (RepSL.conv0 s hC r)
/-- the run of such a def: what it tells and leaves holds no lambda -/
def fnSL (ns np : Nat) (g : SemS) : Fs := fun xs m => if xs.length = np then (match g (start0 ns xs) m with
  | .rt (.d d) m1 => if lamFree d && (m1.take m.length).all freeSo then .ok (.d d) (m1.take m.length) else .no
  | _ => .no) else .no
theorem ar_fnSL {ns np : Nat} {g : SemS} : Ar np (fnSL ns np g) := fun xs m h => by unfold fnSL; rw [if_neg h]
/-- a def whose code object stands at c -/
structure DtL (K : PySem.W.Frag) (mg : Str → Option Value) (x : Str) (st : Stmt) (ps : List Str) (c : Addr) : Prop where
  ex : ∃ (f : Addr) (fd : FuncData), Fun K x x st f fd ∧ Binds K fd ps [] ∧ KwB K fd ps 0 ps ∧ mg x = some (.ref f) ∧ fd.code = .ref c
section
variable {P : Program} {w : World} {K : PySem.W.Frag} {mg : Str → Option Value} {gb : Heap} {tb : Tb} {k : Nat} {x : Str} {ps N : List Str} {st : Stmt} {c : Addr}
theorem fo_mkL {G : SemS} {L : List LEn} (D : DtL K mg x st ps c) (hE : ∀ n F a, ¬ tb.isL n F a) (S : FnScope N ps (defScope st))
    (body : ∀ (f : Addr) (A : Around) (up : List Env) (s : Shared) (H : Hp) (E : XK), Room k (A.deeper (envOfC x (defScope st) s.heap.objs.size f (.ref c))) → A.guards = some [] →
      ∀ W : WX, Takes (cxOf (L2.CX P w) P w K mg gb N x (defScope st) f (.ref c) A up s H E) W → RSs (cxOf (L2.CX P w) P w K mg gb N x (defScope st) f (.ref c) A up s H E) (tb.ofX (envOfC x (defScope st) s.heap.objs.size f (.ref c)).qual (envOfC x (defScope st) s.heap.objs.size f (.ref c)).cells L) W (defBody st) G) :
    FoX P w K mg gb tb (k + 1) x ps (fnSL N.length ps.length G) := by
  obtain ⟨f, fd, F, b, kb, hm, hc⟩ := D.ex
  refine ⟨⟨f, fd, ⟨?_, hm, F.kp, b⟩, kb⟩, ar_fnSL⟩
  refine fnG_ofC F S (fun vs H Q E q => q.1) fun cdv hcd A up s H vs Q E hr hg q => ?_
  obtain rfl : cdv = Value.ref c := by rw [hcd, hc]
  have tk : Takes (cxOf (L2.CX P w) P w K mg gb N x (defScope st) f (.ref c) A up s H E) (fun cls d _ H => E cls d H) := takes_of rfl rfl rfl rfl
  refine ⟨_, body f A up s H E hr hg _ tk, ?_⟩
  obtain ⟨hl, F0, ρ, xs, m, r, o, q⟩ := q
  have sb : Sub tb (tb.ofX (envOfC x (defScope st) s.heap.objs.size f (.ref c)).qual (envOfC x (defScope st) s.heap.objs.size f (.ref c)).cells L) := ⟨rfl, rfl, fun n F a h => absurd h (hE n F a), fun _ h => h⟩
  refine ⟨F0, ρ, start0 N.length xs, m, ?_, o.conv sb, ?_⟩
  · unfold start0 L2.start
    rw [r.length]
    exact start_ok (N := N) (RepSL.conv0 sb rfl r) _
  · unfold fnSL at q
    rw [if_pos (by rw [r.length]; exact hl)] at q
    have hlen : ρ.length = m.length := o.len
    cases e : G (start0 N.length xs) m with
    | rt y m1 =>
      rw [e] at q
      cases y with
      | d d =>
        dsimp only at q
        by_cases hf : (lamFree d && (m1.take m.length).all freeSo) = true
        · rw [if_pos hf] at q
          rw [Bool.and_eq_true] at hf
          intro F' ρ' H' v ex ho r'
          have c := ho.cut m.length
          rw [pre_take ex.pre hlen] at c
          have key : ∀ tb2 : Tb, tb2.fnA = tb.fnA → tb2.hp = tb.hp → Wo K tb2 F' ρ (m1.take m.length) H' → RepS K tb2 F' ρ' (.d d) v → Q v H' := fun tb2 z1 z2 wo rs =>
            q F' ρ H' v ⟨ex.le, List.prefix_refl _⟩ (Wo.free z1.symm z2.symm hf.2 wo) (.d (Rep.free z1.symm hf.1 (RepS.rv (m := []) rs)))
          refine key _ ?_ ?_ c r'
          · rfl
          · rfl
        · rw [if_neg hf] at q
          exact q.elim
      | o i => exact q.elim
      | c => exact q.elim
    | nx _ _ => rw [e] at q; exact q.elim
    | bk _ _ => rw [e] at q; exact q.elim
    | ct _ _ => rw [e] at q; exact q.elim
    | no => rw [e] at q; exact q.elim
    | ex _ _ _ => rw [e] at q; exact q.elim
end
/-- the lambdas of a frame, one by one -/
def LmAll (Φ : Nat → LEn → Prop) : Nat → List LEn → Prop
  | _, [] => True
  | j, e :: r => Φ j e ∧ LmAll Φ (j + 1) r
theorem LmAll.at_ {Φ : Nat → LEn → Prop} : ∀ {L : List LEn} {j i : Nat} {e : LEn}, LmAll Φ j L → L[i]? = some e → Φ (j + i) e
  | [], _, _, _, _, h => by simp at h
  | a :: r, j, 0, e, h, q => by
    simp at q
    subst q
    exact h.1
  | a :: r, j, i + 1, e, h, q => by
    have := LmAll.at_ (i := i) h.2 (by simpa using q)
    rw [show j + 1 + i = j + (i + 1) by omega] at this
    exact this
/-- what is to be shown of one of them -/
def LmOne (X : Cx) (tb : Tb) (k : Nat) (lamS : Nat → Sem1) (i : Nat) (e : LEn) : Prop := LamK X.env.scope X.N e.scope ∧ e.Bd ∧
  ∀ (f c' : Addr) (A : Around) (outer : List Env) (s : Shared) (H : Hp) (E : XK), Room k (A.deeper (lamEnv X e.scope s.heap.objs.size f c')) → A.guards = some [] → ∀ (C : Hp → V → Prop) (hC : ∀ (F F' : Hp) (v : V), Le F F' → C F v → C F' v) (W : WX), Takes (lamCx X A outer s H E e.scope f c') W → RE (lamCx X A outer s H E e.scope f c') (tb.setC C hC) W e.body (lamS i)
theorem lm_mk {X : Cx} {tb : Tb} {k nL : Nat} {lamS : Nat → Sem1} {L : List LEn} (hl : L.length = nL) (h : LmAll (LmOne X (tb.ofX X.env.qual X.env.cells L) k lamS) 0 L) : Lm X (tb.ofX X.env.qual X.env.cells L) k nL lamS := by
  refine ⟨fun i hi F f hf => ?_⟩
  obtain ⟨_, e, h1, h2⟩ := hf
  have ei : 1000 + i - 1000 = i := by omega
  rw [ei] at h1
  have q := h.at_ h1
  rw [Nat.zero_add] at q
  exact ⟨e, h2, q.1, q.2.1, fun c' A outer s H E => q.2.2 f c' A outer s H E⟩
/-- a promise over all tables alike -/
def FoA (P : Program) (w : World) (K : PySem.W.Frag) (mg : Str → Option Value) (gb : Heap) (tb : Tb) (k : Nat) (x : Str) (ps : List Str) (g : Fs) : Prop := ∀ tb' : Tb, tb'.fnA = tb.fnA → tb'.clA = tb.clA → tb'.hp = tb.hp → FoX P w K mg gb tb' k x ps g
end EvL
end

section
set_option Elab.async false
set_option linter.all false
set_option maxRecDepth 100000
set_option maxHeartbeats 4000000
/-! E29: [f(x) for y in ..], where f calls lambdas of the frame: the block's element is told what the frame holds -/
namespace EvL
open PySem PySem.Spec PyProof.Rows L2 LamX
section
variable {X : Cx}
/-- as lc_core, its element's rule may use the frame's state at the block's start -/
theorem lc_in {ps : List (Addr × Obj)} {st : Shared} {sl : L2.St} {Hs : Hp} {Q : VK} {el tg it : Expr} {sc : Scope} {own : List (Str × Nat)} {p p' : Pos} {wi : TI} {gt : TG} {te : TE} {Qf : Value → Shared → Prop}
    (calm : X.calm = true) (nd : X.N.Nodup) (I0 : Inv X ps sl Hs st) (hi : PI X tg it wi) (bk : BlkOk X.N X.env.scope sc own)
    (hg : ∀ (s : Shared) (H : Hp) (C : Addr) (cl : List (Str × Addr)) (fp : List Addr), PG (X.blk s H sc (compEnvC sc cl C X.env) fp) tg gt)
    (he : ∀ (s : Shared) (H : Hp) (C : Addr) (cl : List (Str × Addr)) (fp : List Addr), Inv X ps sl H s → (∀ b ∈ fp, FpOk X ps H b) → PE (X.blk s H sc (compEnvC sc cl C X.env) fp) el te) (nf : ∀ x, foldedSetIterable it X.env x = pure x)
    (h : tLc wi gt tYes te (own.map (·.2)) sl Hs Q)
    (out : ∀ D C s' m H', Inv X ps sl H' s' → Q (.ref D) H' → s'.heap.Ns C m → FpOk X ps H' C → compPost (model X.prog X.w) X.A X.xe none Qf (.ref D) C (.ok .next) s') :
    wpAny (model X.prog X.w) X.A (comprehension (.ListComp el [⟨tg, it, [], 0⟩] sc p) sc X.env p' (newList []) false (eval it X.env) none) Qf X.xe st := by
  have fr : ∀ y ∈ sc.names, y.2 = .free → ∃ c, X.env.cells.lookup y.1 = some c := by
    intro y hy e
    cases bk.free y hy e with
    | inl k => exact I0.ok.has _ (.inl k)
    | inr k => exact I0.ok.has _ (.inr k)
  refine wpAny_comprehension_free (use := none) rfl nf (closure_ok fr) bk.kind (fun y hy e => by rw [bk.uniq y hy, e]) (thn (hi.run ps st sl Hs _ I0 h) fun xv sa ha => thn ha fun iv sb hb => ?_)
  obtain ⟨ia, fp, tn, J, Hb, rfl, Ib, T, stb, fpb, q⟩ := hb
  refine wpAny_newObj_type (newEnv_comp ?_) (by show 0 ≤ sizeLine; decide)
  generalize eD : sb.heap.objs.size = D
  have freeD : Hb D = none := Ib.hok.fresh (Nat.le_of_eq eD)
  obtain ⟨Wm, ⟨m0, w0⟩, turn⟩ := q D freeD
  generalize eS : ({ sb with heap := sb.heap.push { cls := .type "list", data := .seq ([] : List Value).toArray } } : Shared) = sc3
  have hp3 : sc3.heap = sb.heap.push { cls := .type "list", data := .seq ([] : List Value).toArray } := by rw [← eS]
  have Ic : Inv X ps sl (upd Hb D (.lst [])) sc3 := by
    rw [← eS]
    exact Ib.laid (t' := sb.toks) (fun b o e => Heap.get?_push_of_some _ e) (Nat.le_of_eq eD) ⟨Nat.zero_le _, [], 0, .nil, by rw [← eD]; exact Heap.get?_push_size _ rfl⟩
  have fp3 : ∀ b ∈ fp, FpOk X ps (upd Hb D (.lst [])) b ∧ b < sc3.heap.objs.size := by
    intro b hb
    obtain ⟨o, e, _⟩ := T.obj _ _ stb b hb
    have lt := Heap.lt_size e
    have ne : b ≠ D := by rw [← eD]; exact Nat.ne_of_lt lt
    exact ⟨⟨by rw [upd_ne ne]; exact (fpb b hb).1, (fpb b hb).2⟩, by rw [hp3, Heap.size_push]; exact Nat.lt_succ_of_lt lt⟩
  have stc : tn 0 sc3.heap := T.keep _ _ _ stb fun b _ o e => by rw [hp3]; exact Heap.get?_push_of_some _ e
  have Id := block_start Ic bk nd fp3
  have rG := hg sc3 (upd Hb D (.lst [])) sc3.heap.objs.size (cellsFrom (sc3.heap.objs.size + 1) sc.names (cloFrom X.env.cells sc.names [])) fp
  have rE := he sc3 (upd Hb D (.lst [])) sc3.heap.objs.size (cellsFrom (sc3.heap.objs.size + 1) sc.names (cloFrom X.env.cells sc.names [])) fp Ic fun b hb => (fp3 b hb).1
  have fpN : ∀ b ∈ fp, (upd Hb D (.lst [])) b = none := fun b hb => (fp3 b hb).1.1
  show codeAny _ _ (.compStart (.ListComp el [⟨tg, it, [], 0⟩] sc p) 0 (.ref ia) (.ref D) (compEnvC sc (cellsFrom (sc3.heap.objs.size + 1) sc.names (cloFrom X.env.cells sc.names [])) sc3.heap.objs.size X.env))
    (compPost (model X.prog X.w) X.A X.xe none Qf (.ref D) sc3.heap.objs.size) { sc3 with heap := pushCells (sc3.heap.push { cls := .type "dict", data := .dict #[] }) sc.names }
  generalize eE : compEnvC sc (cellsFrom (sc3.heap.objs.size + 1) sc.names (cloFrom X.env.cells sc.names [])) sc3.heap.objs.size X.env = be at Id rG rE ⊢
  have lE : be.locals = sc3.heap.objs.size := by rw [← eE]; rfl
  generalize eH : upd Hb D (.lst []) = Hc at Ic Id rG rE w0 fpN fp3
  generalize eT : ({ sc3 with heap := pushCells (sc3.heap.push { cls := .type "dict", data := .dict #[] }) sc.names } : Shared) = sd at Id ⊢
  have std : tn 0 sd.heap := T.keep _ _ _ stc fun b _ o e => by rw [← eT]; exact pushCells_keeps _ _ _ _ (Heap.get?_push_of_some _ e)
  have still : ∀ {σ' : L2.St} {H' : Hp} {s' : Shared}, Inv (X.blk sc3 Hc sc be fp) [] σ' H' s' → (∀ b ∈ fp, H' b = none) → ∀ b ∈ fp, FpOk (X.blk sc3 Hc sc be fp) [] H' b := by
    intro σ' H' s' I' hn b hb
    refine ⟨hn b hb, (I'.ok.exf b hb).1, I'.ok.exfs b hb, .inl hb, fun x c e => (I'.ok.exf b hb).2 x c e, fun q hq => ?_⟩
    exact absurd (show q ∈ ([] : List (Addr × Obj)) ++ [] from hq) (by simp)
  refine codeAny_compStart_list ?_ (T.self X.A 0 _ _ _ std ?_)
  all_goals
    refine compLoop_any (fun n s' => ∃ i H', Inv (X.blk sc3 Hc sc be fp) [] (wipe sl (own.map (·.2))) H' s' ∧ tn i s'.heap ∧ (∀ b ∈ fp, H' b = none) ∧ Wm i n H') ?_ m0 ⟨0, Hc, Id, std, fpN, w0⟩
    rintro n s5 ⟨i, H5, I5, st5, n5, w5⟩
    rcases turn i n H5 w5 with ⟨stop, done⟩ | ⟨go, Nx, less, step⟩
    · refine thnF (T.done (X.blk sc3 Hc sc be fp) rfl rfl rfl calm i [] s5 _ H5 (fun _ _ => False) I5 (still I5 n5) st5 stop) fun r s6 ⟨hr, I6⟩ => ?_
      subst hr
      have back : Inv X ps sl H5 s6 := Ic.call' (ch := fp) I6.os I6.base I6.hok I6.bare fun b hb =>
        let z := (fp3 b hb).1
        ⟨z.2.2.2.1, z.2.1, z.2.2.2.2.1, z.2.2.2.2.2⟩
      have noC : H5 be.locals = none := I6.free
      obtain ⟨mm, hn, _⟩ := I6.loc
      have hn : s6.heap.Ns be.locals mm := hn
      rw [lE] at hn noC
      exact out D _ s6 mm H5 back done hn (Ic.fpOk (Nat.le_refl _) noC)
    · refine thnF (T.item (X.blk sc3 Hc sc be fp) rfl rfl rfl calm i [] s5 _ H5 (fun _ _ => False) I5 (still I5 n5) st5 go) fun r s6 ⟨u, hr, h6⟩ => ?_
      subst hr
      refine thnF h6 fun _ s7 ⟨x, H7, I7, r7, y7, st7, n7⟩ => ?_
      refine thnF (rG.run _ s7 _ H7 x u _ (I7.pinned (still I7 n7) (T.obj _ _ st7)) r7 (step x H7 y7)) fun _ s8 ⟨σ8, H8, I8, hw, q8⟩ => ?_
      refine thnF ((pts_nil (X := X.blk sc3 Hc sc be fp)).run _ s8 σ8 H8 _ I8 q8) fun b s9 ⟨H9, I9, q9⟩ => ?_
      have next : ∀ {s' : Shared} {H' : Hp}, Inv (X.blk sc3 Hc sc be fp) ([] ++ pinsAt fp s7.heap) σ8 H' s' → Nx H' → ∃ m, m < n ∧ ∃ i H', Inv (X.blk sc3 Hc sc be fp) [] (wipe sl (own.map (·.2))) H' s' ∧ tn i s'.heap ∧ (∀ b ∈ fp, H' b = none) ∧ Wm i m H' := by
        intro s' H' I' nx
        obtain ⟨m', lt, w'⟩ := less H' nx
        have held : ∀ b ∈ fp, ∀ o, s7.heap.get? b = some o → s'.heap.get? b = some o ∧ H' b = none := fun b hb o e => by
          have z := I'.pin (b, o) (List.mem_append_right _ (List.mem_append_right _ (mem_pinsAt hb e)))
          exact ⟨z.1, z.2.1⟩
        refine ⟨m', lt, i + 1, H', (I'.unpinned (pins := [])).weak (by rw [← hw, wipe_length]) (fun j v e => ?_), T.keep _ _ _ st7 fun b hb o e => (held b hb o e).1, fun b hb => ?_, w'⟩
        · rw [← hw] at e
          exact (wipe_some e).1
        · obtain ⟨o, e, _⟩ := T.obj _ _ st7 b hb
          exact (held b hb o e).2
      cases b with
      | false =>
        rw [if_neg Bool.false_ne_true] at q9 ⊢
        exact next I9 q9
      | true =>
        rw [if_pos rfl] at q9 ⊢
        refine thnF (rE.run _ s9 σ8 H9 _ I9 q9) fun z s10 ⟨yv, H10, I10, r10, acc, hD10, hz10, nx⟩ => ?_
        exact app_ok (X := X.blk sc3 Hc sc be fp) I10 hD10 hz10 r10 fun s11 I11 => next I11 nx
end
section
variable {K : PySem.W.Frag} {tb : Tb} {W : WX} {X : Cx} {tg elt iter : Expr} {fi : SemF} {pos : Pos} {own : List (Str × Nat)} {scope : Scope} {G : Tgt} {sl : List Nat}
theorem comp_runF {own : List Nat} {σ : L2.St} {H F : Hp} {ρ : List Addr} {en : En} {m : Store} {f : Sem1} {Q : VK} (hsl : ∀ i ∈ sl, i ∈ own) (he0 : EnvOk K tb F ρ en σ) (ho0 : Wo K tb F ρ m H) (q : PostF K tb W F ρ σ Q (fComp fi G bYes f own en m)) : tLc (tI K tb W fi) (tG K tb G sl) tYes (tEF K tb WN F f) own σ H Q := by
  refine tI_bind he0 ho0 q fun xs m1 F1 ρ1 H1 J e1 he1 ho1 w q1 => ?_
  intro D hD
  obtain ⟨Gp, Y, wk, hG, hY⟩ := w
  obtain ⟨o0, x0⟩ := ho1.push (xs := []) (vs := []) hD .nil
  have hl : ρ1.length = m1.length := ho1.len
  refine lc_it wk (fun i H1 => ∃ F2 ρ2 m2, Ext F1 (ρ1 ++ [D]) F2 ρ2 ∧ Wo K tb F2 ρ2 m2 H1 ∧ PostF K tb W F2 ρ1 σ Q (lcLoop m1.length G bYes f (wipeE en own) (xs.drop i) m2)) ⟨F1, _, _, .refl _ _, o0, q1⟩ (fun i H2 _ ⟨F2, ρ2, m2, e2, o2, _⟩ => hG H2 (e2.le.trans o2.sub)) ?_ ?_
  · rintro i y H2 H3 hi ⟨F2, ρ2, m2, e2, o2, q2⟩ hy
    obtain ⟨F3, d, e3, o3, hd, rd⟩ := hY i H2 y H3 F2 ρ2 m2 hi e2.le o2 hy
    rw [List.drop_eq_getElem_cons hi] at q2
    have hd' : xs[i] = d := by
      rw [List.getElem?_eq_getElem hi] at hd
      exact Option.some.inj hd
    rw [hd'] at q2
    have q2 := PostF.ext (⟨e3.le, List.prefix_refl _⟩ : Ext F2 ρ1 F3 ρ1) q2
    have he3 : EnvOk K tb F3 ρ2 (wipeE en own) (wipe σ own) := (((he1.mono x0).mono e2).mono e3).wipes _
    refine ⟨F3, ρ2, _, m2, .d d, he3, o3, .d rd, ?_⟩
    unfold lcLoop at q2
    cases eg : G (.d d) (wipeE en own) m2 with
    | none => rw [eg] at q2; exact q2.elim
    | some en' =>
      rw [eg] at q2
      refine fun σ' he' bu => ⟨But.wiped bu hsl, ?_⟩
      unfold tYes
      refine iteT ?_
      replace q2 : PostF K tb W F3 ρ1 σ Q (match f en' m2 with
        | .ok y m2 => (match frz m2 y with
          | some (z, m3) => (match m3[m1.length]? with
            | some (.lst acc) => if fits (acc.length + 1) then lcLoop m1.length G bYes f (wipeE en own) (List.drop (i + 1) xs) (m3.set m1.length (.lst (acc ++ [z]))) else .no
            | _ => .no)
          | none => .no)
        | _ => .no) := q2
      refine ⟨F3, ρ2, en', m2, e1.le.trans (e2.le.trans e3.le), he', o3, ?_⟩
      cases ef : f en' m2 with
      | no => rw [ef] at q2; exact q2.elim
      | ex _ _ => rw [ef] at q2; exact q2.elim
      | ok z m4 =>
        rw [ef] at q2
        dsimp only at q2
        intro F5 ρ5 H5 v x5 o5 r5
        split at q2
        · rename_i zz m5 hz
          obtain ⟨F6, x6, o6, r6⟩ := frz_ok o5 r5 hz
          split at q2
          · rename_i acc hacc
            have hD6 : ρ5[m1.length]? = some D := pre_get ((e2.trans e3).trans x5).pre (by rw [← hl]; simp)
            obtain ⟨p1, vs, p2, p3⟩ := o6.lst _ _ _ hD6 hacc
            split at q2
            · rename_i hf
              refine ⟨vs, p2, by rw [← p3.length]; exact fits_lt hf, F6, ρ5, _, ((e2.trans e3).trans x5).trans x6, o6.setL hD6 hacc (p3.append (.cons r6 .nil)), ?_⟩
              exact PostF.ext ⟨x5.le.trans x6.le, List.prefix_refl _⟩ q2
            · exact q2.elim
          · exact q2.elim
        · exact q2.elim
  · rintro H2 ⟨F2, ρ2, m2, e2, o2, q2⟩
    rw [List.drop_length] at q2
    unfold lcLoop at q2
    split at q2
    · rename_i hlen
      split at q2
      · rename_i acc hacc
        rw [← hl] at hacc q2 hlen
        obtain ⟨o3, vs, p2, p3⟩ := Wo.pop (vs := []) o2 e2.pre hlen hacc
        have := q2 F2 ρ1 _ D vs (.refl _ _) o3 (by simp) p3
        have e : upd (fun a => if a = D then none else H2 a) D (.lst vs) = H2 := by
          funext a
          by_cases h : a = D
          · subst h; rw [upd_same]; exact p2.symm
          · rw [upd_ne h, if_neg h]
        rw [e] at this
        exact this
      · exact q2.elim
    · exact q2.elim
/-- the element reads the frame as it stands at the start -/
def fCompE (fi : SemF) (G : Tgt) (f0 : En → Sem1) (vs : List Nat) : SemF := fun en m => fComp fi G bYes (f0 en) vs en m
theorem rf_compE {f0 : En → Sem1} (hc : X.calm = true) (hN : X.N.Nodup) (hi : RI X tb W tg iter fi) (ok : BlkOk X.N X.env.scope scope own)
    (hg : ∀ (s : Shared) (H : Hp) (C : Addr) (cl : List (Str × Addr)) (fp : List Addr), RG (X.blk s H scope (compEnvC scope cl C X.env) fp) tb tg G sl)
    (he : ∀ (s : Shared) (H : Hp) (C : Addr) (cl : List (Str × Addr)) (fp : List Addr) (pn : List (Addr × Obj)) (σ0 : L2.St) (F0 : Hp) (ρ0 : List Addr) (en0 : En), Inv X pn σ0 H s → (∀ b ∈ fp, FpOk X pn H b) → EnvOk X.K tb F0 ρ0 en0 σ0 → PE (X.blk s H scope (compEnvC scope cl C X.env) fp) elt (tEF X.K tb WN F0 (f0 en0)))
    (hsl : ∀ i ∈ sl, i ∈ own.map (·.2)) (hs : ∀ x, foldedSetIterable iter X.env x = pure x := by intro _; rfl) :
    RF X tb W (.ListComp elt [⟨tg, iter, [], 0⟩] scope pos) (fCompE fi G f0 (own.map (·.2))) := by
  refine ⟨fun pins s σ H Q I q => ?_⟩
  obtain ⟨F, ρ, en, m, he0, ho0, q⟩ := q
  rw [eval_ListComp]
  refine lc_in hc hN I hi ok hg (fun s' H' C cl fp I' hfp => he s' H' C cl fp pins σ F ρ en I' hfp he0) hs (comp_runF hsl he0 ho0 q) fun D C s' mm H' I' q hn f => ⟨mm, hn, fun h2 sb => ?_⟩
  obtain ⟨f0, f1, f2, f3, f4, f5⟩ := f
  exact ⟨.ref D, H', I'.turned (t' := s'.toks) (fun b o hb e => (sb.2 b hb).trans e) f0 f1 f3 f4 f5, rfl, q⟩
end
end EvL
end

section
set_option Elab.async false
set_option linter.all false
set_option maxRecDepth 100000
set_option maxHeartbeats 4000000
/-! E30: the head of a law whose defs make lambdas -/
namespace EvL
open PySem PySem.Spec PyProof.Rows L2 LamX
theorem tabs_stay {T : List (Addr × Str)} {H H' : Hp} (t : Tabs T H) (h : ∀ b o, H b = some o → (∃ xs, o = HO.lst xs) ∨ (∃ kv, o = HO.dK kv) ∨ H' b = some o) : Tabs T H' := fun p hp => by
  obtain ⟨ps, e1, e2, e3⟩ := t p hp
  refine ⟨ps, ?_, e2, fun pos cv hc => ?_⟩
  · rcases h _ _ e1 with ⟨_, z⟩ | ⟨_, z⟩ | z
    · cases z
    · cases z
    · exact z
  · obtain ⟨c, a1, a2⟩ := e3 pos cv hc
    refine ⟨c, a1, ?_⟩
    rcases h _ _ a2 with ⟨_, z⟩ | ⟨_, z⟩ | z
    · unfold CodeO at z; cases z
    · unfold CodeO at z; cases z
    · exact z
def mkTbT (as cs : List Addr) (TT : List (Addr × Str)) : Tb where
  fnA := fun n => as.getD n 0
  clA := fun n => cs.getD n 0
  isL := fun _ _ _ => False
  isM := fun _ _ _ _ _ h => h
  isU := fun _ _ _ _ h => h
  isC := fun _ _ => False
  isCM := fun _ _ _ _ h => h
  hp := Tabs TT
  hpS := fun _ _ h q => tabs_stay h q
/-- the law's def called, the tables (by their code objects) known -/
theorem head_callT {P : Program} {w : World} {K : PySem.W.Frag} {mg mb : Str → Option Value} {k : Nat} {fa a : Addr} {tb : Tb} {nm x : Str} {g : Fs} {s₁ : Shared} {vs : List Value} {ns : List Int} {ts : List (Addr × Addr)}
    (KX : K.In s₁.heap) (hns : s₁.heap.Ns mainGlobals mg) (hb : s₁.heap.Ns builtinsNs mb) (hbb : ∀ x : Str, x ≠ "__name__" → mb x = bootBuiltins x) (hlim : s₁.heap.NoLimit) (hg : s₁.gens = #[])
    (tE : ∀ p ∈ ts, s₁.heap.get? p.2 = some { cls := .none, data := .fields #[] }) (tK : ∀ p ∈ ts, K.lookup p.2 = none) (tC : ∀ p ∈ ts, PySem.W.CodeHd s₁.heap p.1 p.2)
    (bmod : ∃ (bm : Addr) (ob : Obj), mg "__builtins__" = some (.ref bm) ∧ bm ≠ builtinsNs ∧ s₁.heap.get? bm = some ob ∧ ob.cls = .type "module" ∧ ob.dict = some builtinsNs ∧ ob.data = .plain)
    (ha : s₁.heap.get? a = some { cls := .type "list", data := .seq vs.toArray }) (hi : IntsAre vs ns) (hl : ns.length ≤ sizeLine) (hr : Room k callerA)
    (F : ∀ gb : Heap, K.In gb → gb.Ns mainGlobals mg → (∀ p ∈ ts, TabB gb mg p.1 p.2) → FoX P w K mg gb tb k nm [x] g) (hfa : mg nm = some (.ref fa))
    (hsp : ∀ H : Hp, (∀ p ∈ ts, H p.2 = some (.tbl #[])) → SqL K H a (ns.map V.int) → spE K tb 1 g [.ref a] H (fun v _ => v = .bl true) fun _ _ _ => False) :
    codeAny (model P w) callerA (.call (.ref fa) ⟨[.ref a], []⟩) (fun r s' => r = .ok (.ret (.bool true)) ∧ OldK s₁.heap s'.heap ∧ s'.os = s₁.os ∧ AllBare s'.gens) s₁ := by
  have rv := vals_ints hi
  have lenV := hi.length
  have tab : ∀ b : Addr, b ∈ ts.map (·.2) → s₁.heap.get? b = some { cls := .none, data := .fields #[] } := fun b hb => by
    obtain ⟨p, hp, e⟩ := List.mem_map.mp hb
    subst e
    exact tE p hp
  have aT : a ∉ ts.map (·.2) := fun z => by
    have q := tab a z
    rw [ha] at q
    have q2 : Data.seq vs.toArray _ = Data.fields #[] := congrArg Obj.data (Option.some.inj q)
    cases q2
  have inT : ∀ p ∈ ts, p.2 ∈ ts.map (·.2) := fun p hp => List.mem_map.mpr ⟨p, hp, rfl⟩
  have main : ∀ H : Hp, (∀ p ∈ ts, H p.2 = some (.tbl #[])) → (∀ b, H b = none ∨ b ∈ ts.map (·.2) ∨ ∃ o xs, H b = some (.frz o (.lst xs))) → SqL K H a (ns.map V.int) → HOk P w H s₁.heap → (∀ b, H b ≠ none → b = a ∨ b ∈ ts.map (·.2)) → (H a ≠ none → K.lookup a = none) →
      codeAny (model P w) callerA (.call (.ref fa) ⟨[.ref a], []⟩) (fun r s' => r = .ok (.ret (.bool true)) ∧ OldK s₁.heap s'.heap ∧ s'.os = s₁.os ∧ AllBare s'.gens) s₁ := by
    intro H hT only seq ok one out
    have keep : ∀ {b : Addr} {o : Obj}, s₁.heap.get? b = some o → H b = none → (hidT s₁.heap H).get? b = some o := fun e n => hidT_get e n
    have un : ∀ {b : Addr} {o : Obj}, s₁.heap.get? b = some o → (∀ vs n, o.data ≠ .seq vs n) → o.data ≠ .fields #[] → H b = none := fun {b o} e n1 n2 => by
      cases q : H b with
      | none => rfl
      | some u =>
        rcases one b (by rw [q]; simp) with z | z
        · subst z; rw [ha] at e; cases e; exact absurd rfl (n1 _ _)
        · rw [tab b z] at e; cases e; exact absurd rfl n2
    have kNs : ∀ {b : Addr} {m : Str → Option Value}, s₁.heap.Ns b m → (hidT s₁.heap H).Ns b m := fun {b m} ⟨o, es, ep, e, d, r⟩ => ⟨o, es, ep, keep e (un e (fun vs n z => by rw [d] at z; cases z) fun z => by rw [d] at z; cases z), d, r⟩
    have kIn : K.In (hidT s₁.heap H) := fun b o e => keep (KX b o e) (by
      cases q : H b with
      | none => rfl
      | some u =>
        rcases one b (by rw [q]; simp) with z | z
        · subst z; rw [out (by rw [q]; simp)] at e; cases e
        · obtain ⟨p, hp, ep⟩ := List.mem_map.mp z
          subst ep
          rw [tK p hp] at e; cases e)
    have nTG : ∀ p ∈ ts, mainGlobals ≠ p.2 := fun p hp z => by
      obtain ⟨o, es, ep, e, hd, _⟩ := hns
      rw [z, tE p hp] at e; cases e; cases hd
    have TB : ∀ p ∈ ts, TabB (hidT s₁.heap H) mg p.1 p.2 := fun p hp => by
      refine ⟨?_, ?_, nTG p hp⟩
      · obtain ⟨o, us, file, tf, flags, tg, inF, text, tt, e1, r1, r2, r3, rest⟩ := tC p hp
        exact ⟨o, us, file, tf, flags, tg, inF, text, tt, keep e1 (un e1 (fun vs n z => by rw [r2] at z; cases z) fun z => by rw [r2] at z; cases z; simp at r3), r1, r2, r3, rest⟩
      · obtain ⟨bm, ob, b1, b2, b3, b4, b5, b6⟩ := bmod
        refine ⟨bm, ob, b1, b2, fun q => ?_, fun q => ?_, keep b3 (un b3 (fun vs n z => by rw [b6] at z; cases z) fun z => by rw [b6] at z; cases z), b4, b5, b6⟩
        · obtain ⟨o, es, ep, e, hd, _⟩ := hns
          rw [q, e] at b3; cases b3; rw [hd] at b6; cases b6
        · rw [q, tE p hp] at b3; cases b3; cases b6
    have hM : Mod K mg (hidT s₁.heap H) := ⟨kIn, kNs hns, ⟨mb, kNs hb, hbb⟩, let ⟨mc, h1, h2⟩ := hlim; ⟨mc, kNs h1, h2⟩⟩
    have e0 : Env0 P w K mg (hidT s₁.heap H) callerA [] s₁ H := ⟨rfl, hM, fun b o e => of_hidT e, Nat.le_of_eq (hidT_size _ _), trivial, fun b hb => absurd (show b ∈ ([] : List Addr) from hb) (by simp), ok, .of_eq hg⟩
    obtain ⟨⟨f, fd, Fo, _⟩, _⟩ := F _ kIn (kNs hns) TB
    have ef := Fo.mg
    rw [hfa] at ef
    cases ef
    refine codeAny_mono (Fo.ok.go callerA [] s₁ H ⟨[.ref a], []⟩ [.ref a] [.ref a] _ _ hr rfl e0 (Fo.bd s₁ [.ref a] KX rfl) (.cons rfl .nil) (hsp H hT seq)) fun r s' h => ?_
    cases r with
    | error e =>
      obtain ⟨_, _, _, _, _, _, _, _, _, _, _, _, z⟩ := (show L2.CX P w [] H s₁ (fun _ _ _ => False) e s' from h)
      exact z.elim
    | ok fl =>
      cases fl with
      | ret u =>
        obtain ⟨v, H', os, bare, un2, ok2, r2, q⟩ := h
        have q2 : v = .bl true := q
        subst q2
        obtain rfl : u = Value.bool true := r2
        have rest : ∀ b o, b ∉ ts.map (·.2) → s₁.heap.get? b = some o → s'.heap.get? b = some o := fun b o nb e => by
          cases q : H b with
          | none => exact un2.keep b o e q (by intro z; exact absurd (show b ∈ ([] : List Addr) from z) (by simp)) (by simp)
          | some u =>
            rcases only b with z | z | ⟨ob, xs, z⟩
            · rw [q] at z; cases z
            · exact absurd z nb
            · obtain ⟨e1, _⟩ := ok b _ z
              obtain ⟨e2, _⟩ := ok2 b _ (un2.frzs b ob _ z)
              rw [e] at e1; cases e1
              exact e2
        have more : ∀ p ∈ ts, ∃ ms : Array Value, s'.heap.get? p.2 = some { cls := .none, data := .fields ms } := fun p hp => by
          obtain ⟨ms, z⟩ := un2.tbls p.2 #[] (hT p hp)
          exact ⟨_, ok2 p.2 _ z⟩
        refine ⟨rfl, ⟨fun b o e => ?_, fun b o e => ?_⟩, os, bare⟩
        · by_cases hb : b ∈ ts.map (·.2)
          · obtain ⟨p, hp, ep⟩ := List.mem_map.mp hb
            subst ep
            obtain ⟨ms, hm⟩ := more p hp
            rw [tE p hp] at e; cases e
            exact .inr (.inl ⟨((tC p hp).tab (tE p hp)).isCodeTable, rfl, #[], ms, rfl, by rw [Array.empty_append]; exact hm⟩)
          · exact .inl (rest b o hb e)
        · by_cases hb : b ∈ ts.map (·.2)
          · obtain ⟨p, hp, ep⟩ := List.mem_map.mp hb
            subst ep
            obtain ⟨ms, hm⟩ := more p hp
            exact ⟨_, hm⟩
          · exact ⟨o, rest b o hb e⟩
      | _ => exact False.elim h
  let T0 : Hp := fun b => if b ∈ ts.map (·.2) then some (.tbl #[]) else none
  have t1 : ∀ b, b ∈ ts.map (·.2) → T0 b = some (.tbl #[]) := fun b h => if_pos h
  have t2 : ∀ b, b ∉ ts.map (·.2) → T0 b = none := fun b h => if_neg h
  cases hk : K.lookup a with
  | some o =>
    have e := KX a o hk
    rw [ha] at e
    cases e
    refine main T0 (fun p hp => t1 _ (inT p hp)) (fun b => ?_) (.inr ⟨_, vs.toArray, _, hk, rfl, rfl, rfl, by rw [List.size_toArray, lenV]; exact hl, by simpa using rv⟩) (fun b u z => ?_) (fun b z => ?_) fun z => absurd (t2 a aT) z
    · by_cases h : b ∈ ts.map (·.2)
      · exact .inr (.inl h)
      · exact .inl (t2 b h)
    · by_cases h : b ∈ ts.map (·.2)
      · rw [t1 b h] at z; cases z
        exact tab b h
      · rw [t2 b h] at z; cases z
    · by_cases h : b ∈ ts.map (·.2)
      · exact .inr h
      · exact absurd (t2 b h) z
  | none =>
    let T1 : Hp := upd T0 a (.frz { cls := .type "list", data := .seq vs.toArray } (.lst (ns.map V.int)))
    have u1 : T1 a = some (.frz { cls := .type "list", data := .seq vs.toArray } (.lst (ns.map V.int))) := upd_same
    have u2 : ∀ b, b ≠ a → T1 b = T0 b := fun b h => upd_ne h
    have na : ∀ b, b ∈ ts.map (·.2) → b ≠ a := fun b h z => aT (z ▸ h)
    refine main T1 (fun p hp => by rw [u2 _ (na _ (inT p hp))]; exact t1 _ (inT p hp)) (fun b => ?_) (.inl (.inr ⟨_, u1⟩)) (fun b u z => ?_) (fun b z => ?_) fun _ => hk
    · by_cases hb : b = a
      · subst hb; exact .inr (.inr ⟨_, _, u1⟩)
      · by_cases h : b ∈ ts.map (·.2)
        · exact .inr (.inl h)
        · exact .inl (by rw [u2 b hb]; exact t2 b h)
    · by_cases hb : b = a
      · subst hb
        rw [u1] at z; cases z
        exact ⟨ha, by rw [List.length_map]; exact hl, vs, _, rv, ha⟩
      · rw [u2 b hb] at z
        by_cases h : b ∈ ts.map (·.2)
        · rw [t1 b h] at z; cases z
          exact tab b h
        · rw [t2 b h] at z; cases z
    · by_cases hb : b = a
      · exact .inl hb
      · rw [u2 b hb] at z
        by_cases h : b ∈ ts.map (·.2)
        · exact .inr h
        · exact absurd (t2 b h) z
/-- what k_head leaves, from what the law's def computes; TT: the tables, each with its lambdas' name -/
theorem walkGT {l : PySem.W.OpenLaw} {n k : Nat} {q : Program} {loose : List Str} {XP : (Str → Option Value) → Heap → Prop} {YP : World → Heap → Prop} {d : DefRec} {K : Params → PySem.W.Frag} {x : Str} {g : Fs}
    (hn : l.most = some n) (hn2 : n ≤ sizeLine) (hdf : d.params.defaults = []) (hr : Room k callerA) (hY : ∀ (w : World) (h : Heap), YP w h → (K w.params).In h)
    (F : ∀ (w : World) (mg : Str → Option Value) (h : Heap), YP w h → (K w.params).In h → h.Ns mainGlobals mg → ∃ (as cs : List Addr) (ts : List (Addr × Addr)) (TT : List (Addr × Str)), (∀ p ∈ ts, h.get? p.2 = some { cls := .none, data := .fields #[] }) ∧ (∀ p ∈ ts, (K w.params).lookup p.2 = none) ∧ (∀ p ∈ ts, PySem.W.CodeHd h p.1 p.2) ∧
      (∀ p ∈ TT, ∃ c, (c, p.1) ∈ ts) ∧ ∀ gb : Heap, (∀ p ∈ ts, TabB gb mg p.1 p.2) → FoX l.prog w (K w.params) mg gb (mkTbT as cs TT) k d.name [x] g)
    (hg : ∀ ns : List Int, ns.length ≤ n → ∃ m, g [.d (.scr ns)] [] = .ok (.d (.bl true)) m) : PySem.W.WalkO q loose XP YP l.row.toRowW d [] (fun f vs => PySem.call f vs) := by
  refine Att.attach_call hn hdf fun w s₀ s₁ mg mb fa o pm cd doc a vs ns G Y ho hd hcd hmg hobj hints hlen hgn => ?_
  have KX := hY w _ Y
  obtain ⟨as, cs, ts, TT, f1, f2, f3, f4, hF⟩ := F w mg _ Y KX G.T.g
  refine head_callT KX G.T.g G.T.b G.T.builtins G.T.nolimit hgn f1 f2 f3 G.T.bmain hobj hints (Nat.le_trans hlen hn2) hr (fun gb _ _ => hF gb) hmg fun H hT hS => ⟨rfl, ?_⟩
  obtain ⟨m, e⟩ := hg ns hlen
  refine ⟨noT H, [], [.d (.scr ns)], [], .cons (.d (.scr (noT_sql hS))) .nil, ⟨noT_le H, rfl, List.nodup_nil, fun i a xs h => by simp at h, fun i a xs h => by simp at h, fun a h => by simp at h, fun p hp => ?_, noT_nt H⟩, ?_⟩
  · obtain ⟨c, hc⟩ := f4 p hp
    exact TabS.nil (hT _ hc)
  · rw [e]
    intro F' ρ' H' v _ _ r
    cases r with
    | d r => cases r; rfl
/-- a maker of lambdas: its code object, its table -/
structure LamF (K : PySem.W.Frag) (mg : Str → Option Value) (gb : Heap) (TT : List (Addr × Str)) (x : Str) (st : Stmt) (ps : List Str) (q : Str) : Prop where
  ex : ∃ c P, DtL K mg x st ps c ∧ TabB gb mg c P ∧ (P, q) ∈ TT ∧ ∀ p ∈ TT, p.1 = P → p.2 = q
section
variable {P : Program} {K : PySem.W.Frag} {h : Heap} {mg : Str → Option Value} {x : Str} {fa c : Addr} {st : Stmt} {ps : List Str}
theorem dtL_mk {oc kV doc pm ct : Value} {od an : Option Addr} {osl : Array (Option Value)} (X : K.In h) (G : h.Ns mainGlobals mg) (a : PySem.W.nsIn K mainGlobals x = some (some (.ref fa)))
    (l : K.lookup fa = some ⟨oc, od, .func (PySem.W.fnOf x x (defArgs st) (defBody st) (defScope st) .none kV doc pm an (.ref c) ct), osl⟩) (cc : PySem.W.codeIn K (.ref c) x = true) (k : PySem.W.keepIn K (.ref fa) = true)
    (hb : ∀ (kV doc pm : Value) (an : Option Addr) (cdv ct : Value) (us : List Value), us.length = ps.length → bindArgs (PySem.W.fnOf x x (defArgs st) (defBody st) (defScope st) .none kV doc pm an cdv ct) ⟨us, []⟩ = pure (ps.zip us))
    (hk : ∀ (kV doc pm : Value) (an : Option Addr) (cdv ct : Value) (us : List Value), us.length = ps.length → bindArgs (PySem.W.fnOf x x (defArgs st) (defBody st) (defScope st) .none kV doc pm an cdv ct) ⟨[], ps.zip us⟩ = pure (ps.zip us)) : DtL K mg x st ps c := by
  have F := fun_mk (st := st) l cc k
  refine ⟨fa, _, F, F.binds hb, fun s us ws _ hn hl => ?_, PySem.W.mg_of X G a, rfl⟩
  obtain rfl : us = [] := List.eq_nil_of_length_eq_zero hn
  rw [List.nil_append] at hl ⊢
  exact .of_eq (hk _ _ _ _ _ _ ws hl)
end
theorem DtL.dt {K : PySem.W.Frag} {mg : Str → Option Value} {x : Str} {st : Stmt} {ps : List Str} {c : Addr} (D : DtL K mg x st ps c) : Dt K mg x st ps := by
  obtain ⟨f, fd, a, b, c, d, _⟩ := D.ex
  exact ⟨f, fd, a, b, c, d⟩
end EvL
end

section
set_option Elab.async false
set_option linter.all false
set_option maxRecDepth 100000
set_option maxHeartbeats 4000000
/-! E31: where a lambda stands in a def; xs[::-1]; bools subtracted -/
namespace EvL
open PySem PySem.Spec PyProof.Rows L2 LamX
theorem wide_lt {n : Nat} {k : Nat} (h : n < 2 ^ k) (hk : k ≤ 4096) : n < wideN := by
  rw [wideN_eq]
  exact Nat.lt_of_lt_of_le h (Nat.pow_le_pow_right (by decide) hk)
theorem wide_lt60 {n : Nat} (h : n < 1152921504606846976) : n < wideN := wide_lt (k := 60) (by simpa using h) (by decide)
theorem pinP_mk {K : PySem.W.Frag} {c P : Addr} {cl : Value} {od : Option Addr} {vs : Array Value} {sl : Array (Option Value)} (h1 : K.lookup c = some ⟨cl, od, .fields vs, sl⟩) (h2 : vs[11]? = some (.ref P)) : ∃ (cl : Value) (od : Option Addr) (vs : Array Value) (sl : Array (Option Value)), K.lookup c = some ⟨cl, od, .fields vs, sl⟩ ∧ vs[11]? = some (.ref P) := ⟨cl, od, vs, sl, h1, h2⟩
/-- an expression's parts -/
def xk : Expr → List Expr
  | .Call f as ks _ => f :: (as ++ ks.map (·.value))
  | .List xs _ => xs
  | .Tuple xs _ _ => xs
  | .BinOp a _ b _ => [a, b]
  | .UnaryOp _ a _ => [a]
  | .BoolOp _ xs _ => xs
  | .IfExp t a b _ => [t, a, b]
  | .Compare a _ bs _ => a :: bs
  | .Subscript a b _ => [a, b]
  | .ListComp a _ _ _ => [a]
  | _ => []
/-- a statement's expressions, its statements -/
def sx : Stmt → List Expr
  | .Return (some e) _ => [e]
  | .Assign _ v _ => [v]
  | .AugAssign _ _ v _ => [v]
  | .If t _ _ _ => [t]
  | .While t _ _ _ => [t]
  | .For _ i _ _ _ => [i]
  | .Expr e _ => [e]
  | _ => []
def ss : Stmt → List Stmt
  | .If _ a b _ => a ++ b
  | .While _ a b _ => a ++ b
  | .For _ _ a b _ => a ++ b
  | .Try a _ _ _ _ => a
  | _ => []
def xi (e : Expr) (i : Nat) : Expr := (xk e).getD i (.Name "" ⟨0, 0, 0, 0⟩)
def sxi (s : Stmt) (i : Nat) : Expr := (sx s).getD i (.Name "" ⟨0, 0, 0, 0⟩)
def ssi (s : Stmt) (i : Nat) : Stmt := (ss s).getD i (.Pass ⟨0, 0, 0, 0⟩)
def sli (s : List Stmt) (i : Nat) : Stmt := s.getD i (.Pass ⟨0, 0, 0, 0⟩)
def lamE (s0 : Scope) (e : Expr) (dk : Option Str) : LEn := match e with
  | .Lambda p b s _ => ⟨p, b, s, dk⟩
  | _ => ⟨⟨[], [], none, [], [], none, []⟩, .Name "" ⟨0, 0, 0, 0⟩, s0, dk⟩
section
variable {K : PySem.W.Frag} {tb : Tb} {W : WX} {X : Cx} {a b c e : Expr} {fa fb fc : Sem1} {pos p1 p2 p3 : Pos} {k : Nat}
def fRevL (fa : Sem1) : SemF := fun en m => (fa en m).bind fun x m1 => match rv m1 x with
  | some (.lst xs) => .ok xs.reverse m1
  | _ => .no
theorem rf_revL (h : RE X tb W e fa) : RF X tb W (.Subscript e (.Slice none none (some (.UnaryOp .USub (.Constant (.int 1) k p1) p2)) p3) pos) (fRevL fa) := by
  refine PE.weak (pe_revL h) fun σ H Q q => ?_
  obtain ⟨F, ρ, en, m, he, ho, q⟩ := q
  refine tE_bindF he ho q fun x m1 F1 ρ1 H1 v e1 he1 ho1 r1 q1 => ?_
  split at q1
  · rename_i xs hx
    obtain ⟨l, vs, rfl, h1, rr⟩ := (rv_top ho1 r1 hx).sql ho1.sub
    exact ⟨l, vs, rfl, h1, fun p hp => q1 F1 ρ1 H1 p _ (.refl _ _) ho1 hp rr.reverse⟩
  · exact q1.elim
theorem int_sub_bools (a b : Bool) : Gives (Builtin.«int.__sub__» ⟨[.bool a, .bool b], []⟩) (.int ((if a = true then (1 : Int) else 0) - if b = true then (1 : Int) else 0)) :=
  .of_wp fun M A E s Q h => by obtain ⟨hp, g, d, tk, os⟩ := s; wp_walk; exact ⟨_, rfl, h⟩
theorem sub_bools {prog : Program} {w : World} {A : Around} {E : Value → Shared → Prop} {s : Shared} {Q : Value → Shared → Prop} {a b : Bool} (h : Q (.int ((if a = true then (1 : Int) else 0) - if b = true then (1 : Int) else 0) s.toks) { s with toks := s.toks + 1 }) : wpAny (model prog w) A (binaryOp .Sub (.bool a) (.bool b)) Q E s :=
  binaryOp_gives (op := .Sub) (T := "bool") rfl rfl F.fills_bool_sub F.slot_bool_sub F.entry_int_sub (F.args_int_sub_2 _ _) (int_sub_bools a b) trivial h
def b01 (b : Bool) : Int := if b = true then 1 else 0
theorem op_subB : OpR X (binaryOp .Sub) (fun x y H Q => ∃ i j, x = .bl i ∧ y = .bl j ∧ Q (.int (b01 i - b01 j)) H) := by
  intro pins s σ H x y v u Q I rx ry h
  obtain ⟨i, j, rfl, rfl, q⟩ := h
  cases rx
  cases ry
  exact sub_bools ⟨.int (b01 i - b01 j), H, I.tok _, ⟨_, rfl⟩, q⟩
def oSubB : Dv → Dv → Option Dv
  | .bl i, .bl j => some (.int (b01 i - b01 j))
  | _, _ => none
theorem opC_subB : OpC X tb (fun x y H Q => ∃ i j, x = .bl i ∧ y = .bl j ∧ Q (.int (b01 i - b01 j)) H) oSubB := by
  intro F ρ m H x y v u d Q o tx ty e k
  cases x <;> cases y <;> simp only [oSubB, Option.some.injEq, reduceCtorEq] at e
  subst e
  exact ⟨_, _, tx.bl, ty.bl, k F H _ (.refl _ _) o (.int _)⟩
theorem re_subB (ha : RE X tb W a fa) (hb : RE X tb W b fb) : RE X tb W (.BinOp a .Sub b pos) (sBin oSubB fa fb) := re_bin op_subB opC_subB ha hb
theorem re_lelt (ha : RE X tb W a fa) (hb : RE X tb W b fb) (hc : RE X tb W c fc) (hm : lastMarks [.LtE, .Lt] [b, c] = false := by with_unfolding_all rfl) : RE X tb W (.Compare a [.LtE, .Lt] [b, c] pos) (sChain oLe oLt fa fb fc) :=
  re_chain op_le (opC_i fun i j F => .bl _) op_lt (opC_i fun i j F => .bl _) ha hb hc hm
theorem rt_lelt (ha : RE X tb W a fa) (hb : RE X tb W b fb) (hc : RE X tb W c fc) (hm : lastMarks [.LtE, .Lt] [b, c] = false := by with_unfolding_all rfl) : RT X tb W (.Compare a [.LtE, .Lt] [b, c] pos) (sT (sChain oLe oLt fa fb fc)) :=
  rt_chain op_le (opC_i fun i j F => .bl _) op_lt (opC_i fun i j F => .bl _) iop_bl ha hb hc hm
theorem re_ltle (ha : RE X tb W a fa) (hb : RE X tb W b fb) (hc : RE X tb W c fc) (hm : lastMarks [.Lt, .LtE] [b, c] = false := by with_unfolding_all rfl) : RE X tb W (.Compare a [.Lt, .LtE] [b, c] pos) (sChain oLt oLe fa fb fc) :=
  re_chain op_lt (opC_i fun i j F => .bl _) op_le (opC_i fun i j F => .bl _) ha hb hc hm
theorem rt_ltle (ha : RE X tb W a fa) (hb : RE X tb W b fb) (hc : RE X tb W c fc) (hm : lastMarks [.Lt, .LtE] [b, c] = false := by with_unfolding_all rfl) : RT X tb W (.Compare a [.Lt, .LtE] [b, c] pos) (sT (sChain oLt oLe fa fb fc)) :=
  rt_chain op_lt (opC_i fun i j F => .bl _) op_le (opC_i fun i j F => .bl _) iop_bl ha hb hc hm
/-- {} as data -/
theorem re_disp0 : RE X tb W (.Dict [] [] pos) (sC (.dic [])) := by
  refine PE.weak pe_dnewK fun σ H Q q => ?_
  obtain ⟨F, ρ, en, m, he, ho, q⟩ := tE_iff.mp q
  intro p hp
  obtain ⟨o1, e1⟩ := ho.alloc hp (.dK [])
  exact q _ ρ _ _ e1 o1 (.d (.dic upd_same .nil))
/-- x(e), e a lambda of the frame -/
def sHeardE (ns : Nat) (gH : (Store → Rs Sv) → SemS) (nL : Nat) (lamS : Nat → Sem1) (fe : Sem1) : Sem1 := fun en m => sHeardAt ns gH nL lamS en fe en m
end
end EvL
end

section
set_option Elab.async false
set_option linter.all false
set_option maxRecDepth 100000
set_option maxHeartbeats 4000000
/-! E32: == and repr of lists that hold {} -/
namespace EvL
open PySem PySem.Spec PyProof.Rows L2 LamX SeqAt
section
variable {M : Model} {A : Around} {E : Value → Shared → Prop} {s : Shared} {l b : Addr} {o o2 : Obj} {n n2 : Nat}
theorem showsAll_ok {Q : Unit → Shared → Prop} (h1 : (l == sysModules) = false) (h : Q () s) : wpAny M A (Builtin.Dict.showsAll l) Q E s := by
  unfold Builtin.Dict.showsAll
  rw [h1]
  exact wpAny_pure h
theorem samePairs_nil {id : String} {Q : Bool → Shared → Prop} (h1 : (l == sysModules) = false) (h2 : (b == sysModules) = false) (hl : s.heap.get? l = some o) (dl : o.data = .dict #[] n) (hb : s.heap.get? b = some o2) (db : o2.data = .dict #[] n2) (h : Q true s) : wpAny M A (Builtin.Dict.samePairs id l b) Q E s := by
  unfold Builtin.Dict.samePairs
  refine wpAny_bind (showsAll_ok h1 (wpAny_bind (showsAll_ok h2 (wpAny_bind (wpAny_dictEntries hl dl (wpAny_bind (wpAny_dictEntries hb db ?_)))))))
  rw [if_neg (by decide)]
  refine wpAny_bind (wpAny_dictEpoch hl dl ?_)
  rw [Std.Legacy.Range.forIn_eq_forIn_range']
  exact wpAny_bind (wpAny_pure (wpAny_pure h))
end
theorem sub_dict_dict : isSubtype (.type "dict") (.type "dict") = pure true := by rw [isSubtype_type]; kernel_rfl
theorem dict_eqNil (l b : Addr) (n n2 : Nat) (dd dd2 : Option Addr) (sl sl2 : Array (Option Value)) :
    Meets (Builtin.«dict.__eq__» ⟨[.ref l, .ref b], []⟩)
      (fun _ R s => (l == sysModules) = false ∧ (b == sysModules) = false ∧ s.heap.get? l = some { cls := .type "dict", dict := dd, data := .dict #[] n, slots := sl } ∧ s.heap.get? b = some { cls := .type "dict", dict := dd2, data := .dict #[] n2, slots := sl2 } ∧
        R (.ok (.ret (.bool true))) s) :=
  .of_wp fun prog w A R s h => by
    obtain ⟨hp, g, d, tk, os⟩ := s; obtain ⟨hs1, hs2, hl, hb, h⟩ := h
    have f3 := sub_dict_dict
    wp_walk using samePairs_nil hs1 hs2 hl rfl hb rfl
    exact ⟨_, rfl, h⟩
theorem dictRc_nil {A : Around} {s : Shared} {l b : Addr} {o o2 : Obj} {n n2 : Nat} (h1 : (l == sysModules) = false) (h2 : (b == sysModules) = false) (hl : s.heap.get? l = some o) (cl : o.cls = .type "dict") (dl : o.data = .dict #[] n) (hb : s.heap.get? b = some o2) (cb : o2.cls = .type "dict") (db : o2.data = .dict #[] n2) (hu : A.units < cLine) : RcAt A s (.ref l) (.ref b) true := fun prog w E Q h => by
  obtain ⟨cls, dd, data, sl⟩ := o
  obtain ⟨cls2, dd2, data2, sl2⟩ := o2
  simp only at cl dl cb db
  subst cl dl cb db
  exact richCompare_meets_room (op := .Eq) ⟨_, hl, rfl⟩ ⟨_, hb, rfl⟩ F.slot_dict_eq F.entry_dict_eq (F.args_dict_eq_2 _ _) (dict_eqNil l b n n2 dd dd2 sl sl2) ⟨h1, h2, hl, hb, show Value.bool true ≠ Value.notImplemented ∧ Q (.bool true) s from ⟨(fun x => nomatch x), h⟩⟩ hu
/-! data that == tells to be itself -/
mutual
def eqMe : Dv → Bool
  | .non => true
  | .bl _ => true
  | .int _ => true
  | .str _ => true
  | .tup xs => eqMeL xs
  | .dic kvs => kvs.isEmpty
  | .lst xs => eqMeL xs
  | .scr _ => false
  | .fn _ => false
def eqMeL : List Dv → Bool
  | [] => true
  | x :: xs => eqMe x && eqMeL xs
end
mutual
def sameD : Dv → Dv → Bool
  | .non, .non => true
  | .bl a, .bl b => a == b
  | .int i, .int j => decide (i = j)
  | .str x, .str y => decide (x = y)
  | .tup xs, .tup ys => sameL xs ys
  | .lst xs, .lst ys => sameL xs ys
  | .dic xs, .dic ys => xs.isEmpty && ys.isEmpty
  | _, _ => false
def sameL : List Dv → List Dv → Bool
  | [], [] => true
  | x :: xs, y :: ys => sameD x y && sameL xs ys
  | _, _ => false
end
mutual
theorem sameD_eq : ∀ {x y : Dv}, sameD x y = true → x = y
  | .non, .non, _ => rfl
  | .bl a, .bl b, h => by simp [sameD] at h; rw [h]
  | .int a, .int b, h => by simp [sameD] at h; rw [h]
  | .str a, .str b, h => by simp [sameD] at h; rw [h]
  | .tup xs, .tup ys, h => by rw [sameL_eq (xs := xs) (ys := ys) (by simpa [sameD] using h)]
  | .lst xs, .lst ys, h => by rw [sameL_eq (xs := xs) (ys := ys) (by simpa [sameD] using h)]
  | .dic xs, .dic ys, h => by
    simp only [sameD, Bool.and_eq_true, List.isEmpty_iff] at h
    rw [h.1, h.2]
theorem sameL_eq : ∀ {xs ys : List Dv}, sameL xs ys = true → xs = ys
  | [], [], _ => rfl
  | x :: xs, y :: ys, h => by
    simp only [sameL, Bool.and_eq_true] at h
    rw [sameD_eq h.1, sameL_eq h.2]
end
section
variable {X : Cx} {pins : List (Addr × Obj)} {σ : L2.St} {H F : Hp} {s : Shared} {tb : Tb}
theorem all_t (n : Nat) : ((List.range n).all fun _ => true) = true := List.all_eq_true.mpr fun _ _ => rfl
mutual
theorem Rep.eqMe (I : Inv X pins σ H s) (l : Le F H) : ∀ (d : Dv) (v w : V) (u z : Value) (A : Around), Rep X.K tb F d v → Rep X.K tb F d w → RelV v u → RelV w z → EvL.eqMe d = true → A.units + (cv d).depth < cLine → EqAt A s u z true
  | .non, v, w, u, z, A, h, h', r, r', q, hu => by
    cases h; cases h'; cases r; cases r'
    exact EqAt.same _
  | .bl b, v, w, u, z, A, h, h', r, r', q, hu => by
    cases h; cases h'; cases r; cases r'
    exact EqAt.same _
  | .int i, v, w, u, z, A, h, h', r, r', q, hu => by
    cases h; cases h'
    obtain ⟨t, rfl⟩ := r
    obtain ⟨t', rfl⟩ := r'
    have := EqAt.int_int (A := A) (s := s) i t i t'
    rwa [beq_self_eq_true] at this
  | .str x, v, w, u, z, A, h, h', r, r', q, hu => by
    cases h; cases h'
    obtain ⟨t, rfl⟩ := r
    obtain ⟨t', rfl⟩ := r'
    have := EqAt.str_str (A := A) (s := s) x t x t'
    rwa [beq_self_eq_true] at this
  | .tup xs, v, w, u, z, A, h, h', r, r', q, hu => by
    cases h with
    | @tup a _ vs h rs =>
    cases h' with
    | @tup b _ ws h' rs' =>
    cases r
    cases r'
    by_cases hab : a = b
    · subst hab; exact EqAt.same _
    · obtain ⟨its, rv, tp, _⟩ := I.tuple (l.sqt h)
      obtain ⟨its', rv', tp', _⟩ := I.tuple (l.sqt h')
      unfold cv PyData.depth at hu
      have he := RepL.eqMe I l xs vs ws its its' A.in1 rs rs' rv rv' (by unfold EvL.eqMe at q; exact q) (by show A.units + 1 + _ < cLine; omega)
      have hz : its.length = its'.length := by rw [← rv.length, ← rv'.length, ← rs.length, ← rs'.length]
      have := EqAt.of_refs hab (RcAt.tuples (A := A) (e := fun _ => true) tp tp' (by omega) fun j h1 h2 => by
        simp at h1 h2
        simpa using he j h1 h2)
      rw [all_t] at this
      simpa [hz] using this
  | .lst xs, v, w, u, z, A, h, h', r, r', q, hu => by
    cases h with
    | @lst a _ vs h rs =>
    cases h' with
    | @lst b _ ws h' rs' =>
    cases r
    cases r'
    by_cases hab : a = b
    · subst hab; exact EqAt.same _
    · obtain ⟨its, rv, tp, _⟩ := I.list (.inl (.inl (l _ _ h)))
      obtain ⟨its', rv', tp', _⟩ := I.list (.inl (.inl (l _ _ h')))
      unfold cv PyData.depth at hu
      have he := RepL.eqMe I l xs vs ws its its' A.in1 rs rs' rv rv' (by unfold EvL.eqMe at q; exact q) (by show A.units + 1 + _ < cLine; omega)
      have hz : its.length = its'.length := by rw [← rv.length, ← rv'.length, ← rs.length, ← rs'.length]
      have := EqAt.of_refs hab (RcAt.lists (A := A) (e := fun _ => true) tp.isList tp'.isList (by simpa using hz) (by omega) fun j h1 h2 => by
        simp at h1 h2
        simpa using he j h1 h2)
      rw [all_t] at this
      exact this
  | .dic kvs, v, w, u, z, A, h, h', r, r', q, hu => by
    have e : kvs = [] := by
      unfold EvL.eqMe at q
      simpa using q
    subst e
    cases h with
    | @dic a _ vs h rs =>
    cases h' with
    | @dic b _ ws h' rs' =>
    cases r
    cases r'
    by_cases hab : a = b
    · subst hab; exact EqAt.same _
    · obtain ⟨hs, o, n, h1, h2, h3⟩ := dic0 I l h rs
      obtain ⟨hs', o', n', h1', h2', h3'⟩ := dic0 I l h' rs'
      exact EqAt.of_refs hab (dictRc_nil hs hs' h1 h2 h3 h1' h2' h3' (by omega))
  | .fn n, v, w, u, z, A, h, h', r, r', q, hu => by
    unfold EvL.eqMe at q
    cases q
  | .scr n, v, w, u, z, A, h, h', r, r', q, hu => by
    unfold EvL.eqMe at q
    cases q
theorem RepL.eqMe (I : Inv X pins σ H s) (l : Le F H) : ∀ (d : List Dv) (v w : List V) (u z : List Value) (A : Around), RepL X.K tb F d v → RepL X.K tb F d w → Vals v u → Vals w z → eqMeL d = true → A.units + PyData.depthAll (cvL d) < cLine → ∀ (j : Nat) (h1 : j < u.length) (h2 : j < z.length), EqAt A s u[j] z[j] true
  | [], v, w, u, z, A, h, h', r, r', q, hu, j, h1, h2 => by
    cases h
    cases r
    simp at h1
  | x :: xs, v, w, u, z, A, h, h', r, r', q, hu, j, h1, h2 => by
    cases h with
    | cons h rs =>
    cases h' with
    | cons h' rs' =>
    cases r with
    | cons r1 r2 =>
    cases r' with
    | cons r1' r2' =>
    unfold eqMeL at q
    rw [Bool.and_eq_true] at q
    unfold cvL PyData.depthAll at hu
    cases j with
    | zero => exact Rep.eqMe I l x _ _ _ _ A h h' r1 r1' q.1 (by omega)
    | succ j => exact RepL.eqMe I l xs _ _ _ _ A rs rs' r2 r2' q.2 (by omega) j (by simpa using h1) (by simpa using h2)
end
/-- repr of the things of a list -/
def shOk (x : Dv) : Bool := (flat x && !(cv x).hasDict) || noLst x
theorem reprAll (I : Inv X pins σ H s) (l : Le F H) : ∀ {xs : List Dv} {vs : List V} {us : List Value}, RepL X.K tb F xs vs → Vals vs us → xs.all shOk = true → PyData.showableAll (cvL xs) = true → (∀ t ∈ PyData.shownAll (cvL xs), t.length ≤ sizeLine) →
    ∃ as bs, ReadsAll s.heap us (cvL xs) as ∧ ReadAtMost s.heap (PyData.depthAll (cvL xs)) bs ∧ ReprAllK X.prog X.w bs s.heap (PyData.depthAll (cvL xs)) us (PyData.shownAll (cvL xs))
  | _, _, _, .nil, r, _, _, _ => by
    cases r
    unfold cvL PyData.shownAll
    exact ⟨_, [], .nil, (fun _ h => nomatch h), .nil⟩
  | x :: xs, _, _, .cons h rs, r, q, hs, hz => by
    cases r with
    | @cons _ u0 _ us0 r1 r2 =>
    rw [List.all_cons, Bool.and_eq_true] at q
    unfold cvL at hs hz ⊢
    have hs' : (cv x).showable = true ∧ PyData.showableAll (cvL xs) = true := by simpa [PyData.showableAll] using hs
    obtain ⟨as2, b2, a2, m2, k2⟩ := reprAll I l rs r2 q.2 hs'.2 (fun t ht => hz t (by simp only [PyData.shownAll]; exact List.mem_cons_of_mem _ ht))
    have hx : ∃ as, Reads s.heap u0 (cv x) as ∧ ((cv x).hasDict = true → sysModules ∉ as) := by
      have q1 := q.1
      unfold shOk at q1
      rw [Bool.or_eq_true, Bool.and_eq_true, Bool.not_eq_true'] at q1
      rcases q1 with q1 | q1
      · obtain ⟨as, z⟩ := Dp.reads I _ _ _ (h.dp l q1.1) r1
        exact ⟨as, z, fun y => by rw [q1.2] at y; cases y⟩
      · obtain ⟨as, z1, z2⟩ := Rep.rdN I l h r1 q1
        exact ⟨as, z1, fun _ => z2⟩
    obtain ⟨as1, a1, c1⟩ := hx
    obtain ⟨b1, m1, k1⟩ := ReprK.of_reads (prog := X.prog) (w := X.w) a1 hs'.1 c1 (hz _ (by simp only [PyData.shownAll]; exact List.mem_cons_self ..))
    refine ⟨_, b1 ++ b2, .cons a1 a2, ?_, ?_⟩
    · simp only [PyData.depthAll]
      exact (m1.mono (Nat.le_max_left _ _)).append (m2.mono (Nat.le_max_right _ _))
    · simp only [PyData.depthAll, PyData.shownAll]
      exact .cons ((k1.more fun b hb => List.mem_append_left _ hb).level_le (Nat.le_max_left _ _)) (k2.more_le (fun b hb => List.mem_append_right _ hb) (Nat.le_max_right _ _))
end
section
variable {X : Cx} {tb : Tb} {W : WX} {a b e : Expr} {fa fb f : Sem1} {pos p : Pos} {k : Nat}
def oEqX : Dv → Dv → Option Dv
  | .lst xs, .lst ys => if (sameL xs ys && eqMeL xs) && decide (PyData.depthAll (cvL xs) ≤ 60) then some (.bl true) else none
  | _, _ => none
def rEqX (K : PySem.W.Frag) (tb : Tb) : R2 := fun x y H Q => ∃ F a b vs ws xs, x = .ref a ∧ y = .ref b ∧ Le F H ∧ SqL K H a vs ∧ SqL K H b ws ∧ RepL K tb F xs vs ∧ RepL K tb F xs ws ∧ eqMeL xs = true ∧ PyData.depthAll (cvL xs) ≤ 60 ∧ Q (.bl true) H
theorem op_eqX (hu : X.A.units + 64 < cLine) : OpR X (compareOp .Eq) (rEqX X.K tb) := by
  intro pins s σ H x y v u Q I rx ry h
  obtain ⟨F, a, b, vs, ws, xs, rfl, rfl, l, h1, h2, r1, r2, q1, q2, q⟩ := h
  cases rx
  cases ry
  obtain ⟨its, rv, tp, _⟩ := I.list h1
  obtain ⟨its', rv', tp', _⟩ := I.list h2
  have hz : its.length = its'.length := by rw [← rv.length, ← rv'.length, ← r1.length, ← r2.length]
  have he := RepL.eqMe I l xs vs ws its its' X.A.in1 r1 r2 rv rv' q1 (by show X.A.units + 1 + _ < cLine; omega)
  refine eq_listAt (e := fun _ => true) tp.isList tp'.isList (by simpa using hz) (by omega) (fun j h1 h2 => by
    simp at h1 h2
    simpa using he j h1 h2) ?_
  rw [all_t]
  exact ⟨.bl true, H, I, rfl, q⟩
theorem opC_eqX : OpC X tb (rEqX X.K tb) oEqX := by
  intro F ρ m H x y v u d Q o tx ty e kk
  cases x <;> cases y <;> simp only [oEqX, Option.ite_none_right_eq_some, Option.some.injEq, Bool.and_eq_true, decide_eq_true_eq, reduceCtorEq] at e
  obtain ⟨⟨⟨e1, e2⟩, e3⟩, rfl⟩ := e
  have := sameL_eq e1
  subst this
  obtain ⟨a, vs, rfl, s1, r1⟩ := tx.sql o.sub
  obtain ⟨b, ws, rfl, s2, r2⟩ := ty.sql o.sub
  exact ⟨F, a, b, vs, ws, _, rfl, rfl, o.sub, s1, s2, r1, r2, e2, e3, kk F H _ (.refl _ _) o (.bl _)⟩
theorem re_eqX (hr : Room k X.A) (ha : RE X tb W a fa) (hb : RE X tb W b fb) : RE X tb W (.Compare a [.Eq] [b] pos) (sBin (orO oEq oEqX) fa fb) := re_cmp (OpR.or (op_eqD hr.units) (op_eqX hr.units)) (OpC.or opC_eq opC_eqX) ha hb (nomark _)
/-- the text of a list that holds {} -/
def oReprX : Dv → Option Dv
  | .lst (x :: xs) => if (((x :: xs).all shOk && (PyData.list (cvL (x :: xs))).showable) && decide ((PyData.list (cvL (x :: xs))).shown.length ≤ 1000000)) && decide ((PyData.list (cvL (x :: xs))).depth ≤ 60) then some (.str (PyData.list (cvL (x :: xs))).shown) else none
  | _ => none
theorem call_reprX (hg : X.A.guards = some []) (hr : Room k X.A) : CallR X (.builtin "repr") (fun xs H Q => ∃ F a vs y ys, xs = [.ref a] ∧ Le F H ∧ SqL X.K H a vs ∧ RepL X.K tb F (y :: ys) vs ∧ (y :: ys).all shOk = true ∧ (PyData.list (cvL (y :: ys))).showable = true ∧ (PyData.list (cvL (y :: ys))).shown.length ≤ 1000000 ∧ (PyData.list (cvL (y :: ys))).depth ≤ 60 ∧ Q (.str (PyData.list (cvL (y :: ys))).shown) H) := by
  intro pins s σ H xs us Q I r h
  obtain ⟨F0, a, vs, y, ys, rfl, l, hq, rl, z1, z2, z3, z4, q⟩ := h
  obtain ⟨u, rfl, rv⟩ := vals1 r
  cases rv
  obtain ⟨its, rvs, tp, _⟩ := I.list hq
  obtain ⟨o, n, ho, hc, _, hd⟩ := tp
  have hz : (PyData.list (cvL (y :: ys))).shown.length ≤ sizeLine := by rw [sizeLine_eq]; omega
  have hz' : (listText (PyData.shownAll (cvL (y :: ys)))).length ≤ sizeLine := by simpa only [PyData.shown] using hz
  obtain ⟨as, bs, a1, m1, k1⟩ := reprAll I l rl rvs z1 (by simpa [PyData.showable] using z2) (fun t ht => Nat.le_trans (listText_mem_le ht) hz')
  have un := hr.un
  have na : a ∉ bs := not_mem_of_deeper (Reads.list ho hc hd (by simpa using a1)) (by simp only [PyData.depth]; omega) m1
  have fin : ∀ h' t tk, (∀ b o, s.heap.get? b = some o → h'.get? b = some o) → EP X pins σ Q (.str (PyData.list (cvL (y :: ys))).shown t) { s with heap := h', toks := tk } := fun h' t tk kk => ⟨.str _, H, I.kept (t' := tk) kk, ⟨t, rfl⟩, q⟩
  cases its with
  | nil =>
    have h1 := rvs.length
    have h2 := rl.length
    rw [← h2] at h1
    simp at h1
  | cons i0 its =>
    simp only [PyData.depth] at z4
    refine call_repr_slot (by omega) ⟨o, ho, hc⟩ F.slot_list_repr.toG ?_
    refine call_list_reprK ho hc hd na (by simpa using k1.length_eq) (fun i y e => k1.item i y (by simpa using e)) hg (fun b _ => Clear.nil b) (by show X.A.units + 1 + _ < cLine; omega) (fun _ _ e => e) (fun h' u tk kk => ?_) hz'
    have := fin h' u tk kk
    simp only [PyData.shown] at this
    exact ⟨_, _, rfl, this⟩
theorem callC_reprX : CallC X tb (fun xs H Q => ∃ F a vs y ys, xs = [.ref a] ∧ Le F H ∧ SqL X.K H a vs ∧ RepL X.K tb F (y :: ys) vs ∧ (y :: ys).all shOk = true ∧ (PyData.list (cvL (y :: ys))).showable = true ∧ (PyData.list (cvL (y :: ys))).shown.length ≤ 1000000 ∧ (PyData.list (cvL (y :: ys))).depth ≤ 60 ∧ Q (.str (PyData.list (cvL (y :: ys))).shown) H) oReprX := by
  intro F ρ m H x v d Q o tx e kk
  unfold oReprX at e
  split at e
  · rename_i y ys
    simp only [Option.ite_none_right_eq_some, Option.some.injEq, Bool.and_eq_true, decide_eq_true_eq] at e
    obtain ⟨⟨⟨⟨e1, e2⟩, e3⟩, e4⟩, rfl⟩ := e
    obtain ⟨a, vs, rfl, s1, r1⟩ := tx.sql o.sub
    exact ⟨F, a, vs, y, ys, rfl, o.sub, s1, r1, e1, e2, e3, e4, kk F H _ (.refl _ _) o (.str _)⟩
  · cases e
def orU (f g : Dv → Option Dv) : Dv → Option Dv := fun x => match f x with
  | some d => some d
  | none => g x
theorem re_reprX (hgu : X.A.guards = some []) (hr : Room k X.A) (hg : Gl X "repr") (hm : X.mg "repr" = none) (ha : RE X tb W e f) (hs : starEach [e] X.env = (false, eval e X.env) :: starEach [] X.env := by rfl) (hpl : (backTo pos (starEach [] X.env)).any (·.1) = false := by rfl) : RE X tb W (.Call (.Name "repr" p) [e] [] pos) (sElse (sUn oRepr f) (sUn oReprX f)) :=
  re_else (re_repr hgu hr hg hm ha hs hpl) (re_b1 (call_reprX hgu hr) callC_reprX hg hm (by decide +kernel) ha (by decide) (by decide) hs hpl)
end
end EvL
end

section
set_option Elab.async false
set_option linter.all false
set_option maxRecDepth 100000
set_option maxHeartbeats 4000000
/-! S1: what a def computes does not lean on what else is in the store -/
namespace EvL
open PySem PySem.Spec PyProof.Rows L2
def shv (k : Nat) : Sv → Sv
  | .o i => .o (k + i)
  | .d x => .d x
  | .c => .c
def she (k : Nat) (en : En) : En := en.map (Option.map (shv k))
def shr {α β : Type} (g : α → β) (M : Store) : Rs α → Rs β
  | .ok a m => .ok (g a) (M ++ m)
  | .ex x m => .ex x (M ++ m)
  | .no => .no
def shs (M : Store) : Sr → Sr
  | .nx en m => .nx (she M.length en) (M ++ m)
  | .rt x m => .rt (shv M.length x) (M ++ m)
  | .bk en m => .bk (she M.length en) (M ++ m)
  | .ct en m => .ct (she M.length en) (M ++ m)
  | .ex x en m => .ex x (she M.length en) (M ++ m)
  | .no => .no
section
variable (M : Store)
def R1 (f f' : Sem1) : Prop := ∀ en m, f' (she M.length en) (M ++ m) = shr (shv M.length) M (f en m)
def RLs (f f' : SemL) : Prop := ∀ en m, f' (she M.length en) (M ++ m) = shr (List.map (shv M.length)) M (f en m)
def RBo (f f' : SemB) : Prop := ∀ en m, f' (she M.length en) (M ++ m) = shr id M (f en m)
def RFr (f f' : SemF) : Prop := ∀ en m, f' (she M.length en) (M ++ m) = shr id M (f en m)
def ROp (f f' : SemO) : Prop := ∀ en m, f' (she M.length en) (M ++ m) = shr id M (f en m)
def RSt (g g' : SemS) : Prop := ∀ en m, g' (she M.length en) (M ++ m) = shs M (g en m)
def RTg (G G' : Tgt) : Prop := ∀ y en m, G' (shv M.length y) (she M.length en) (M ++ m) = (G y en m).map (she M.length)
def RTs' (G G' : Tgts) : Prop := ∀ ys en m, G' ys (she M.length en) (M ++ m) = (G ys en m).map (she M.length)
def RFn (g g' : Fs) : Prop := ∀ ws m, g' (ws.map (shv M.length)) (M ++ m) = shr (shv M.length) M (g ws m)
end
section
variable {M : Store}
theorem she_get (k : Nat) (en : En) (i : Nat) : (she k en)[i]? = (en[i]?).map (Option.map (shv k)) := by simp [she]
theorem she_set (k : Nat) (en : En) (i : Nat) (x : Sv) : (she k en).set i (some (shv k x)) = she k (en.set i (some x)) := by simp [she, List.map_set]
theorem she_setN (k : Nat) (en : En) (i : Nat) : (she k en).set i none = she k (en.set i none) := by simp [she, List.map_set]
theorem she_len (k : Nat) (en : En) : (she k en).length = en.length := by simp [she]
theorem get_sh (m : Store) (i : Nat) : (M ++ m)[M.length + i]? = m[i]? := by
  rw [List.getElem?_append_right (by omega)]
  congr 1
  omega
theorem set_sh (m : Store) (i : Nat) (x : So) : (M ++ m).set (M.length + i) x = M ++ m.set i x := by
  rw [List.set_append_right _ _ (by omega)]
  congr 2
  omega
theorem take_sh (m : Store) (n : Nat) : (M ++ m).take (M.length + n) = M ++ m.take n := by
  rw [List.take_append]
  rw [List.take_of_length_le (by omega)]
  congr 2
  omega
theorem len_sh (m : Store) : (M ++ m).length = M.length + m.length := by simp
theorem shv_o (k i : Nat) : shv k (.o i) = .o (k + i) := rfl
theorem rv_sh (m : Store) (x : Sv) : rv (M ++ m) (shv M.length x) = rv m x := by
  cases x with
  | d x => rfl
  | c => rfl
  | o i => simp only [rv, shv, get_sh]
theorem frz_sh (m : Store) (x : Sv) : frz (M ++ m) (shv M.length x) = (frz m x).map fun p => (p.1, M ++ p.2) := by
  cases x with
  | d x => rfl
  | c => rfl
  | o i =>
    simp only [frz, shv, get_sh]
    cases h : m[i]? with
    | none => rfl
    | some y => cases y <;> simp [set_sh]
theorem frzL_sh : ∀ (xs : List Sv) (m : Store), frzL (M ++ m) (xs.map (shv M.length)) = (frzL m xs).map fun p => (p.1, M ++ p.2)
  | [], m => rfl
  | x :: xs, m => by
    simp only [List.map_cons, frzL, frz_sh]
    cases h : frz m x with
    | none => rfl
    | some p =>
      obtain ⟨d, m1⟩ := p
      simp only [Option.map_some, frzL_sh xs m1]
      cases h2 : frzL m1 xs with
      | none => rfl
      | some q => rfl
theorem bind_sh {α β γ δ : Type} {ga : α → γ} {gb : β → δ} {r : Rs α} {r' : Rs γ} {f : α → Store → Rs β} {f' : γ → Store → Rs δ} (hr : r' = shr ga M r) (h : ∀ a m, f' (ga a) (M ++ m) = shr gb M (f a m)) : r'.bind f' = shr gb M (r.bind f) := by
  subst hr
  cases r with
  | ok a m => exact h a m
  | ex x m => rfl
  | no => rfl
theorem st_sh {α γ : Type} {ga : α → γ} {r : Rs α} {r' : Rs γ} {en : En} {f : α → Store → Sr} {f' : γ → Store → Sr} (hr : r' = shr ga M r) (h : ∀ a m, f' (ga a) (M ++ m) = shs M (f a m)) : r'.st (she M.length en) f' = shs M (r.st en f) := by
  subst hr
  cases r with
  | ok a m => exact h a m
  | ex x m => rfl
  | no => rfl
variable {f f' fa fa' fb fb' fc fc' : Sem1} {fl fl' : SemL} {ff ff' : SemF} {g g' g1 g1' g2 g2' : SemS} {t t' t2 t2' : SemB} {o o' o2 o2' : SemO} {G G' G1 G1' : Tgt} {Gs Gs' : Tgts}
theorem r_var (i : Nat) : R1 M (sVar i) (sVar i) := fun en m => by
  unfold sVar
  rw [she_get]
  cases h : en[i]? with
  | none => rfl
  | some y => cases y <;> rfl
theorem r_c (d : Dv) : R1 M (sC d) (sC d) := fun en m => rfl
theorem r_bin (op : Dv → Dv → Option Dv) (ha : R1 M fa fa') (hb : R1 M fb fb') : R1 M (sBin op fa fb) (sBin op fa' fb') := fun en m => by
  refine bind_sh (ha en m) fun x m1 => bind_sh (hb en m1) fun y m2 => ?_
  rw [rv_sh, rv_sh]
  split
  · cases op _ _ <;> rfl
  · rfl
theorem r_two (op : Int → Int → Int) (ha : R1 M fa fa') (hb : R1 M fb fb') : R1 M (sTwo op fa fb) (sTwo op fa' fb') := r_bin _ ha hb
theorem r_un (op : Dv → Option Dv) (ha : R1 M fa fa') : R1 M (sUn op fa) (sUn op fa') := fun en m => by
  refine bind_sh (ha en m) fun x m1 => ?_
  rw [rv_sh]
  split
  · cases op _ <;> rfl
  · rfl
theorem r_nil : RLs M lNil lNil := fun en m => rfl
theorem r_cons (ha : R1 M fa fa') (hl : RLs M fl fl') : RLs M (lCons fa fl) (lCons fa' fl') := fun en m => bind_sh (ha en m) fun x m1 => bind_sh (hl en m1) fun xs m2 => rfl
theorem r_tup (hl : RLs M fl fl') : R1 M (sTup fl) (sTup fl') := fun en m => by
  refine bind_sh (hl en m) fun xs m1 => ?_
  rw [frzL_sh]
  cases h : frzL m1 xs with
  | none => rfl
  | some p => simp only [Option.map_some]; split <;> rfl
theorem r_lst (hl : RLs M fl fl') : RFr M (fLst fl) (fLst fl') := fun en m => by
  refine bind_sh (hl en m) fun xs m1 => ?_
  rw [frzL_sh]
  cases h : frzL m1 xs with
  | none => rfl
  | some p => simp only [Option.map_some]; split <;> rfl
theorem r_F (h : RFr M ff ff') : R1 M (sF ff) (sF ff') := fun en m => bind_sh (h en m) fun xs m1 => rfl
theorem r_fbin (op : Dv → Dv → Option (List Dv)) (ha : R1 M fa fa') (hb : R1 M fb fb') : RFr M (fBin op fa fb) (fBin op fa' fb') := fun en m => by
  refine bind_sh (ha en m) fun x m1 => bind_sh (hb en m1) fun y m2 => ?_
  rw [rv_sh, rv_sh]
  split
  · cases op _ _ <;> rfl
  · rfl
theorem r_no : ROp M oNo oNo := fun en m => rfl
theorem r_yes (ha : R1 M fa fa') : ROp M (oYes fa) (oYes fa') := fun en m => by
  refine bind_sh (ha en m) fun x m1 => ?_
  rw [rv_sh]
  split <;> rfl
theorem r_slT (ha : R1 M fa fa') (h1 : ROp M o o') (h2 : ROp M o2 o2') : R1 M (sSlT fa o o2) (sSlT fa' o' o2') := fun en m => by
  refine bind_sh (ha en m) fun x m1 => bind_sh (h1 en m1) fun i m2 => bind_sh (h2 en m2) fun j m3 => ?_
  rw [rv_sh]
  split <;> rfl
theorem r_slL (ha : R1 M fa fa') (h1 : ROp M o o') (h2 : ROp M o2 o2') : RFr M (fSlL fa o o2) (fSlL fa' o' o2') := fun en m => by
  refine bind_sh (ha en m) fun x m1 => bind_sh (h1 en m1) fun i m2 => bind_sh (h2 en m2) fun j m3 => ?_
  rw [rv_sh]
  split <;> rfl
theorem r_else (ha : R1 M fa fa') (hb : R1 M fb fb') : R1 M (sElse fa fb) (sElse fa' fb') := fun en m => by
  unfold sElse
  rw [ha en m]
  cases h : fa en m with
  | ok x m1 => rfl
  | ex x m1 => rfl
  | no => exact hb en m
theorem r_slP (ha : R1 M fa fa') (h1 : ROp M o o') (h2 : ROp M o2 o2') : R1 M (sSlP fa o o2) (sSlP fa' o' o2') := r_else (r_slT ha h1 h2) (r_F (r_slL ha h1 h2))
theorem r_fun (op : Dv → Option (List Dv)) (ha : R1 M fa fa') : RFr M (fUn op fa) (fUn op fa') := fun en m => by
  refine bind_sh (ha en m) fun x m1 => ?_
  rw [rv_sh]
  split
  · cases op _ <;> rfl
  · rfl
theorem r_call {p p' : Fs} (hg : RFn M p p') (hl : RLs M fl fl') : R1 M (sCall p fl) (sCall p' fl') := fun en m => bind_sh (hl en m) fun xs m1 => hg xs m1
theorem r_new (h : RFr M ff ff') : R1 M (sNew ff) (sNew ff') := fun en m => bind_sh (h en m) fun xs m1 => by simp [shr, shv, List.append_assoc]
theorem r_T (ha : R1 M fa fa') : RBo M (sT fa) (sT fa') := fun en m => by
  refine bind_sh (ha en m) fun x m1 => ?_
  rw [rv_sh]
  split
  · cases truth _ <;> rfl
  · rfl
theorem r_and (h1 : RBo M t t') (h2 : RBo M t2 t2') : RBo M (bAnd t t2) (bAnd t' t2') := fun en m => bind_sh (h1 en m) fun k m1 => by
  cases k
  · rfl
  · exact h2 en m1
theorem r_or (h1 : RBo M t t') (h2 : RBo M t2 t2') : RBo M (bOr t t2) (bOr t' t2') := fun en m => bind_sh (h1 en m) fun k m1 => by
  cases k
  · exact h2 en m1
  · rfl
theorem r_not (h1 : RBo M t t') : RBo M (bNot t) (bNot t') := fun en m => bind_sh (h1 en m) fun k m1 => rfl
theorem r_sand (h1 : R1 M fa fa') (h2 : R1 M fb fb') : R1 M (sAnd fa fb) (sAnd fa' fb') := fun en m => bind_sh (h1 en m) fun x m1 => by
  rw [rv_sh]
  split
  · exact h2 en m1
  · rfl
  · rfl
theorem r_sor (h1 : R1 M fa fa') (h2 : R1 M fb fb') : R1 M (sOr fa fb) (sOr fa' fb') := fun en m => bind_sh (h1 en m) fun x m1 => by
  rw [rv_sh]
  split
  · rfl
  · exact h2 en m1
  · rfl
theorem r_snot (h1 : R1 M fa fa') : R1 M (sNot fa) (sNot fa') := fun en m => bind_sh (h1 en m) fun x m1 => by
  rw [rv_sh]
  split <;> rfl
theorem r_sif (h : RBo M t t') (h1 : R1 M fa fa') (h2 : R1 M fb fb') : R1 M (sIf t fa fb) (sIf t' fa' fb') := fun en m => bind_sh (h en m) fun k m1 => by
  cases k
  · exact h2 en m1
  · exact h1 en m1
theorem r_chain (op op2 : Dv → Dv → Option Dv) (h1 : R1 M fa fa') (h2 : R1 M fb fb') (h3 : R1 M fc fc') : R1 M (sChain op op2 fa fb fc) (sChain op op2 fa' fb' fc') := fun en m => bind_sh (h1 en m) fun x m1 => bind_sh (h2 en m1) fun y m2 => by
  rw [rv_sh, rv_sh]
  split
  · split
    · refine bind_sh (h3 en m2) fun z m3 => ?_
      rw [rv_sh, rv_sh]
      split
      · cases op2 _ _ <;> rfl
      · rfl
    · rfl
    · rfl
  · rfl
theorem r_seqI (ha : R1 M fa fa') : RFr M (iSeq fa) (iSeq fa') := fun en m => bind_sh (ha en m) fun x m1 => by
  rw [frz_sh]
  cases frz m1 x with
  | none => rfl
  | some p => simp only [Option.map_some]; cases items p.1 <;> rfl
theorem r_enum (ha : R1 M fa fa') : RFr M (iEnumS fa) (iEnumS fa') := fun en m => bind_sh (ha en m) fun x m1 => by
  rw [frz_sh]
  cases frz m1 x with
  | none => rfl
  | some p => simp only [Option.map_some]; cases items p.1 <;> rfl
theorem r_range1 (ha : R1 M fa fa') : RFr M (iRange1 fa) (iRange1 fa') := fun en m => bind_sh (ha en m) fun x m1 => by
  rw [rv_sh]
  split
  · split <;> rfl
  · rfl
theorem r_frange1 (ha : R1 M fa fa') : RFr M (fRange1 fa) (fRange1 fa') := fun en m => bind_sh (ha en m) fun x m1 => by
  rw [rv_sh]
  split
  · split <;> rfl
  · rfl
theorem r_range2 (ha : R1 M fa fa') (hb : R1 M fb fb') : RFr M (iRange2 fa fb) (iRange2 fa' fb') := fun en m => bind_sh (ha en m) fun x m1 => bind_sh (hb en m1) fun y m2 => by
  rw [rv_sh, rv_sh]
  split
  · split <;> rfl
  · rfl
theorem r_zip (ha : R1 M fa fa') (hb : R1 M fb fb') : RFr M (iZip fa fb) (iZip fa' fb') := fun en m => bind_sh (ha en m) fun x m1 => bind_sh (hb en m1) fun y m2 => by
  rw [frz_sh]
  cases frz m2 x with
  | none => rfl
  | some p =>
    simp only [Option.map_some, frz_sh]
    cases frz p.2 y with
    | none => rfl
    | some q => simp only [Option.map_some]; cases zipD p.1 q.1 <;> rfl
theorem r_zipS (ha : R1 M fa fa') : RFr M (fZipS fa) (fZipS fa') := fun en m => bind_sh (ha en m) fun x m1 => by
  rw [frz_sh]
  cases frz m1 x with
  | none => rfl
  | some p =>
    obtain ⟨d, m2⟩ := p
    simp only [Option.map_some]
    cases d <;> try rfl
    simp only
    split
    · split <;> rfl
    · rfl
theorem r_rev (ha : R1 M fa fa') : RFr M (fRevL fa) (fRevL fa') := fun en m => bind_sh (ha en m) fun x m1 => by
  rw [rv_sh]
  split <;> rfl
theorem r_yesB : RBo M bYes bYes := fun en m => rfl
/-! statements -/
theorem r_next : RSt M gNext gNext := fun en m => rfl
theorem r_pass : RSt M gPass gPass := fun en m => rfl
theorem r_break : RSt M gBreak gBreak := fun en m => rfl
theorem r_cont : RSt M gCont gCont := fun en m => rfl
theorem r_seq (h1 : RSt M g1 g1') (h2 : RSt M g2 g2') : RSt M (gSeq g1 g2) (gSeq g1' g2') := fun en m => by
  unfold gSeq
  rw [h1 en m]
  cases g1 en m with
  | nx e1 m1 => exact h2 e1 m1
  | _ => rfl
theorem r_ret (h : R1 M f f') : RSt M (gRet f) (gRet f') := fun en m => st_sh (h en m) fun x m1 => rfl
theorem r_expr (h : R1 M f f') : RSt M (gExpr f) (gExpr f') := fun en m => st_sh (h en m) fun x m1 => rfl
theorem r_if (h : RBo M t t') (h1 : RSt M g1 g1') (h2 : RSt M g2 g2') : RSt M (gIf t g1 g2) (gIf t' g1' g2') := fun en m => st_sh (h en m) fun k m1 => by
  cases k
  · exact h2 en m1
  · exact h1 en m1
theorem r_set (i : Nat) (h : R1 M f f') : RSt M (gSet i f) (gSet i f') := fun en m => st_sh (h en m) fun x m1 => by
  rw [she_set]
  rfl
theorem r_gnew (i : Nat) (h : RFr M ff ff') : RSt M (gNew i ff) (gNew i ff') := fun en m => st_sh (h en m) fun xs m1 => by
  rw [len_sh, List.append_assoc]
  show Sr.nx ((she M.length en).set i (some (shv M.length (.o m1.length)))) _ = _
  rw [she_set]
  rfl
theorem r_tgN (i : Nat) : RTg M (tgN i) (tgN i) := fun y en m => by
  unfold tgN
  rw [she_set]
  rfl
theorem r_tgNil : RTs' M tgNil tgNil := fun ys en m => by
  cases ys <;> rfl
theorem r_tgCons (h : RTg M G G') (hs : RTs' M Gs Gs') : RTs' M (tgCons G Gs) (tgCons G' Gs') := fun ys en m => by
  cases ys with
  | nil => rfl
  | cons y r =>
    simp only [tgCons]
    have := h (.d y) en m
    rw [show shv M.length (.d y) = .d y from rfl] at this
    rw [this]
    cases G (.d y) en m with
    | none => rfl
    | some e1 => exact hs r e1 m
theorem r_tgTup (n : Nat) (hs : RTs' M Gs Gs') : RTg M (tgTup n Gs) (tgTup n Gs') := fun y en m => by
  cases y with
  | d x =>
    cases x <;> try rfl
    simp only [tgTup, shv]
    split
    · exact hs _ en m
    · rfl
  | o i => rfl
  | c => rfl
theorem r_tgLst (n : Nat) (hs : RTs' M Gs Gs') : RTg M (tgLst n Gs) (tgLst n Gs') := fun y en m => by
  cases y with
  | d x =>
    cases x <;> try rfl
    simp only [tgLst, shv]
    split
    · exact hs _ en m
    · rfl
  | o i => rfl
  | c => rfl
theorem r_asg (h : R1 M f f') (hG : RTg M G G') : RSt M (gAsg f G) (gAsg f' G') := fun en m => st_sh (h en m) fun x m1 => by
  rw [hG x en m1]
  cases G x en m1 <;> rfl
theorem r_par (i j : Nat) (h : RLs M fl fl') : RSt M (gPar i j fl) (gPar i j fl') := fun en m => st_sh (h en m) fun xs m1 => by
  match xs with
  | [] => rfl
  | [_] => rfl
  | [u, w] =>
    simp only [List.map_cons, List.map_nil]
    rw [she_set, she_set]
    rfl
  | _ :: _ :: _ :: _ => rfl
theorem r_aug (i : Nat) (op : Int → Int → Int) (h : R1 M f f') : RSt M (gAug i op f) (gAug i op f') := fun en m => by
  unfold gAug
  rw [she_get]
  cases e : en[i]? with
  | none => rfl
  | some y =>
    cases y with
    | none => rfl
    | some y =>
      cases y with
      | d x =>
        cases x <;> try rfl
        simp only [Option.map_some, shv]
        refine st_sh (h en m) fun y m1 => ?_
        rw [rv_sh]
        split
        · show Sr.nx ((she M.length en).set i (some (shv M.length (.d (.int _))))) _ = _
          rw [she_set]
          rfl
        · rfl
      | o i => rfl
      | c => rfl
theorem r_app (i : Nat) (h : R1 M f f') : RSt M (gApp i f) (gApp i f') := fun en m => by
  unfold gApp
  rw [she_get]
  cases e : en[i]? with
  | none => rfl
  | some y =>
    cases y with
    | none => rfl
    | some y =>
      cases y with
      | d x => rfl
      | c => rfl
      | o j =>
        simp only [Option.map_some, shv, get_sh]
        cases hj : m[j]? with
        | none => rfl
        | some z =>
          cases z with
          | dic _ => rfl
          | gone => rfl
          | lst _ =>
            simp only
            refine st_sh (h en m) fun y m1 => ?_
            rw [frz_sh]
            cases frz m1 y with
            | none => rfl
            | some p =>
              simp only [Option.map_some, get_sh]
              cases p.2[j]? with
              | none => rfl
              | some z =>
                cases z with
                | dic _ => rfl
                | gone => rfl
                | lst xs =>
                  simp only
                  split
                  · rw [set_sh]; rfl
                  · rfl
theorem r_putL (i : Nat) (ha : R1 M fa fa') (h : R1 M f f') : RSt M (gPutL i fa f) (gPutL i fa' f') := fun en m => st_sh (h en m) fun y m1 => by
  rw [she_get]
  cases e : en[i]? with
  | none => rfl
  | some z =>
    cases z with
    | none => rfl
    | some z =>
      cases z with
      | d x => rfl
      | c => rfl
      | o j =>
        simp only [Option.map_some, shv_o]
        refine st_sh (ha en m1) fun z m2 => ?_
        rw [frz_sh]
        cases frz m2 y with
        | none => rfl
        | some p =>
          simp only [Option.map_some, get_sh, rv_sh]
          split
          · split
            · rw [set_sh]; rfl
            · rfl
          · rfl
theorem r_putD (i : Nat) (k : Str) (h : R1 M f f') : RSt M (gPutD i k f) (gPutD i k f') := fun en m => st_sh (h en m) fun y m1 => by
  rw [she_get]
  cases e : en[i]? with
  | none => rfl
  | some z =>
    cases z with
    | none => rfl
    | some z =>
      cases z with
      | d x => rfl
      | c => rfl
      | o j =>
        simp only [Option.map_some, shv_o]
        rw [frz_sh]
        cases frz m1 y with
        | none => rfl
        | some p =>
          simp only [Option.map_some, get_sh]
          split
          · split
            · rw [set_sh]; rfl
            · rfl
          · rfl
theorem r_raise (ci : Nat) (k : Str) (h : R1 M f f') : RSt M (gRaise ci k f) (gRaise ci k f') := fun en m => st_sh (h en m) fun y m1 => by
  rw [frz_sh]
  cases frz m1 y with
  | none => rfl
  | some p => simp only [Option.map_some]; split <;> rfl
theorem r_raise0 (ci : Nat) : RSt M (gRaise0 ci) (gRaise0 ci) := fun en m => rfl
theorem r_loop (hG : RTg M G G') (hb : RSt M g g') : ∀ (xs : List Dv) (en : En) (m : Store), loop G' g' xs (she M.length en) (M ++ m) = shs M (loop G g xs en m)
  | [], en, m => rfl
  | d :: ds, en, m => by
    unfold loop
    have h1 := hG (.d d) en m
    rw [show shv M.length (.d d) = .d d from rfl] at h1
    rw [h1]
    cases G (.d d) en m with
    | none => rfl
    | some e1 =>
      simp only [Option.map_some]
      rw [hb e1 m]
      cases g e1 m with
      | nx e2 m2 => exact r_loop hG hb ds e2 m2
      | ct e2 m2 => exact r_loop hG hb ds e2 m2
      | _ => rfl
theorem r_for (h : RFr M ff ff') (hG : RTg M G G') (hb : RSt M g g') : RSt M (gFor ff G g) (gFor ff' G' g') := fun en m => st_sh (h en m) fun xs m1 => r_loop hG hb xs en m1
theorem r_while (h : RBo M t t') (hb : RSt M g g') : ∀ n : Nat, RSt M (gWhile t g n) (gWhile t' g' n)
  | 0 => fun en m => rfl
  | n + 1 => fun en m => by
    unfold gWhile
    rw [h en m]
    cases t en m with
    | ok k m1 =>
      cases k with
      | false => rfl
      | true =>
        simp only [shr, id]
        rw [hb en m1]
        cases g en m1 with
        | nx e2 m2 => exact r_while h hb n e2 m2
        | ct e2 m2 => exact r_while h hb n e2 m2
        | _ => rfl
    | ex x m1 => rfl
    | no => rfl
theorem wipe_sh (k : Nat) (en : En) : ∀ vs : List Nat, wipeE (she k en) vs = she k (wipeE en vs)
  | [] => rfl
  | v :: vs => by
    unfold wipeE
    rw [wipe_sh k en vs, she_setN]
theorem r_lc (hG : RTg M G G') (ht : RBo M t t') (hf : R1 M f f') (n : Nat) : ∀ (ds : List Dv) (en : En) (m : Store), lcLoop (M.length + n) G' t' f' (she M.length en) ds (M ++ m) = shr id M (lcLoop n G t f en ds m)
  | [], en, m => by
    unfold lcLoop
    rw [len_sh, get_sh]
    by_cases h : m.length = n + 1
    · rw [if_pos h, if_pos (by omega)]
      split
      · rw [take_sh]; rfl
      · rfl
    · rw [if_neg h, if_neg (by omega)]
      rfl
  | d :: ds, en, m => by
    unfold lcLoop
    have h1 := hG (.d d) en m
    rw [show shv M.length (.d d) = .d d from rfl] at h1
    rw [h1]
    cases G (.d d) en m with
    | none => rfl
    | some e1 =>
      simp only [Option.map_some]
      rw [ht e1 m]
      cases t e1 m with
      | ex x m1 => rfl
      | no => rfl
      | ok k m1 =>
        cases k with
        | false => exact r_lc hG ht hf n ds en m1
        | true =>
          simp only [shr, id]
          rw [hf e1 m1]
          cases f e1 m1 with
          | ex x m2 => rfl
          | no => rfl
          | ok y m2 =>
            simp only [shr]
            rw [frz_sh]
            cases frz m2 y with
            | none => rfl
            | some p =>
              simp only [Option.map_some, get_sh]
              split
              · split
                · rw [set_sh]
                  exact r_lc hG ht hf n ds en _
                · rfl
              · rfl
theorem r_comp (h : RFr M ff ff') (hG : RTg M G G') (ht : RBo M t t') (hf : R1 M f f') (vs : List Nat) : RFr M (fComp ff G t f vs) (fComp ff' G' t' f' vs) := fun en m => bind_sh (h en m) fun xs m1 => by
  rw [len_sh, wipe_sh, List.append_assoc]
  exact r_lc hG ht hf m1.length xs _ _
theorem r_compE (h : RFr M ff ff') (hG : RTg M G G') {f0 f0' : En → Sem1} (hf : ∀ en, R1 M (f0 en) (f0' (she M.length en))) (vs : List Nat) : RFr M (fCompE ff G f0 vs) (fCompE ff' G' f0' vs) := fun en m => r_comp h hG r_yesB (hf en) vs en m
theorem r_lcIn (hG : RTg M G G') (ht : RBo M t t') (hf : R1 M f f') (n : Nat) : ∀ (ds : List Dv) (en : En) (m : Store), lcIn (M.length + n) G' t' f' (she M.length en) ds (M ++ m) = shr id M (lcIn n G t f en ds m)
  | [], en, m => rfl
  | d :: ds, en, m => by
    unfold lcIn
    have h1 := hG (.d d) en m
    rw [show shv M.length (.d d) = .d d from rfl] at h1
    rw [h1]
    cases G (.d d) en m with
    | none => rfl
    | some e1 =>
      simp only [Option.map_some]
      rw [ht e1 m]
      cases t e1 m with
      | ex x m1 => rfl
      | no => rfl
      | ok k m1 =>
        cases k with
        | false => exact r_lcIn hG ht hf n ds en m1
        | true =>
          simp only [shr, id]
          rw [hf e1 m1]
          cases f e1 m1 with
          | ex x m2 => rfl
          | no => rfl
          | ok y m2 =>
            simp only [shr]
            rw [frz_sh]
            cases frz m2 y with
            | none => rfl
            | some p =>
              simp only [Option.map_some, get_sh]
              split
              · split
                · rw [set_sh]
                  exact r_lcIn hG ht hf n ds en _
                · rfl
              · rfl
theorem r_lcOut (hG : RTg M G G') (ht : RBo M t t') (h : RFr M ff ff') (hG1 : RTg M G1 G1') (ht1 : RBo M t2 t2') (hf : R1 M f f') (vs1 : List Nat) (n : Nat) : ∀ (ds : List Dv) (en : En) (m : Store), lcOut (M.length + n) G' t' ff' G1' t2' f' vs1 (she M.length en) ds (M ++ m) = shr id M (lcOut n G t ff G1 t2 f vs1 en ds m)
  | [], en, m => by
    unfold lcOut
    rw [len_sh, get_sh]
    by_cases h : m.length = n + 1
    · rw [if_pos h, if_pos (by omega)]
      split
      · rw [take_sh]; rfl
      · rfl
    · rw [if_neg h, if_neg (by omega)]
      rfl
  | d :: ds, en, m => by
    unfold lcOut
    have h1 := hG (.d d) en m
    rw [show shv M.length (.d d) = .d d from rfl] at h1
    rw [h1]
    cases G (.d d) en m with
    | none => rfl
    | some e1 =>
      simp only [Option.map_some]
      rw [ht e1 m]
      cases t e1 m with
      | ex x m1 => rfl
      | no => rfl
      | ok k m1 =>
        cases k with
        | false => exact r_lcOut hG ht h hG1 ht1 hf vs1 n ds en m1
        | true =>
          simp only [shr, id]
          rw [h e1 m1]
          cases ff e1 m1 with
          | ex x m2 => rfl
          | no => rfl
          | ok ys m2 =>
            simp only [shr, id]
            rw [wipe_sh, r_lcIn hG1 ht1 hf n ys _ m2]
            cases lcIn n G1 t2 f (wipeE e1 vs1) ys m2 with
            | ex x m3 => rfl
            | no => rfl
            | ok _ m3 => exact r_lcOut hG ht h hG1 ht1 hf vs1 n ds en m3
theorem r_comp2 {fi fi' : SemF} (h : RFr M ff ff') (hG : RTg M G G') (ht : RBo M t t') (h1 : RFr M fi fi') (hG1 : RTg M G1 G1') (ht1 : RBo M t2 t2') (hf : R1 M f f') (vs vs1 : List Nat) : RFr M (fComp2 ff G t fi G1 t2 f vs vs1) (fComp2 ff' G' t' fi' G1' t2' f' vs vs1) := fun en m => bind_sh (h en m) fun xs m1 => by
  rw [len_sh, wipe_sh, List.append_assoc]
  exact r_lcOut hG ht h1 hG1 ht1 hf vs1 m1.length xs _ _
theorem r_disp (ks : List Str) (h : RLs M fl fl') : R1 M (sDisp ks fl) (sDisp ks fl') := fun en m => by
  unfold sDisp
  rw [len_sh, List.append_assoc]
  refine bind_sh (h en _) fun xs m1 => ?_
  rw [frzL_sh]
  cases frzL m1 xs with
  | none => rfl
  | some p =>
    obtain ⟨ds, m2⟩ := p
    simp only [Option.map_some, get_sh]
    cases m2[m.length]? with
    | none => rfl
    | some z =>
      cases z with
      | lst _ => rfl
      | gone => rfl
      | dic kvs =>
        cases kvs with
        | nil => simp only; rw [set_sh]; rfl
        | cons _ _ => rfl
/-- clauses -/
inductive RCs (M : Store) : List (Nat × Cl) → List (Nat × Cl) → Prop
  | nil : RCs M [] []
  | fld {c i k f l l'} : RCs M l l' → RCs M ((c, .fld i k f) :: l) ((c, .fld i k f) :: l')
  | sts {c g g' l l'} : RSt M g g' → RCs M l l' → RCs M ((c, .sts g) :: l) ((c, .sts g') :: l')
theorem r_pick (sub : Nat → Nat → Bool) {l l' : List (Nat × Cl)} (h : RCs M l l') (x : Ex) (en : En) (m : Store) : pick sub l' x (she M.length en) (M ++ m) = shs M (pick sub l x en m) := by
  induction h with
  | nil => rfl
  | @fld c i k f l l' h ih =>
    unfold pick
    split
    · simp only
      split
      · rw [she_len]
        split <;> rfl
      · rfl
    · exact ih
  | @sts c g g' l l' hg h ih =>
    unfold pick
    split
    · simp only
      rw [hg en m]
      cases g en m <;> rfl
    · exact ih
theorem r_try (n : Nat) (sub : Nat → Nat → Bool) (hb : RSt M g g') {l l' : List (Nat × Cl)} (h : RCs M l l') : RSt M (gTry n sub g l) (gTry n sub g' l') := fun en m => by
  unfold gTry
  rw [hb en m]
  cases g en m with
  | ex x e1 m1 =>
    simp only [shs]
    split
    · exact r_pick sub h x e1 m1
    · rfl
  | _ => rfl
/-! defs -/
theorem start_sh (k ns : Nat) (ws : List Sv) : start0 ns (ws.map (shv k)) = she k (start0 ns ws) := by
  simp [start0, she, List.map_append]
theorem fnEnd_sh (n : Nat) (r : Sr) : fnEnd (M.length + n) (shs M r) = shr (shv M.length) M (fnEnd n r) := by
  cases r with
  | nx en m => simp only [shs, fnEnd, take_sh]; rfl
  | bk en m => rfl
  | ct en m => rfl
  | ex x en m => simp only [shs, fnEnd, take_sh]; rfl
  | no => rfl
  | rt x m =>
    cases x with
    | d d => simp only [shs, fnEnd, shv, take_sh]; rfl
    | c => rfl
    | o i =>
      simp only [shs, fnEnd, shv, take_sh, get_sh]
      by_cases h : i < n
      · rw [if_pos h, if_pos (by omega)]
        rfl
      · rw [if_neg h, if_neg (by omega)]
        cases m[i]? with
        | none => rfl
        | some z =>
          cases z with
          | lst _ => rfl
          | gone => rfl
          | dic kvs =>
            simp only [shr, shv, List.append_assoc, len_sh]
theorem r_fn (ns np : Nat) (h : RSt M g g') : RFn M (fnS ns np g) (fnS ns np g') := fun ws m => by
  unfold fnS
  rw [List.length_map]
  split
  · rw [start_sh, h, len_sh]
    exact fnEnd_sh _ _
  · rfl
theorem r_fnL (ns np : Nat) (hM : M.all freeSo = true) (h : RSt M g g') : RFn M (fnSL ns np g) (fnSL ns np g') := fun ws m => by
  unfold fnSL
  rw [List.length_map]
  split
  · rw [start_sh, h, len_sh]
    cases g (start0 ns ws) m with
    | rt x m1 =>
      cases x with
      | d d =>
        simp only [shs, shv]
        rw [take_sh, List.all_append, hM, Bool.true_and]
        split <;> rfl
      | _ => rfl
    | _ => rfl
  · rfl
theorem r_nofn : RFn M (fun _ _ => .no) (fun _ _ => .no) := fun ws m => rfl
/-- a def held by a name -/
theorem r_callL (i N : Nat) {disp disp' : Nat → Fs} (hd : ∀ n, n < N → RFn M (disp n) (disp' n)) (hl : RLs M fl fl') : R1 M (sCallL i N disp fl) (sCallL i N disp' fl') := fun en m => by
  unfold sCallL
  rw [she_get]
  cases e : en[i]? with
  | none => rfl
  | some y =>
    cases y with
    | none => rfl
    | some y =>
      cases y with
      | o j => rfl
      | c => rfl
      | d x =>
        cases x <;> try rfl
        simp only [Option.map_some, shv]
        split
        · rename_i hn
          exact bind_sh (hl en m) fun xs m1 => hd _ hn xs m1
        · rfl
/-! what is handed over to be called -/
def RCo (M : Store) (c c' : Store → Rs Sv) : Prop := ∀ m, c' (M ++ m) = shr (shv M.length) M (c m)
theorem r_clo {c c' : Store → Rs Sv} (h : RCo M c c') : R1 M (sClo c) (sClo c') := fun en m => by
  unfold sClo
  rw [she_get]
  cases e : en[0]? with
  | none => rfl
  | some y =>
    cases y with
    | none => rfl
    | some y =>
      cases y with
      | o j => rfl
      | d x => rfl
      | c => exact h m
theorem data_sh (k : Nat) (en : En) : dataEn (she k en) = dataEn en := by
  unfold dataEn she
  rw [List.map_map]
  refine List.map_congr_left fun x _ => ?_
  cases x with
  | none => rfl
  | some y => cases y <;> rfl
def NoRef (en : En) : Prop := ∀ k, she k en = en
theorem data_noref (en : En) : NoRef (dataEn en) := fun k => by
  unfold dataEn she
  rw [List.map_map]
  refine List.map_congr_left fun x _ => ?_
  cases x with
  | none => rfl
  | some y => cases y <;> rfl
theorem r_heardAt (ns nL : Nat) {gH gH' : (Store → Rs Sv) → SemS} {lamS lamS' : Nat → Sem1} {fe fe' : Sem1} (hg : ∀ c c', RCo M c c' → RSt M (gH c) (gH' c')) (hl : ∀ n, n < nL → R1 M (lamS n) (lamS' n)) (hf : R1 M fe fe') (en0 : En) : R1 M (sHeardAt ns gH nL lamS en0 fe) (sHeardAt ns gH' nL lamS' (she M.length en0) fe') := fun en m => by
  unfold sHeardAt
  refine bind_sh (r_cons hf r_nil en m) fun xs m1 => ?_
  match xs with
  | [] => rfl
  | [.o _] => rfl
  | [.c] => rfl
  | [.d x] =>
    cases x <;> try rfl
    rename_i n
    simp only [List.map_cons, List.map_nil, shv]
    split
    · rename_i hn
      rw [data_sh]
      unfold hdRun
      have c := hg (fun m2 => lamS (n - 1000) (dataEn en0) m2) (fun m2 => lamS' (n - 1000) (dataEn en0) m2) (fun m2 => by
        have := hl (n - 1000) (by omega) (dataEn en0) m2
        rw [data_noref en0] at this
        exact this) (start0 ns [Sv.c]) m1
      rw [← start_sh] at c
      rw [show [Sv.c].map (shv M.length) = [Sv.c] from rfl] at c
      rw [c]
      cases gH (fun m2 => lamS (n - 1000) (dataEn en0) m2) (start0 ns [Sv.c]) m1 with
      | rt x m2 =>
        cases x with
        | d d => simp only [shs, shv, len_sh, take_sh]; rfl
        | _ => rfl
      | ex x e2 m2 => simp only [shs, len_sh, take_sh]; rfl
      | _ => rfl
    · rfl
  | a :: b :: r =>
    cases a with
    | d x => cases x <;> rfl
    | _ => rfl
theorem r_heardE (ns nL : Nat) {gH gH' : (Store → Rs Sv) → SemS} {lamS lamS' : Nat → Sem1} {fe fe' : Sem1} (hg : ∀ c c', RCo M c c' → RSt M (gH c) (gH' c')) (hl : ∀ n, n < nL → R1 M (lamS n) (lamS' n)) (hf : R1 M fe fe') : R1 M (sHeardE ns gH nL lamS fe) (sHeardE ns gH' nL lamS' fe') := fun en m => r_heardAt ns nL hg hl hf en en m
/-- a def's answer, from its answer where nothing else is -/
def ShF (g : Fs) : Prop := ∀ M : Store, M.all freeSo = true → RFn M g g
theorem ShF.d {g : Fs} (h : ShF g) {ws : List Dv} {d : Dv} (e : g (ws.map .d) [] = .ok (.d d) []) {m : Store} (hm : m.all freeSo = true) : g (ws.map .d) m = .ok (.d d) m := by
  have := h m hm (ws.map .d) []
  rw [List.append_nil, e, List.map_map] at this
  simpa [shr, shv, Function.comp_def] using this
theorem ShF.x {g : Fs} (h : ShF g) {ws : List Dv} {x : Ex} (e : g (ws.map .d) [] = .ex x []) {m : Store} (hm : m.all freeSo = true) : g (ws.map .d) m = .ex x m := by
  have := h m hm (ws.map .d) []
  rw [List.append_nil, e, List.map_map] at this
  simpa [shr, shv, Function.comp_def] using this
end
end EvL
end

section
set_option Elab.async false
set_option linter.all false
set_option maxRecDepth 100000
set_option maxHeartbeats 4000000
/-! E33: list(zip(a, b)); x(lambda: e) in a comprehension, the lambda made there -/
namespace EvL
open PySem PySem.Spec PyProof.Rows L2 LamX EvZ
section
variable {X : Cx} {e e2 : Expr} {ta : TA} {p p1 p2 p3 p4 : Pos}
def tZip2 (K : PySem.W.Frag) (ta : TA) : TE := fun σ H Q => ta σ H fun vs H1 => ∃ (a b : Addr) (xs ys : List V), vs = [V.ref a, V.ref b] ∧ SqT K H1 a xs ∧ SqT K H1 b ys ∧ xs.length = ys.length ∧ 1 ≤ xs.length ∧ xs.length ≤ 1000 ∧ ∀ ts G' S, Chain H1 (colsV xs.length [xs, ys]) ts G' → G' S = none → Q (.ref S) (upd G' S (.lst ts))
theorem run_zip2 {pins : List (Addr × Obj)} {s : Shared} {σ : L2.St} {H : Hp} {Q : VK} (hg : Gl X "zip") (hm : X.mg "zip" = none) (ha : PA X (e :: [e2]) ta) (I : Inv X pins σ H s) (h : tZip2 X.K ta σ H Q)
    (he : starEach (e :: [e2]) X.env = (false, eval e X.env) :: starEach [e2] X.env) (hpl : (backTo p3 (starEach [e2] X.env)).any (·.1) = false) :
    wpAny (model X.prog X.w) X.A (eval (.Call (.Name "zip" p) (e :: [e2]) [] p3) X.env) (fun u s3 => ∃ H1 rows n, ZMade X pins σ H1 rows n u s3 ∧ ∀ ts G' S, Chain H1 (colsV n rows) ts G' → G' S = none → Q (.ref S) (upd G' S (.lst ts))) X.xe s := by
  refine Call_ (ld_blt I hg hm PyProof.Rows.boot_zip (PyProof.Rows.callWith_type1 (thn (ha.run p3 pins s σ H _ I h) fun us s1 hh => ?_) he hpl))
  obtain ⟨vs, H1, I1, rv, a, b, xs, ys, rfl, h1, h2, hl, n1, n2, q⟩ := hh
  cases rv with
  | cons r1 rn =>
    cases rn with
    | cons r2 rn =>
      cases rn
      cases r1
      cases r2
      exact thn (made2 I1 h1 h2 rfl hl.symm n1 n2) fun u s3 zm => ⟨H1, [xs, ys], xs.length, zm, q⟩
theorem pe_listZip2 (hc : X.calm = true) (hl : Gl X "list") (hml : X.mg "list" = none) (hg : Gl X "zip") (hm : X.mg "zip" = none) (ha : PA X (e :: [e2]) ta)
    (he : starEach (e :: [e2]) X.env = (false, eval e X.env) :: starEach [e2] X.env) (hpl : (backTo p3 (starEach [e2] X.env)).any (·.1) = false) : PE X (.Call (.Name "list" p1) [.Call (.Name "zip" p) (e :: [e2]) [] p3] [] p2) (tZip2 X.K ta) := by
  refine ⟨fun pins s σ H Q I h => ?_⟩
  refine Call_ (ld_blt I hl hml boot_list (PyProof.Rows.callWith_type1 (args_cons (thn (run_zip2 hg hm ha I h he hpl) fun u s3 ⟨H1, rows, n, zm, q⟩ => args_nil ?_) (star_call _ _ _ _ _ _)) (star_call _ _ _ _ _ _) (star_none _ _)))
  exact listMade (I.ok.hd hc) zm q
end
section
variable {tb : Tb} {W : WX} {X : Cx} {a b : Expr} {fa fb : Sem1} {p p1 p2 p3 : Pos}
/-- list(zip(a, b)) of two tuples of one length -/
def fZip2 (fa fb : Sem1) : SemF := fun en m => (fa en m).bind fun x m1 => (fb en m1).bind fun y m2 => match rv m2 x, rv m2 y with
  | some (.tup xs), some (.tup ys) => if decide (xs.length = ys.length) && decide (1 ≤ xs.length) && decide (xs.length ≤ 1000) then .ok (pairs xs ys) m2 else .no
  | _, _ => .no
theorem pairs_cols : ∀ (xs ys : List Dv), xs.length = ys.length → pairs xs ys = (List.range xs.length).map fun i => Dv.tup [xs.getD i .non, ys.getD i .non] := by
  intro xs ys h
  refine List.ext_getElem (by simp [pairs, h]) fun i h1 h2 => ?_
  have hx : i < xs.length := by simpa using h2
  have hy : i < ys.length := by omega
  simp [pairs, List.getD_eq_getElem?_getD, hx, hy]
theorem rf_zip2 (hc : X.calm = true) (hl : Gl X "list") (hml : X.mg "list" = none) (hg : Gl X "zip") (hm : X.mg "zip" = none) (ha : RE X tb W a fa) (hb : RE X tb W b fb)
    (he : starEach (a :: [b]) X.env = (false, eval a X.env) :: starEach [b] X.env := by rfl) (he2 : starEach [b] X.env = (false, eval b X.env) :: starEach [] X.env := by rfl) (hpl : (backTo p3 (starEach [b] X.env)).any (·.1) = false := by rfl) :
    RF X tb W (.Call (.Name "list" p1) [.Call (.Name "zip" p) (a :: [b]) [] p3] [] p2) (fZip2 fa fb) := by
  refine PE.weak (pe_listZip2 hc hl hml hg hm (pa_cons ha (pa_cons hb pa_nil he2) he) he hpl) fun σ H Q q => ?_
  obtain ⟨F, ρ, en, m, he, ho, q⟩ := q
  refine tE_bindF he ho q fun x m1 F1 ρ1 H1 v e1 he1 ho1 r1 q1 => ?_
  refine tE_bindF he1 ho1 q1 fun y m2 F2 ρ2 H2 u e2 he2 ho2 r2 q2 => ?_
  split at q2
  · rename_i xs ys h1 h2
    split at q2
    · rename_i hk
      simp only [Bool.and_eq_true, decide_eq_true_eq] at hk
      obtain ⟨⟨k1, k2⟩, k3⟩ := hk
      obtain ⟨A, vs, rfl, q3, r3⟩ := (rv_top ho2 (r1.mono e2) h1).sqt ho2.sub
      obtain ⟨B, ws, rfl, q4, r4⟩ := (rv_top ho2 r2 h2).sqt ho2.sub
      refine ⟨A, B, vs, ws, rfl, q3, q4, by rw [← r3.length, ← r4.length]; exact k1, by rw [← r3.length]; exact k2, by rw [← r3.length]; exact k3, fun ts G' S hch hS => ?_⟩
      obtain ⟨F3, x3, o3, r5⟩ := chain_rep hch ho2 ((List.range xs.length).map fun i => ([xs.getD i .non, ys.getD i .non], [vs.getD i .non, ws.getD i .non])) (by rw [List.map_map]; unfold colsV; rw [r3.length]; rfl) (fun q hq => by
        obtain ⟨i, _, rfl⟩ := List.mem_map.mp hq
        exact .cons (repL_getD i r3) (.cons (repL_getD i r4) .nil))
      rw [List.map_map] at r5
      have e0 : (List.range xs.length).map ((fun q : List Dv × List V => Dv.tup q.1) ∘ fun i => ([xs.getD i .non, ys.getD i .non], [vs.getD i .non, ws.getD i .non])) = pairs xs ys := (pairs_cols xs ys k1).symm
      rw [e0] at r5
      exact q2 F3 ρ2 G' S ts x3 o3 hS r5
    · exact q2.elim
  · exact q2.elim
theorem r_zip2 {M : Store} {fa fa' fb fb' : Sem1} (ha : R1 M fa fa') (hb : R1 M fb fb') : RFr M (fZip2 fa fb) (fZip2 fa' fb') := fun en m => bind_sh (ha en m) fun x m1 => bind_sh (hb en m1) fun y m2 => by
  rw [rv_sh, rv_sh]
  split
  · split <;> rfl
  · rfl
end
/-! x(lambda: e), the lambda made where it is handed over -/
def enFree (en : En) : Bool := en.all fun x => match x with
  | some (.d d) => lamFree d
  | _ => true
theorem EnvOk.free {K : PySem.W.Frag} {tb tb' : Tb} {F : Hp} {ρ : List Addr} {en : En} {σ : L2.St} (h : tb'.fnA = tb.fnA) (hC : tb'.isC = tb.isC) (hf : enFree en = true) (o : EnvOk K tb F ρ en σ) : EnvOk K tb' F ρ en σ := by
  refine ⟨o.len, fun i x e => ?_⟩
  obtain ⟨v, h1, h2⟩ := o.at_ i x e
  refine ⟨v, h1, ?_⟩
  unfold enFree at hf
  rw [List.all_eq_true] at hf
  have hm := hf _ (List.mem_of_getElem? e)
  cases h2 with
  | d r => exact .d (r.free h hm)
  | o r => exact .o r
  | c r => exact .c (by rw [hC]; exact r)
def sHeardB (ns : Nat) (gH : (Store → Rs Sv) → SemS) (lam : Sem1) : Sem1 := fun en m => if enFree en && m.all freeSo then (match hdRun ns gH (fun m2 => lam (dataEn en) m2) m with
  | .ok (.d d) m2 => if lamFree d && m2.all freeSo then .ok (.d d) m2 else .no
  | _ => .no) else .no
section
variable {tb : Tb} {W : WX} {Y : Cx} {e : Expr} {lam : Sem1} {pos p : Pos} {k ns : Nat} {x a : Str} {N : List Str} {st : Stmt} {gH : (Store → Rs Sv) → SemS} {e0 : LEn}
theorem re_heardB (HD : Hd Y.prog Y.w Y.K Y.mg Y.base (tb.ofX Y.env.qual Y.env.cells [e0]) (k + 1) x a N st gH) (LM : LmOne Y (tb.ofX Y.env.qual Y.env.cells [e0]) k (fun _ => lam) 0 e0) (hr : Room (k + 2) Y.A) (hgu : Y.A.guards = some []) (tk : Takes Y W) (hg : Gl Y x)
    (hl : RE Y (tb.ofX Y.env.qual Y.env.cells [e0]) W e (sC (.fn 1000))) (hns : N.length = ns := by rfl)
    (hdb : (x == ("__debug__" : Str)) = false := by decide) (hs : starEach [e] Y.env = (false, eval e Y.env) :: starEach [] Y.env := by rfl) (hpl : (backTo pos (starEach [] Y.env)).any (·.1) = false := by rfl)
    (hd : (a == ("__debug__" : Str)) = false := by decide) (hcd : (a == ("__classdict__" : Str)) = false := by decide) : RE Y tb W (.Call (.Name x p) [e] [] pos) (sHeardB ns gH lam) := by
  have LM2 : Lm Y (tb.ofX Y.env.qual Y.env.cells [e0]) k 1 (fun _ => lam) := lm_mk (L := [e0]) rfl ⟨LM, trivial⟩
  refine PE.weak (re_heard (lamS := fun _ => lam) HD LM2 hr hgu tk hg hl hns hdb hs hpl hd hcd) fun σ H Q q => ?_
  obtain ⟨F, ρ, en, m, he, ho, q⟩ := tE_iff.mp q
  unfold sHeardB at q
  split at q
  · rename_i hf
    rw [Bool.and_eq_true] at hf
    refine tE_iff.mpr ⟨F, ρ, en, m, EnvOk.free (tb := tb) (tb' := tb.ofX Y.env.qual Y.env.cells [e0]) rfl rfl hf.1 he, Wo.free (tb := tb) (tb' := tb.ofX Y.env.qual Y.env.cells [e0]) rfl rfl hf.2 ho, ?_⟩
    have e1 : sHeardAt ns gH 1 (fun _ => lam) en (sC (.fn 1000)) en m = hdRun ns gH (fun m2 => lam (dataEn en) m2) m := rfl
    show PostE Y.K _ W F ρ σ Q (sHeardAt ns gH 1 (fun _ => lam) en (sC (.fn 1000)) en m)
    rw [e1]
    cases hh : hdRun ns gH (fun m2 => lam (dataEn en) m2) m with
    | ok y m2 =>
      rw [hh] at q
      cases y with
      | d d =>
        dsimp only at q
        split at q
        · rename_i hf2
          rw [Bool.and_eq_true] at hf2
          intro F' ρ' H' v ex o' r'
          exact q F' ρ' H' v ex (Wo.free (tb := tb.ofX Y.env.qual Y.env.cells [e0]) (tb' := tb) rfl rfl hf2.2 o') (.d (Rep.free (tb := tb.ofX Y.env.qual Y.env.cells [e0]) (tb' := tb) rfl hf2.1 (RepS.rv (m := []) r')))
        · exact q.elim
      | o j => exact q.elim
      | c => exact q.elim
    | ex y m2 => rw [hh] at q; exact q.elim
    | no => rw [hh] at q; exact q.elim
  · exact q.elim
end
end EvL
end

section
set_option Elab.async false
set_option linter.all false
set_option maxRecDepth 100000
set_option maxHeartbeats 4000000
/-! E34: t[::-1], t * 0, t != (), t == () for tuples -/
namespace EvL
open PySem PySem.Spec PyProof.Rows L2
section
variable {prog : Program} {w : World} {A : Around} {E : Value → Shared → Prop} {s : Shared}
theorem sliceRev {sl : Addr} {t : Tok} {n : Nat} {Q : Int × Int × Nat → Shared → Prop} (hs : s.heap.IsSliceOf sl .none .none (.int (-1) t)) (h : Q ((n : Int) - 1, -1, n) s) : wpAny (model prog w) A (Builtin.Slice.sliceApplied (.ref sl) (pure (n : Int))) Q E s := by
  obtain ⟨os, hos, hcs, hds⟩ := id hs
  unfold Builtin.Slice.sliceApplied Builtin.Slice.sliceFields
  refine wpAny_bind (wpAny_bind (wpAny_field hos hds (x := .none) rfl (wpAny_bind (wpAny_field hos hds (x := .none) rfl (wpAny_bind (wpAny_field hos hds (x := .int (-1) t) rfl (wpAny_pure ?_)))))))
  refine wpAny_bind (slicePart_int ?_)
  show wpAny _ _ (if ((-1 : Int) == 0) = true then _ else _) _ _ s
  rw [if_neg (by decide)]
  refine wpAny_bind (slicePart_none (wpAny_bind (slicePart_none (wpAny_bind (wpAny_pure ?_)))))
  have e1 : Builtin.Slice.sliceAdjust none none (-1) (n : Int) = ((n : Int) - 1, -1) := by
    unfold Builtin.Slice.sliceAdjust
    simp
  have e2 : Builtin.Slice.slicePlaces ((n : Int) - 1) (-1) (-1) = n := by
    unfold Builtin.Slice.slicePlaces
    have h1 : ¬ ((-1 : Int) > 0) := by omega
    have h2 : -(-1 : Int) = 1 := rfl
    simp only [h1, if_false, h2, Int.ediv_one]
    split <;> omega
  show wpAny _ _ (match Builtin.Slice.sliceAdjust none none (-1) (n : Int) with | (lo, hi) => pure (lo, (-1 : Int), Builtin.Slice.slicePlaces lo hi (-1))) _ _ s
  rw [e1]
  show wpAny _ _ (pure ((n : Int) - 1, (-1 : Int), Builtin.Slice.slicePlaces ((n : Int) - 1) (-1) (-1))) _ _ s
  rw [e2]
  exact wpAny_pure h
theorem fm_congr {α β : Type} {f g : α → Option β} : ∀ {l : List α}, (∀ x ∈ l, f x = g x) → l.filterMap f = l.filterMap g
  | [], _ => rfl
  | x :: l, h => by
    rw [List.filterMap_cons, List.filterMap_cons, h x List.mem_cons_self, fm_congr fun y hy => h y (List.mem_cons_of_mem _ hy)]
theorem pick_rev (xs : Array Value) : ((List.range xs.size).filterMap fun (m : Nat) => xs[(((xs.size : Nat) : Int) - 1 + (m : Int) * -1).toNat]?).toArray = xs.toList.reverse.toArray := by
  congr 1
  have e : (List.range xs.size).filterMap (fun (m : Nat) => xs[(((xs.size : Nat) : Int) - 1 + (m : Int) * -1).toNat]?) = ((List.range xs.size).map fun k => xs.size - 1 - k).filterMap (xs[·]?) := by
    rw [List.filterMap_map]
    refine fm_congr fun m hm => ?_
    have := List.mem_range.mp hm
    show xs[(((xs.size : Nat) : Int) - 1 + (m : Int) * -1).toNat]? = xs[xs.size - 1 - m]?
    congr 1
    omega
  rw [e, PySem.W.krv_range, List.filterMap_reverse, PySem.W.krv_all]
theorem getItem_tuple_rev {t sl : Addr} {items : Array Value} {u : Tok} {Q : Value → Shared → Prop} (ht : IsTup s.heap t items) (hs : s.heap.IsSliceOf sl .none .none (.int (-1) u))
    (h : Q (.ref s.heap.objs.size) { s with heap := s.heap.push { cls := .type "tuple", data := .seq items.toList.reverse.toArray } })
    (hsz : items.size ≤ sizeLine) : wpAny (model prog w) A (getItem (.ref t) (.ref sl)) Q E s := by
  have htake : sizeOk (.seq items.toList.reverse.toArray) := by
    show items.toList.reverse.toArray.size ≤ sizeLine
    simpa using hsz
  obtain ⟨os, hos, hcs, hds⟩ := id hs
  have hTs : s.TypeIs (.ref sl) "slice" := ⟨os, hos, hcs⟩
  unfold getItem
  try with_reducible refine wpAny_holding ?_
  first | refine wpAny_bind (wpAny_pure ?_) | skip
  refine wpAny_bind (wpAny_sequenceKey ht.typeIs (by decide) ?_)
  refine wpAny_bind (wpAny_callSpecial?_slot (name := Str.ofString "__getitem__") ht.typeIs PyProof.Rows.slot_tuple_getitem
    (wpAny_call_entry PyProof.Rows.slot_tuple_getitem ht.typeIs entry_tuple_getitem ?_ (args_tuple_getitem _ _)))
  show wpAny _ _ (Builtin.Tuple.tupleItemsOf (.ref t) >>= _) _ _ s
  refine wpAny_bind (tupleItemsOf_ ht ?_)
  refine wpAny_bind (wpAny_typeOf hTs ?_)
  rw [if_pos (by decide)]
  refine wpAny_bind (sliceRev hs ?_)
  have hno : ¬ ((((items.size : Nat) : Int) - 1 == 0 && (-1 : Int) == 1 && items.size == items.size) = true) := by simp
  show wpAny _ _ (if (((items.size : Nat) : Int) - 1 == 0 && (-1 : Int) == 1 && items.size == items.size) = true then _ else _) _ _ s
  rw [if_neg hno, pick_rev]
  first
    | exact wpAny_bind (m := Builtin.Tuple.tupleExact _) (wpAny_newObj_type (wpAny_pure ⟨_, rfl, wpAny_pure h⟩) htake)
    | exact wpAny_bind (m := Builtin.Tuple.tupleExact _) (wpAny_newObj_type (wpAny_bind (wpAny_pure (wpAny_pure ⟨_, rfl, wpAny_pure h⟩))) htake)
    | exact wpAny_bind (wpAny_bind (m := Builtin.Tuple.tupleExact _) (wpAny_newObj_type (wpAny_pure (wpAny_pure ⟨_, rfl, wpAny_pure h⟩)) htake))
    | exact wpAny_bind (wpAny_bind (m := Builtin.Tuple.tupleExact _) (wpAny_newObj_type (wpAny_pure ⟨_, rfl, wpAny_pure h⟩) htake))
end
def tRevT (K : PySem.W.Frag) (te : TE) : TE := fun σ H Q => te σ H fun x H1 => ∃ a xs, x = .ref a ∧ SqT K H1 a xs ∧ ∀ p, H1 p = none → Q (.ref p) (upd H1 p (.tup xs.reverse))
theorem pe_revT {X : Cx} {e : Expr} {te : TE} {k : Nat} {p1 p2 p3 pos : Pos} (he : PE X e te) : PE X (.Subscript e (.Slice none none (some (.UnaryOp .USub (.Constant (.int 1) k p1) p2)) p3) pos) (tRevT X.K te) := by
  refine ⟨fun pins s σ H Q I h => ?_⟩
  refine Subscript_ (thn (he.run pins s σ H _ I h) fun v s1 ⟨x, H1, I1, r1, q1⟩ => ?_)
  obtain ⟨a, xs, ex, hx, q⟩ := q1
  subst ex
  cases r1
  have hst : PO X (some (.UnaryOp .USub (.Constant (.int 1) k p1) p2)) (tPart (tUn (rU fun i => .int (-i)) (tC (.int 1)))) := po_some (pe_un un_neg pe_int)
  refine wpAny_Slice (thn (po_none.run pins s1 σ H1 (fun o H2 => o = none ∧ H2 = H1) I1 ⟨rfl, rfl⟩) fun vl s2 ⟨l, H2, I2, pl, el, e2⟩ => ?_)
  subst el e2
  refine thn (po_none.run pins s2 σ H2 (fun o H3 => o = none ∧ H3 = H2) I2 ⟨rfl, rfl⟩) fun vu s3 ⟨u, H3, I3, pu, eu, e3⟩ => ?_
  subst eu e3
  refine thn (hst.run pins s3 σ H3 (fun o H4 => o = some (-1) ∧ H4 = H3) I3 ⟨1, rfl, -1, rfl, rfl, rfl⟩) fun vs s4 ⟨o, H4, I4, ps, eo, e4⟩ => ?_
  subst eo e4
  cases pl
  cases pu
  cases ps with
  | int i tk =>
  have I5 : Inv X pins σ H4 { s4 with heap := s4.heap.push { cls := .type "slice", data := .fields #[.none, .none, .int (-1) tk] } } := I4.kept (t' := s4.toks) fun b ob q => Heap.get?_push_of_some _ q
  obtain ⟨its, r, ht, hz⟩ := I5.tuple hx
  have hlen := r.length
  show wpAny (model X.prog X.w) X.A (subscriptTail e (.Slice none none (some (.UnaryOp .USub (.Constant (.int 1) k p1) p2)) p3) (.ref a) (.ref s4.heap.objs.size)) (EP X pins σ Q) X.xe { s4 with heap := s4.heap.push { cls := .type "slice", data := .fields #[.none, .none, .int (-1) tk] } }
  refine tail_any (ops := [.ref a, .ref s4.heap.objs.size]) ht.typeIs (PyProof.Rows.slot_tuple_getitem.lookup) ?_ (by with_unfolding_all rfl)
  refine getItem_tuple_rev ht (Heap.IsSliceOf.new _ .none .none (.int (-1) tk)) ?_ (by rw [List.size_toArray]; omega)
  refine ⟨.ref _, _, I5.laid (t' := s4.toks) (o := .tup xs.reverse) (fun b ob q => Heap.get?_push_of_some _ q) (Nat.le_refl _) ?_, rfl, q _ (I5.hok.fresh (Nat.le_refl _))⟩
  exact ⟨by rw [List.length_reverse]; exact hz, _, r.reverse, IsTup.new _ _⟩
section
variable {K : PySem.W.Frag} {tb : Tb} {W : WX} {X : Cx} {a b e : Expr} {fa fb : Sem1} {pos p1 p2 p3 : Pos} {k : Nat}
def sRevT (fa : Sem1) : Sem1 := fun en m => (fa en m).bind fun x m1 => match rv m1 x with
  | some (.tup xs) => .ok (.d (.tup xs.reverse)) m1
  | _ => .no
theorem re_revT (h : RE X tb W e fa) : RE X tb W (.Subscript e (.Slice none none (some (.UnaryOp .USub (.Constant (.int 1) k p1) p2)) p3) pos) (sRevT fa) := by
  refine PE.weak (pe_revT h) fun σ H Q q => ?_
  obtain ⟨F, ρ, en, m, he, ho, q⟩ := tE_iff.mp q
  refine tE_bind he ho q fun x m1 F1 ρ1 H1 v e1 he1 ho1 r1 q1 => ?_
  split at q1
  · rename_i xs hx
    obtain ⟨l, vs, rfl, h1, rr⟩ := (rv_top ho1 r1 hx).sqt ho1.sub
    refine ⟨l, vs, rfl, h1, fun p hp => ?_⟩
    obtain ⟨o2, e2⟩ := ho1.alloc hp (.tup vs.reverse)
    exact q1 _ ρ1 _ _ e2 o2 (.d (.tup (.inl (.inl upd_same)) (rr.mono e2.le).reverse))
  · exact q1.elim
/-- x[::-1] of a tuple or a list -/
def sRevP (fa : Sem1) : Sem1 := sElse (sRevT fa) (sF (fRevL fa))
theorem re_revP (h : RE X tb W e fa) : RE X tb W (.Subscript e (.Slice none none (some (.UnaryOp .USub (.Constant (.int 1) k p1) p2)) p3) pos) (sRevP fa) := re_else (re_revT h) (re_f (rf_revL h))
theorem r_revT {M : Store} {fa fa' : Sem1} (ha : R1 M fa fa') : R1 M (sRevT fa) (sRevT fa') := fun en m => bind_sh (ha en m) fun x m1 => by
  rw [rv_sh]
  split <;> rfl
theorem r_revP {M : Store} {fa fa' : Sem1} (ha : R1 M fa fa') : R1 M (sRevP fa) (sRevP fa') := r_else (r_revT ha) (r_F (r_rev ha))
end
/-! t * 0 -/
theorem tuple_mul0 (l : Addr) (items : Array Value) (n : Nat) (dd : Option Addr) (sl : Array (Option Value)) (u : Tok) (c1 : (items.isEmpty || (0 : Int) == 1) = false) :
    Meets (Builtin.«tuple.__mul__» ⟨[.ref l, .int 0 u], []⟩) (fun _ R s => s.heap.get? l = some { cls := .type "tuple", dict := dd, data := .seq items n, slots := sl } ∧
      R (.ok (.ret (Value.ref s.heap.objs.size))) { s with heap := s.heap.push { cls := Value.type "tuple", data := Data.seq #[] }, toks := s.toks }) :=
  .of_wp fun prog w A R s h => by
    obtain ⟨hp, g, d, tk, os⟩ := s
    obtain ⟨hl, h⟩ := h
    have f1 := AutoSeq1.idx_int
    wp_walk using wpAny_loadPart' hl
    repeat (first
      | (refine wpAny_ite_false (decide_eq_false (by rw [c1]; exact Bool.false_ne_true)) ?_; wp_walk using wpAny_loadPart' hl))
    exact ⟨_, rfl, h⟩
def rRep0 (K : PySem.W.Frag) : R2 := fun x y H Q => ∃ l xs, x = .ref l ∧ y = .int 0 ∧ SqT K H l xs ∧ xs ≠ [] ∧ ∀ p, H p = none → Q (.ref p) (upd H p (.tup []))
section
variable {tb : Tb} {W : WX} {X : Cx} {a b : Expr} {fa fb : Sem1} {pos : Pos} {k : Nat}
theorem op_rep0 : OpR X (binaryOp .Mult) (rRep0 X.K) := by
  intro pins s σ H x y v u Q I rx ry h
  obtain ⟨l, xs, rfl, rfl, hT, hne, q⟩ := h
  cases rx
  obtain ⟨t, rfl⟩ := ry
  obtain ⟨its, r, ⟨⟨cls, dd, data, sl⟩, ho, hc, n, hd⟩, hs⟩ := I.tuple hT
  simp only at hc hd
  subst hc hd
  have hn : its ≠ [] := fun e => hne (r.nil_iff.mp e)
  have hi : its.toArray.isEmpty = false := by
    cases its with
    | nil => exact absurd rfl hn
    | cons a b => rfl
  have c1 : (its.toArray.isEmpty || (0 : Int) == 1) = false := by
    rw [hi, Bool.false_or]
    exact beq_eq_false_iff_ne.mpr (by omega)
  refine wpAny_binaryOp_repeat_ref (T := "tuple") (U := "int") (by decide) ⟨_, ho, rfl⟩ (fun s' => typeIs_int s' 0 t) noFill_tuple_mul F.fills_int_mul F.slot_int_rmul repeat_tuple F.slot_int_index.lookup
    (call_meets F.slot_int_rmul (typeIs_int s 0 t) F.entry_int_rmul (F.args_int_rmul_2 _ _) (int_rmul_tuple 0 t l its.toArray n dd sl)
      ⟨ho, rfl, ⟨_, ho, rfl⟩, call_meets F.slot_tuple_mul ⟨_, ho, rfl⟩ F.entry_tuple_mul (F.args_tuple_mul_2 _ _) (tuple_mul0 l its.toArray n dd sl t c1) ⟨ho, ?_⟩⟩)
  refine ⟨.ref s.heap.objs.size, _, I.laid (t' := s.toks) (o := .tup []) (fun b ob q => Heap.get?_push_of_some _ q) (Nat.le_refl _) ?_, rfl, q _ (I.hok.fresh (Nat.le_refl _))⟩
  exact ⟨Nat.zero_le _, _, .nil, IsTup.new _ _⟩
def oRep0 : Dv → Dv → Option Dv
  | .tup xs, .int k => if k = 0 then some (.tup []) else none
  | _, _ => none
def oRep0' : Dv → Dv → Option Dv
  | .tup (x :: xs), .int k => if k = 0 then some (.tup []) else none
  | _, _ => none
theorem opC_rep0 : OpC X tb (rRep0 X.K) oRep0' := by
  intro F ρ m H x y v u d Q o tx ty e kk
  unfold oRep0' at e
  split at e
  · rename_i z zs k
    split at e
    · rename_i hk
      cases e
      subst hk
      obtain ⟨l, vs, rfl, h1, r1⟩ := tx.sqt o.sub
      refine ⟨l, vs, rfl, ty.int, h1, fun z => ?_, fun p hp => ?_⟩
      · have := r1.length
        rw [z] at this
        simp at this
      · obtain ⟨o3, e3⟩ := o.alloc hp (.tup [])
        exact kk _ _ _ e3 o3 (.tup (.inl (.inl upd_same)) .nil)
    · cases e
  · cases e
def oMulQ : Dv → Dv → Option Dv := orO oMul (orO oRep1 (orO (orO oRepT oRep0') (frO oRepL)))
theorem re_mulQ (ha : RE X tb W a fa) (hb : RE X tb W b fb) : RE X tb W (.BinOp a .Mult b pos) (sBin oMulQ fa fb) :=
  re_bin (OpR.or op_mulA (OpR.or op_rep1 (OpR.or (OpR.or op_repT op_rep0) op_rep))) (OpC.or (opC_iC (fun i j h => mulOk_c h) fun i j F => .int _) (OpC.or opC_rep1 (OpC.or (OpC.or opC_repT opC_rep0) (frC opF_rep)))) ha hb
/-! t != (), t == () -/
def rCmp0 (K : PySem.W.Frag) (g : Bool → Bool) : R2 := fun x y H Q => ∃ l l2 xs, x = .ref l ∧ y = .ref l2 ∧ SqT K H l xs ∧ SqT K H l2 [] ∧ Q (.bl (g xs.isEmpty)) H
theorem op_ne0 (hu : X.A.units + 64 < cLine) : OpR X (compareOp .NotEq) (rCmp0 X.K (!·)) := by
  intro pins s σ H x y v u Q I rx ry h
  obtain ⟨l, l2, xs, rfl, rfl, h1, h2, q⟩ := h
  cases rx
  cases ry
  obtain ⟨its, r, tp, _⟩ := I.tuple h1
  obtain ⟨its2, r2, tp2, _⟩ := I.tuple h2
  cases r2
  have z := SeqAt.RcNeAt.tuples (A := X.A) (s := s) (e := fun _ => true) tp tp2 (by omega) (fun j h1 h2 => by simp at h2)
  have e : ((List.range (min its.toArray.size ([] : List Value).toArray.size)).all (fun _ => true) && its.toArray.size == ([] : List Value).toArray.size) = xs.isEmpty := by
    have := r.length
    cases xs with
    | nil => cases its <;> simp at this ⊢
    | cons a b => cases its <;> simp at this ⊢
  rw [e] at z
  exact z X.prog X.w _ _ ⟨.bl (!xs.isEmpty), H, I, rfl, q⟩
theorem op_eq0 (hu : X.A.units + 64 < cLine) : OpR X (compareOp .Eq) (rCmp0 X.K id) := by
  intro pins s σ H x y v u Q I rx ry h
  obtain ⟨l, l2, xs, rfl, rfl, h1, h2, q⟩ := h
  cases rx
  cases ry
  obtain ⟨its, r, tp, _⟩ := I.tuple h1
  obtain ⟨its2, r2, tp2, _⟩ := I.tuple h2
  cases r2
  have z := SeqAt.RcAt.tuples (A := X.A) (s := s) (e := fun _ => true) tp tp2 (by omega) (fun j h1 h2 => by simp at h2)
  have e : ((List.range (min its.toArray.size ([] : List Value).toArray.size)).all (fun _ => true) && its.toArray.size == ([] : List Value).toArray.size) = xs.isEmpty := by
    have := r.length
    cases xs with
    | nil => cases its <;> simp at this ⊢
    | cons a b => cases its <;> simp at this ⊢
  rw [e] at z
  exact z X.prog X.w _ _ ⟨.bl xs.isEmpty, H, I, rfl, q⟩
def oCmp0 (g : Bool → Bool) : Dv → Dv → Option Dv
  | .tup xs, .tup [] => some (.bl (g xs.isEmpty))
  | _, _ => none
theorem opC_cmp0 (g : Bool → Bool) : OpC X tb (rCmp0 X.K g) (oCmp0 g) := by
  intro F ρ m H x y v u d Q o tx ty e kk
  unfold oCmp0 at e
  split at e
  · cases e
    obtain ⟨l, vs, rfl, h1, r1⟩ := tx.sqt o.sub
    obtain ⟨l2, vs2, rfl, h2, r2⟩ := ty.sqt o.sub
    cases r2
    rename_i xs
    have ee : xs.isEmpty = vs.isEmpty := by cases r1 <;> rfl
    exact ⟨l, l2, vs, rfl, rfl, h1, h2, kk F H _ (.refl _ _) o (by rw [ee]; exact .bl _)⟩
  · cases e
theorem re_ne0 (hr : Room k X.A) (ha : RE X tb W a fa) (hb : RE X tb W b fb) : RE X tb W (.Compare a [.NotEq] [b] pos) (sBin (orO oNe (oCmp0 (!·))) fa fb) := re_cmp (OpR.or (op_neD hr.units) (op_ne0 hr.units)) (OpC.or opC_ne (opC_cmp0 _)) ha hb (nomark _)
theorem re_eq0 (hr : Room k X.A) (ha : RE X tb W a fa) (hb : RE X tb W b fb) : RE X tb W (.Compare a [.Eq] [b] pos) (sBin (orO oEq (oCmp0 id)) fa fb) := re_cmp (OpR.or (op_eqD hr.units) (op_eq0 hr.units)) (OpC.or opC_eq (opC_cmp0 _)) ha hb (nomark _)
theorem cmp0_bl {o : Dv → Dv → Option Dv} {g : Bool → Bool} (h : ∀ x y d, o x y = some d → ∃ b, d = .bl b) (x y d : Dv) (e : orO o (oCmp0 g) x y = some d) : ∃ b, d = .bl b := by
  unfold orO at e
  split at e
  · rename_i d' hd
    cases e
    exact h _ _ _ hd
  · unfold oCmp0 at e
    split at e
    · cases e; exact ⟨_, rfl⟩
    · cases e
theorem rt_ne0 (hr : Room k X.A) (ha : RE X tb W a fa) (hb : RE X tb W b fb) : RT X tb W (.Compare a [.NotEq] [b] pos) (sT (sBin (orO oNe (oCmp0 (!·))) fa fb)) := rt_cmp (OpR.or (op_neD hr.units) (op_ne0 hr.units)) (OpC.or opC_ne (opC_cmp0 _)) (cmp0_bl oNe_bl) ha hb (nomark _)
theorem rt_eq0 (hr : Room k X.A) (ha : RE X tb W a fa) (hb : RE X tb W b fb) : RT X tb W (.Compare a [.Eq] [b] pos) (sT (sBin (orO oEq (oCmp0 id)) fa fb)) := rt_cmp (OpR.or (op_eqD hr.units) (op_eq0 hr.units)) (OpC.or opC_eq (opC_cmp0 _)) (cmp0_bl oEq_bl) ha hb (nomark _)
end
end EvL
end

section
set_option Elab.async false
set_option linter.all false
set_option maxRecDepth 100000
set_option maxHeartbeats 4000000
/-! E35: sum of a tuple -/
namespace EvL
open PySem PySem.Spec PyProof.Rows L2
section
variable {X : Cx}
def rSumT (K : PySem.W.Frag) : List V → Hp → VK → Prop := fun vs H Q => ∃ (a : Addr) (ns : List Int), vs = [V.ref a] ∧ SqT K H a (ns.map V.int) ∧ Q (.int ns.sum) H
theorem cr_sumT (hc : X.calm = true) : CallR X (.builtin "sum") (rSumT X.K) := by
  intro pins s σ H vs us Q I r h
  obtain ⟨a, ns, rfl, hs, q⟩ := h
  obtain ⟨its, rv, hl, _⟩ := I.tuple hs
  rw [Vals.ref1 r]
  have hi := rv.ints
  obtain ⟨xs, e⟩ := hi.allInts.items
  have hn : numsOf (intItems xs).toList = ns := by rw [← e]; exact hi.numsOf
  rw [nums_intItems] at hn
  rw [e] at hl
  refine PySem.W.ktm_sumG (I.ok.hd hc) hl fun h' tk t' hk => ⟨.int _, H, I.kept hk, ⟨_, rfl⟩, ?_⟩
  rw [preSum_eq, List.take_of_length_le (by simp), hn]
  exact q
/-- sum(xs) of a list or a tuple of ints -/
def oSumP : Dv → Option Dv
  | .lst xs => (intsD xs).bind fun ns => some (.int ns.sum)
  | .tup xs => (intsD xs).bind fun ns => some (.int ns.sum)
  | _ => none
theorem callC_sumP {tb : Tb} : CallC X tb (fun vs H Q => rSum X.K vs H Q ∨ rSumT X.K vs H Q) oSumP := by
  intro F ρ m H x v d Q o tx e k
  cases x <;> simp only [oSumP, Option.bind_eq_some_iff, Option.some.injEq, reduceCtorEq] at e
  · obtain ⟨ns, h1, rfl⟩ := e
    cases tx with
    | of tx =>
    cases tx with
    | @tup l xs vs h2 r1 =>
      have := ints_rep r1 h1
      subst this
      exact .inr ⟨l, ns, rfl, o.sub.sqt h2, k F H _ (.refl _ _) o (.int _)⟩
  · obtain ⟨ns, h1, rfl⟩ := e
    obtain ⟨l, vs, rfl, h2, r1⟩ := tx.sql o.sub
    have := ints_rep r1 h1
    subst this
    exact .inl ⟨l, ns, rfl, h2, k F H _ (.refl _ _) o (.int _)⟩
variable {tb : Tb} {W : WX} {e : Expr} {fa : Sem1} {pos p : Pos}
theorem re_sumP (hc : X.calm = true) (hg : Gl X "sum") (hm : X.mg "sum" = none) (ha : RE X tb W e fa) (hs : starEach [e] X.env = (false, eval e X.env) :: starEach [] X.env := by rfl) (hpl : (backTo pos (starEach [] X.env)).any (·.1) = false := by rfl) : RE X tb W (.Call (.Name "sum" p) [e] [] pos) (sUn oSumP fa) := re_b1 ((cr_sum hc).or (cr_sumT hc)) callC_sumP hg hm (by decide +kernel) ha (by decide) (by decide) hs hpl
end
end EvL
end

section
set_option Elab.async false
set_option linter.all false
set_option maxRecDepth 100000
set_option maxHeartbeats 8000000
namespace K59
open PySem PySem.Spec PyProof.Rows L2 EvL LamX
def top (i : Nat) : Stmt := PySem.Challenge.pw_gridbodies_k59_rounds_judged.main.body.getD i (.Pass ⟨0, 0, 0, 0⟩)
abbrev nCls : Nat := 4
def subC : Nat → Nat → Bool := fun i j => i == j
structure Fx (P : Program) (K : PySem.W.Frag) (mg : Str → Option Value) (fnA clA : Nat → Addr) : Prop where
  b_abs : mg "abs" = none
  b_all : mg "all" = none
  b_bool : mg "bool" = none
  b_enumerate : mg "enumerate" = none
  b_int : mg "int" = none
  b_isinstance : mg "isinstance" = none
  b_len : mg "len" = none
  b_list : mg "list" = none
  b_min : mg "min" = none
  b_range : mg "range" = none
  b_repr : mg "repr" = none
  b_sum : mg "sum" = none
  b_tuple : mg "tuple" = none
  b_zip : mg "zip" = none
  c_MOST_PLACE : ConI mg "MOST_PLACE" 1000
  c_MOST_ROUND : ConI mg "MOST_ROUND" 60
  e_BadNumber : Er1C P K mg (clA 0) "BadNumber" "value" "no number: "
  e_BadLot : Er1C P K mg (clA 1) "BadLot" "path" "no lot: "
  e_TooGreat : Er1C P K mg (clA 2) "TooGreat" "most" "more than is let: "
  e_Unlike : Er0C K mg (clA 3) "Unlike"
  exm : ∀ i j, i < nCls → j < nCls → PySem.W.exmOne K (.ref (clA i)) (.ref (clA j)) = some (subC i j)
  f_need_round : mg "need_round" = some (.ref (fnA 0))
  f_round_numbers : mg "round_numbers" = some (.ref (fnA 1))
  f_turns_of : mg "turns_of" = some (.ref (fnA 2))
  f_round_raised : mg "round_raised" = some (.ref (fnA 3))
  f_round_lowered : mg "round_lowered" = some (.ref (fnA 4))
abbrev st_is_integer : Stmt := top 7
abbrev N_is_integer : List Str := ["value"]
theorem sc_is_integer : FnScope N_is_integer ["value"] (defScope st_is_integer) := ⟨rfl, rfl, rfl, by decide +kernel, rfl, by decide +kernel, by decide +kernel⟩
def g_is_integer : SemS := (gRet (sAnd (sUn (oIs "int") (sVar 0)) (sNot (sUn (oIs "bool") (sVar 0)))))
def f_is_integer : Fs := fnS 1 1 g_is_integer
abbrev st_is_from : Stmt := top 8
abbrev N_is_from : List Str := ["value", "least", "most"]
theorem sc_is_from : FnScope N_is_from ["value", "least", "most"] (defScope st_is_from) := ⟨rfl, rfl, rfl, by decide +kernel, rfl, by decide +kernel, by decide +kernel⟩
def g_is_from : SemS := (gRet (sAnd (sCall f_is_integer (lCons (sVar 0) lNil)) (sChain oLe oLe (sVar 1) (sVar 0) (sVar 2))))
def f_is_from : Fs := fnS 3 3 g_is_from
abbrev st_is_pair : Stmt := top 12
abbrev N_is_pair : List Str := ["value", "one"]
theorem sc_is_pair : FnScope N_is_pair ["value"] (defScope st_is_pair) := ⟨rfl, rfl, rfl, by decide +kernel, rfl, by decide +kernel, by decide +kernel⟩
def g_is_pair : SemS := (gSeq (gIf (bOr (bNot (sT (sUn (oIs "tuple") (sVar 0)))) (sT (sBin oNe (sUn oLen (sVar 0)) (sC (.int 2))))) (gRet (sC (.bl false))) gNext) (gRet (sUn oAll (sF (fComp (iSeq (sVar 0)) (tgN 1) bYes (sCall f_is_from (lCons (sVar 1) (lCons (sBin oSub (sC (.int 0)) (sC (.int 1000))) (lCons (sC (.int 1000)) lNil)))) [1])))))
def f_is_pair : Fs := fnS 2 1 g_is_pair
abbrev st_next_pairs : Stmt := top 14
abbrev N_next_pairs : List Str := ["loop"]
theorem sc_next_pairs : FnScope N_next_pairs ["loop"] (defScope st_next_pairs) := ⟨rfl, rfl, rfl, by decide +kernel, rfl, by decide +kernel, by decide +kernel⟩
def g_next_pairs : SemS := (gRet (sF (fZip2 (sVar 0) (sBin oAddP (sSlP (sVar 0) (oYes (sC (.int 1))) oNo) (sSlP (sVar 0) oNo (oYes (sC (.int 1))))))))
def f_next_pairs : Fs := fnS 1 1 g_next_pairs
abbrev st_determinant : Stmt := top 13
abbrev N_determinant : List Str := ["near", "far"]
theorem sc_determinant : FnScope N_determinant ["near", "far"] (defScope st_determinant) := ⟨rfl, rfl, rfl, by decide +kernel, rfl, by decide +kernel, by decide +kernel⟩
def g_determinant : SemS := (gRet (sBin oSub (sBin oMulP (sBin oIx (sVar 0) (sC (.int 0))) (sBin oIx (sVar 1) (sC (.int 1)))) (sBin oMulP (sBin oIx (sVar 0) (sC (.int 1))) (sBin oIx (sVar 1) (sC (.int 0))))))
def f_determinant : Fs := fnS 2 2 g_determinant
abbrev st_round_fault : Stmt := top 15
abbrev N_round_fault : List Str := ["value", "wrong", "number", "pair", "near", "far"]
theorem sc_round_fault : FnScope N_round_fault ["value"] (defScope st_round_fault) := ⟨rfl, rfl, rfl, by decide +kernel, rfl, by decide +kernel, by decide +kernel⟩
def g_round_fault : SemS := (gSeq (gIf (bOr (bNot (sT (sUn (oIs "tuple") (sVar 0)))) (bNot (sT (sChain oLe oLe (sC (.int 3)) (sUn oLen (sVar 0)) (sC (.int 60)))))) (gRet (sTup lNil)) gNext) (gSeq (gNew 1 (fComp (iEnumS (sVar 0)) (tgTup 2 (tgCons (tgN 2) (tgCons (tgN 3) tgNil))) (bNot (sT (sCall f_is_pair (lCons (sVar 3) lNil)))) (sVar 2) [2, 3])) (gSeq (gIf (sT (sBin oEq (sVar 1) (sF (fLst lNil)))) (gNew 1 (fComp (iEnumS (sCall f_next_pairs (lCons (sVar 0) lNil))) (tgTup 2 (tgCons (tgN 2) (tgCons (tgTup 2 (tgCons (tgN 4) (tgCons (tgN 5) tgNil))) tgNil))) (sT (sBin oNe (sCall f_determinant (lCons (sVar 4) (lCons (sVar 5) lNil))) (sC (.int 1)))) (sVar 2) [2, 4, 5])) gNext) (gRet (sIf (sT (sBin oNe (sVar 1) (sF (fLst lNil)))) (sTup (lCons (sBin oIx (sVar 1) (sC (.int 0))) lNil)) (sC .non))))))
def f_round_fault : Fs := fnS 6 1 g_round_fault
abbrev st_need_round : Stmt := top 16
abbrev N_need_round : List Str := ["loop", "found"]
theorem sc_need_round : FnScope N_need_round ["loop"] (defScope st_need_round) := ⟨rfl, rfl, rfl, by decide +kernel, rfl, by decide +kernel, by decide +kernel⟩
def g_need_round : SemS := (gSeq (gSet 1 (sCall f_round_fault (lCons (sVar 0) lNil))) (gSeq (gIf (sT (sBin oNotN (sVar 1) (sC .non))) (gRaise 1 "path" (sVar 1)) gNext) (gRet (sVar 0))))
def f_need_round : Fs := fnS 2 1 g_need_round
abbrev st_numbers_in : Stmt := top 18
abbrev N_numbers_in : List Str := ["loop", "found", "spot", "pair", "before", "behind"]
theorem sc_numbers_in : FnScope N_numbers_in ["loop"] (defScope st_numbers_in) := ⟨rfl, rfl, rfl, by decide +kernel, rfl, by decide +kernel, by decide +kernel⟩
def g_numbers_in : SemS := (gSeq (gNew 1 (fLst lNil)) (gSeq (gFor (iEnumS (sVar 0)) (tgTup 2 (tgCons (tgN 2) (tgCons (tgN 3) tgNil))) (gSeq (gPar 4 5 (lCons (sBin oIx (sVar 0) (sBin oSub (sVar 2) (sC (.int 1)))) (lCons (sBin oIx (sVar 0) (sBin oMod (sBin oAddP (sVar 2) (sC (.int 1))) (sUn oLen (sVar 0)))) lNil))) (gApp 1 (sCall f_determinant (lCons (sVar 4) (lCons (sVar 5) lNil)))))) (gRet (sVar 1))))
def f_numbers_in : Fs := fnS 6 1 g_numbers_in
abbrev st_round_numbers : Stmt := top 19
abbrev N_round_numbers : List Str := ["loop"]
theorem sc_round_numbers : FnScope N_round_numbers ["loop"] (defScope st_round_numbers) := ⟨rfl, rfl, rfl, by decide +kernel, rfl, by decide +kernel, by decide +kernel⟩
def g_round_numbers : SemS := (gRet (sUn oTuple (sCall f_numbers_in (lCons (sCall f_need_round (lCons (sVar 0) lNil)) lNil))))
def f_round_numbers : Fs := fnS 1 1 g_round_numbers
abbrev st_goes_past : Stmt := top 20
abbrev N_goes_past : List Str := ["near", "far"]
theorem sc_goes_past : FnScope N_goes_past ["near", "far"] (defScope st_goes_past) := ⟨rfl, rfl, rfl, by decide +kernel, rfl, by decide +kernel, by decide +kernel⟩
def g_goes_past : SemS := (gRet (sIf (bAnd (sT (sBin oLt (sBin oIx (sVar 0) (sC (.int 1))) (sC (.int 0)))) (sT (sBin oGe (sBin oIx (sVar 1) (sC (.int 1))) (sC (.int 0))))) (sC (.int 1)) (sC (.int 0))))
def f_goes_past : Fs := fnS 2 2 g_goes_past
abbrev st_turns_of : Stmt := top 21
abbrev N_turns_of : List Str := ["loop", "near", "far"]
theorem sc_turns_of : FnScope N_turns_of ["loop"] (defScope st_turns_of) := ⟨rfl, rfl, rfl, by decide +kernel, rfl, by decide +kernel, by decide +kernel⟩
def g_turns_of : SemS := (gRet (sUn oSumP (sF (fComp (iSeq (sCall f_next_pairs (lCons (sCall f_need_round (lCons (sVar 0) lNil)) lNil))) (tgTup 2 (tgCons (tgN 1) (tgCons (tgN 2) tgNil))) bYes (sCall f_goes_past (lCons (sVar 1) (lCons (sVar 2) lNil))) [1, 2]))))
def f_turns_of : Fs := fnS 3 1 g_turns_of
abbrev st_need_place : Stmt := top 22
abbrev N_need_place : List Str := ["loop", "place"]
theorem sc_need_place : FnScope N_need_place ["loop", "place"] (defScope st_need_place) := ⟨rfl, rfl, rfl, by decide +kernel, rfl, by decide +kernel, by decide +kernel⟩
def g_need_place : SemS := (gSeq (gIf (bNot (sT (sCall f_is_from (lCons (sVar 1) (lCons (sC (.int 0)) (lCons (sBin oSub (sUn oLen (sCall f_need_round (lCons (sVar 0) lNil))) (sC (.int 1))) lNil)))))) (gRaise 0 "value" (sVar 1)) gNext) (gRet (sVar 1)))
def f_need_place : Fs := fnS 2 2 g_need_place
abbrev st_round_raised : Stmt := top 23
abbrev N_round_raised : List Str := ["loop", "place", "near", "far", "fresh"]
theorem sc_round_raised : FnScope N_round_raised ["loop", "place"] (defScope st_round_raised) := ⟨rfl, rfl, rfl, by decide +kernel, rfl, by decide +kernel, by decide +kernel⟩
def g_round_raised : SemS := (gSeq (gExpr (sCall f_need_place (lCons (sVar 0) (lCons (sVar 1) lNil)))) (gSeq (gAsg (sBin oIx (sCall f_next_pairs (lCons (sVar 0) lNil)) (sVar 1)) (tgTup 2 (tgCons (tgN 2) (tgCons (tgN 3) tgNil)))) (gSeq (gIf (sT (sBin oEq (sUn oLen (sVar 0)) (sC (.int 60)))) (gRaise 2 "most" (sC (.int 60))) gNext) (gSeq (gSet 4 (sTup (lCons (sBin oAddP (sBin oIx (sVar 2) (sC (.int 0))) (sBin oIx (sVar 3) (sC (.int 0)))) (lCons (sBin oAddP (sBin oIx (sVar 2) (sC (.int 1))) (sBin oIx (sVar 3) (sC (.int 1)))) lNil)))) (gSeq (gIf (bNot (sT (sCall f_is_pair (lCons (sVar 4) lNil)))) (gRaise 2 "most" (sC (.int 1000))) gNext) (gRet (sBin oAddP (sBin oAddP (sSlP (sVar 0) oNo (oYes (sBin oAddP (sVar 1) (sC (.int 1))))) (sTup (lCons (sVar 4) lNil))) (sSlP (sVar 0) (oYes (sBin oAddP (sVar 1) (sC (.int 1)))) oNo))))))))
def f_round_raised : Fs := fnS 5 2 g_round_raised
abbrev st_round_lowered : Stmt := top 24
abbrev N_round_lowered : List Str := ["loop", "place"]
theorem sc_round_lowered : FnScope N_round_lowered ["loop", "place"] (defScope st_round_lowered) := ⟨rfl, rfl, rfl, by decide +kernel, rfl, by decide +kernel, by decide +kernel⟩
def g_round_lowered : SemS := (gSeq (gExpr (sCall f_need_place (lCons (sVar 0) (lCons (sVar 1) lNil)))) (gSeq (gIf (bOr (sT (sBin oEq (sUn oLen (sVar 0)) (sC (.int 3)))) (sT (sBin oNe (sBin oIx (sCall f_numbers_in (lCons (sVar 0) lNil)) (sVar 1)) (sC (.int 1))))) (gRaise0 3) gNext) (gRet (sBin oAddP (sSlP (sVar 0) oNo (oYes (sVar 1))) (sSlP (sVar 0) (oYes (sBin oAddP (sVar 1) (sC (.int 1)))) oNo)))))
def f_round_lowered : Fs := fnS 2 2 g_round_lowered
abbrev nDisp : Nat := 5
def disp : Nat → Fs
  | 0 => f_need_round
  | 1 => f_round_numbers
  | 2 => f_turns_of
  | 3 => f_round_raised
  | 4 => f_round_lowered
  | _ => fun _ _ => .no
abbrev st__law_begun : Stmt := top 26
abbrev N__law_begun : List Str := ["script", "turn", "cells", "great", "seed", "cell"]
theorem sc__law_begun : FnScope N__law_begun ["script", "turn"] (defScope st__law_begun) := ⟨rfl, rfl, rfl, by decide +kernel, rfl, by decide +kernel, by decide +kernel⟩
def g__law_begun : SemS := (gSeq (gSet 2 (sBin oAddP (sSlP (sVar 0) (oYes (sVar 1)) oNo) (sSlP (sVar 0) oNo (oYes (sVar 1))))) (gSeq (gNew 3 (fComp (iSeq (sVar 0)) (tgN 5) (sT (sBin oGe (sVar 5) (sBin oPow (sC (.int 10)) (sC (.int 18))))) (sVar 5) [5])) (gSeq (gSet 4 (sBin oAddP (sC (.int 91)) (sVar 1))) (gSeq (gFor (iSeq (sVar 2)) (tgN 5) (gSet 4 (sBin oMod (sUn oInt (sBin oAddP (sBin oMulP (sVar 4) (sC (.int 48271))) (sVar 5))) (sC (.int 2147483647))))) (gRet (sDisp ["left", "seed", "cells", "spot"] (lCons (sIf (sT (sBin oLt (sVar 1) (sUn oLen (sVar 3)))) (sBin oIx (sVar 3) (sVar 1)) (sC (.int 0))) (lCons (sVar 4) (lCons (sBin oAddP (sVar 2) (sF (fLst (lCons (sBin oAddP (sBin oMulP (sC (.int 61)) (sVar 1)) (sC (.int 17))) lNil)))) (lCons (sC (.int 0)) lNil))))))))))
def f__law_begun : Fs := fnS 6 2 g__law_begun
abbrev st__law_draw : Stmt := top 27
abbrev N__law_draw : List Str := ["m", "span", "found", "spot", "cells", "extra", "cell", "blend"]
theorem sc__law_draw : FnScope N__law_draw ["m", "span"] (defScope st__law_draw) := ⟨rfl, rfl, rfl, by decide +kernel, rfl, by decide +kernel, by decide +kernel⟩
def g__law_draw : SemS := (gSeq (gIf (sT (sBin oGt (sUn (oDGet "left") (sVar 0)) (sC (.int 0)))) (gSeq (gSet 2 (sBin oMod (sUn oInt (sUn (oDGet "left") (sVar 0))) (sVar 1))) (gSeq (gPutD 0 "left" (sBin oDiv (sUn (oDGet "left") (sVar 0)) (sVar 1))) (gRet (sVar 2)))) gNext) (gSeq (gSet 3 (sUn (oDGet "spot") (sVar 0))) (gSeq (gPutD 0 "spot" (sBin oAddP (sVar 3) (sC (.int 1)))) (gSeq (gPar 4 5 (lCons (sUn (oDGet "cells") (sVar 0)) (lCons (sBin oAddP (sUn (oDGet "seed") (sVar 0)) (sBin oMulP (sBin oMulP (sC (.int 40503)) (sVar 3)) (sVar 3))) lNil))) (gSeq (gSet 6 (sBin oIx (sVar 4) (sBin oMod (sUn oInt (sVar 3)) (sUn oLen (sVar 4))))) (gSeq (gSet 7 (sBin oMod (sUn oInt (sBin oAddP (sBin oMulP (sVar 6) (sBin oAddP (sBin oMulP (sC (.int 2)) (sVar 3)) (sC (.int 3)))) (sVar 5))) (sC (.int 2147483647)))) (gSeq (gSet 7 (sBin oMod (sUn oInt (sBin oAddP (sBin oAddP (sBin oMulP (sVar 7) (sVar 7)) (sBin oMulP (sC (.int 69621)) (sVar 3))) (sUn (oDGet "seed") (sVar 0)))) (sC (.int 2147483629)))) (gRet (sBin oMod (sBin oDiv (sBin oMod (sUn oInt (sBin oAddP (sBin oMulP (sVar 7) (sC (.int 48271))) (sVar 3))) (sC (.int 2147483647))) (sC (.int 11))) (sVar 1))))))))))
def f__law_draw : Fs := fnS 8 2 g__law_draw
abbrev st__law_of : Stmt := top 28
abbrev N__law_of : List Str := ["m", "some"]
theorem sc__law_of : FnScope N__law_of ["m", "some"] (defScope st__law_of) := ⟨rfl, rfl, rfl, by decide +kernel, rfl, by decide +kernel, by decide +kernel⟩
def g__law_of : SemS := (gRet (sBin oIx (sVar 1) (sCall f__law_draw (lCons (sVar 0) (lCons (sUn oLen (sVar 1)) lNil)))))
def f__law_of : Fs := fnS 2 2 g__law_of
abbrev st__law_shuffled : Stmt := top 30
abbrev N__law_shuffled : List Str := ["m", "count", "left", "found", "turn", "one", "twin"]
theorem sc__law_shuffled : FnScope N__law_shuffled ["m", "count"] (defScope st__law_shuffled) := ⟨rfl, rfl, rfl, by decide +kernel, rfl, by decide +kernel, by decide +kernel⟩
def g__law_shuffled : SemS := (gSeq (gPar 2 3 (lCons (sF (fRange1 (sVar 1))) (lCons (sNew (fLst lNil)) lNil))) (gSeq (gFor (iRange1 (sVar 1)) (tgN 4) (gSeq (gSet 5 (sCall f__law_of (lCons (sVar 0) (lCons (sVar 2) lNil)))) (gSeq (gNew 2 (fComp (iSeq (sVar 2)) (tgN 6) (sT (sBin oNe (sVar 6) (sVar 5))) (sVar 6) [6])) (gApp 3 (sVar 5))))) (gRet (sUn oTuple (sVar 3)))))
def f__law_shuffled : Fs := fnS 7 2 g__law_shuffled
abbrev st__law_some_turn : Stmt := top 31
abbrev N__law_some_turn : List Str := ["m", "deep", "found", "again", "here", "there", "by", "k", "j", "one", "two"]
theorem sc__law_some_turn : FnScope N__law_some_turn ["m", "deep"] (defScope st__law_some_turn) := ⟨rfl, rfl, rfl, by decide +kernel, rfl, by decide +kernel, by decide +kernel⟩
def g__law_some_turn : SemS := (gSeq (gNew 2 (fComp (iRange1 (sVar 1)) (tgN 7) bYes (sF (fComp (iRange1 (sVar 1)) (tgN 8) bYes (sUn oInt (sBin oEq (sVar 7) (sVar 8))) [8])) [7])) (gSeq (gFor (iRange1 (sIf (sT (sBin oGt (sVar 1) (sC (.int 1)))) (sBin oMulP (sC (.int 2)) (sVar 1)) (sC (.int 0)))) (tgN 3) (gSeq (gPar 4 5 (lCons (sCall f__law_draw (lCons (sVar 0) (lCons (sVar 1) lNil))) (lCons (sCall f__law_draw (lCons (sVar 0) (lCons (sVar 1) lNil))) lNil))) (gIf (sT (sBin oNe (sVar 4) (sVar 5))) (gSeq (gSet 6 (sBin oSub (sCall f__law_draw (lCons (sVar 0) (lCons (sC (.int 3)) lNil))) (sC (.int 1)))) (gPutL 2 (sVar 4) (sF (fComp (EvL.iZip (sBin oIx (sVar 2) (sVar 4)) (sBin oIx (sVar 2) (sVar 5))) (tgTup 2 (tgCons (tgN 9) (tgCons (tgN 10) tgNil))) bYes (sBin oAddP (sVar 9) (sBin oMulP (sVar 6) (sVar 10))) [9, 10])))) gNext))) (gSeq (gNew 2 (fComp (iSeq (sCall f__law_shuffled (lCons (sVar 0) (lCons (sVar 1) lNil)))) (tgN 7) bYes (sBin oIx (sVar 2) (sVar 7)) [7])) (gSeq (gIf (sT (sBin oEq (sCall f__law_draw (lCons (sVar 0) (lCons (sC (.int 2)) lNil))) (sC (.int 0)))) (gPutL 2 (sC (.int 0)) (sF (fComp (iSeq (sBin oIx (sVar 2) (sC (.int 0)))) (tgN 9) bYes (sUn oNeg (sVar 9)) [9]))) gNext) (gRet (sUn oTuple (sF (fComp (iSeq (sVar 2)) (tgN 9) bYes (sUn oTuple (sVar 9)) [9]))))))))
def f__law_some_turn : Fs := fnS 11 2 g__law_some_turn
abbrev st__law_of_two : Stmt := top 34
abbrev N__law_of_two : List Str := ["near", "far"]
theorem sc__law_of_two : FnScope N__law_of_two ["near", "far"] (defScope st__law_of_two) := ⟨rfl, rfl, rfl, by decide +kernel, rfl, by decide +kernel, by decide +kernel⟩
def g__law_of_two : SemS := (gRet (sBin oSub (sBin oMulP (sBin oIx (sVar 0) (sC (.int 0))) (sBin oIx (sVar 1) (sC (.int 1)))) (sBin oMulP (sBin oIx (sVar 0) (sC (.int 1))) (sBin oIx (sVar 1) (sC (.int 0))))))
def f__law_of_two : Fs := fnS 2 2 g__law_of_two
abbrev st__law_moved : Stmt := top 32
abbrev N__law_moved : List Str := ["point_so", "turn_so", "shift_so", "line_so", "k", "one", "two"]
theorem sc__law_moved : FnScope N__law_moved ["point_so", "turn_so", "shift_so"] (defScope st__law_moved) := ⟨rfl, rfl, rfl, by decide +kernel, rfl, by decide +kernel, by decide +kernel⟩
def g__law_moved : SemS := (gRet (sUn oTuple (sF (fComp (EvL.iZip (sVar 1) (sVar 2)) (tgTup 2 (tgCons (tgN 3) (tgCons (tgN 4) tgNil))) bYes (sBin oAddP (sUn oSumP (sF (fComp (EvL.iZip (sVar 3) (sVar 0)) (tgTup 2 (tgCons (tgN 5) (tgCons (tgN 6) tgNil))) bYes (sBin oMulP (sVar 5) (sVar 6)) [5, 6]))) (sVar 4)) [3, 4]))))
def f__law_moved : Fs := fnS 7 3 g__law_moved
abbrev st__law_some_round : Stmt := top 35
abbrev N__law_some_round : List Str := ["m", "k", "found", "again", "at", "near", "far", "top", "low", "one"]
theorem sc__law_some_round : FnScope N__law_some_round ["m"] (defScope st__law_some_round) := ⟨rfl, rfl, rfl, by decide +kernel, rfl, by decide +kernel, by decide +kernel⟩
def g__law_some_round : SemS := (gSeq (gSet 1 (sBin oSub (sCall f__law_draw (lCons (sVar 0) (lCons (sC (.int 7)) lNil))) (sC (.int 3)))) (gSeq (gSet 2 (sCall f__law_of (lCons (sVar 0) (lCons (sF (fLst (lCons (sTup (lCons (sTup (lCons (sC (.int 1)) (lCons (sC (.int 0)) lNil))) (lCons (sTup (lCons (sC (.int 0)) (lCons (sC (.int 1)) lNil))) (lCons (sTup (lCons (sUn oNeg (sC (.int 1))) (lCons (sUn oNeg (sC (.int 1))) lNil))) lNil)))) (lCons (sTup (lCons (sTup (lCons (sC (.int 1)) (lCons (sC (.int 0)) lNil))) (lCons (sTup (lCons (sC (.int 0)) (lCons (sC (.int 1)) lNil))) (lCons (sTup (lCons (sUn oNeg (sC (.int 1))) (lCons (sVar 1) lNil))) (lCons (sTup (lCons (sC (.int 0)) (lCons (sUn oNeg (sC (.int 1))) lNil))) lNil))))) lNil)))) lNil)))) (gSeq (gFor (iRange1 (sCall f__law_draw (lCons (sVar 0) (lCons (sC (.int 6)) lNil)))) (tgN 3) (gSeq (gSet 4 (sCall f__law_draw (lCons (sVar 0) (lCons (sUn oLen (sVar 2)) lNil)))) (gSeq (gPar 5 6 (lCons (sBin oIx (sVar 2) (sVar 4)) (lCons (sBin oIx (sBin oAddP (sVar 2) (sSlP (sVar 2) oNo (oYes (sC (.int 1))))) (sBin oAddP (sVar 4) (sC (.int 1)))) lNil))) (gSet 2 (sBin oAddP (sBin oAddP (sSlP (sVar 2) oNo (oYes (sBin oAddP (sVar 4) (sC (.int 1))))) (sTup (lCons (sTup (lCons (sBin oAddP (sBin oIx (sVar 5) (sC (.int 0))) (sBin oIx (sVar 6) (sC (.int 0)))) (lCons (sBin oAddP (sBin oIx (sVar 5) (sC (.int 1))) (sBin oIx (sVar 6) (sC (.int 1)))) lNil))) lNil))) (sSlP (sVar 2) (oYes (sBin oAddP (sVar 4) (sC (.int 1)))) oNo)))))) (gSeq (gSet 2 (sBin oMulP (sVar 2) (sBin oAddP (sC (.int 1)) (sCall f__law_draw (lCons (sVar 0) (lCons (sC (.int 3)) lNil)))))) (gSeq (gAsg (sTup (lCons (sCall f__law_draw (lCons (sVar 0) (lCons (sUn oLen (sVar 2)) lNil))) (lCons (sCall f__law_some_turn (lCons (sVar 0) (lCons (sC (.int 2)) lNil))) lNil))) (tgTup 2 (tgCons (tgN 4) (tgCons (tgTup 2 (tgCons (tgN 7) (tgCons (tgN 8) tgNil))) tgNil)))) (gSeq (gIf (sT (sBin oLt (sCall f__law_of_two (lCons (sVar 7) (lCons (sVar 8) lNil))) (sC (.int 0)))) (gAsg (sTup (lCons (sVar 8) (lCons (sVar 7) lNil))) (tgTup 2 (tgCons (tgN 7) (tgCons (tgN 8) tgNil)))) gNext) (gRet (sUn oTuple (sF (fComp (iSeq (sBin oAddP (sSlP (sVar 2) (oYes (sVar 4)) oNo) (sSlP (sVar 2) oNo (oYes (sVar 4))))) (tgN 9) bYes (sCall f__law_moved (lCons (sVar 9) (lCons (sTup (lCons (sVar 7) (lCons (sVar 8) lNil))) (lCons (sTup (lCons (sC (.int 0)) (lCons (sC (.int 0)) lNil))) lNil)))) [9]))))))))))
def f__law_some_round : Fs := fnS 10 1 g__law_some_round
abbrev st__law_like : Stmt := top 29
abbrev N__law_like : List Str := ["told", "due"]
theorem sc__law_like : FnScope N__law_like ["told", "due"] (defScope st__law_like) := ⟨rfl, rfl, rfl, by decide +kernel, rfl, by decide +kernel, by decide +kernel⟩
def g__law_like : SemS := (gRet (sAnd (sBin (orO oEq oEqX) (sVar 0) (sVar 1)) (sBin oEqS (sElse (sUn oRepr (sVar 0)) (sUn oReprX (sVar 0))) (sElse (sUn oRepr (sVar 1)) (sUn oReprX (sVar 1))))))
def f__law_like : Fs := fnS 2 2 g__law_like
abbrev st__law_quarter : Stmt := top 37
abbrev N__law_quarter : List Str := ["one"]
theorem sc__law_quarter : FnScope N__law_quarter ["one"] (defScope st__law_quarter) := ⟨rfl, rfl, rfl, by decide +kernel, rfl, by decide +kernel, by decide +kernel⟩
def g__law_quarter : SemS := (gSeq (gIf (bAnd (sT (sBin oGt (sBin oIx (sVar 0) (sC (.int 0))) (sC (.int 0)))) (sT (sBin oGe (sBin oIx (sVar 0) (sC (.int 1))) (sC (.int 0))))) (gRet (sC (.int 0))) gNext) (gSeq (gIf (bAnd (sT (sBin oLe (sBin oIx (sVar 0) (sC (.int 0))) (sC (.int 0)))) (sT (sBin oGt (sBin oIx (sVar 0) (sC (.int 1))) (sC (.int 0))))) (gRet (sC (.int 1))) gNext) (gRet (sIf (sT (sBin oLt (sBin oIx (sVar 0) (sC (.int 0))) (sC (.int 0)))) (sC (.int 2)) (sC (.int 3))))))
def f__law_quarter : Fs := fnS 1 1 g__law_quarter
abbrev st_is_round : Stmt := top 17
abbrev N_is_round : List Str := ["loop"]
theorem sc_is_round : FnScope N_is_round ["loop"] (defScope st_is_round) := ⟨rfl, rfl, rfl, by decide +kernel, rfl, by decide +kernel, by decide +kernel⟩
def g_is_round : SemS := (gRet (sBin oIsN (sCall f_round_fault (lCons (sVar 0) lNil)) (sC .non)))
def f_is_round : Fs := fnS 1 1 g_is_round
abbrev st__law_right : Stmt := top 38
abbrev N__law_right : List Str := ["thing", "told", "many", "k", "before", "behind", "quarters", "less", "one"]
theorem sc__law_right : FnScope N__law_right ["thing"] (defScope st__law_right) := ⟨rfl, rfl, rfl, by decide +kernel, rfl, by decide +kernel, by decide +kernel⟩
def g__law_right : SemS := (gSeq (gAsg (sTup (lCons (sCall f_round_numbers (lCons (sVar 0) lNil)) (lCons (sUn oLen (sVar 0)) lNil))) (tgTup 2 (tgCons (tgN 1) (tgCons (tgN 2) tgNil)))) (gSeq (gIf (bOr (bNot (sT (sUn (oIs "tuple") (sVar 1)))) (sT (sBin oNe (sUn oLen (sVar 1)) (sVar 2)))) (gRet (sC (.bl false))) gNext) (gSeq (gFor (iRange1 (sVar 2)) (tgN 3) (gSeq (gPar 4 5 (lCons (sBin oIx (sVar 0) (sBin oSub (sVar 3) (sC (.int 1)))) (lCons (sBin oIx (sVar 0) (sBin oSub (sBin oAddP (sVar 3) (sC (.int 1))) (sVar 2))) lNil))) (gIf (bNot (sT (sCall f__law_like (lCons (sUn oTuple (sF (fComp (iSeq (sBin oIx (sVar 0) (sVar 3))) (tgN 8) bYes (sBin oMulP (sBin oIx (sVar 1) (sVar 3)) (sVar 8)) [8]))) (lCons (sTup (lCons (sBin oAddP (sBin oIx (sVar 4) (sC (.int 0))) (sBin oIx (sVar 5) (sC (.int 0)))) (lCons (sBin oAddP (sBin oIx (sVar 4) (sC (.int 1))) (sBin oIx (sVar 5) (sC (.int 1)))) lNil))) lNil))))) (gRet (sC (.bl false))) gNext))) (gSeq (gSet 6 (sC (.int 0))) (gSeq (gFor (iRange1 (sVar 2)) (tgN 3) (gSeq (gSet 7 (sBin oSub (sCall f__law_quarter (lCons (sBin oIx (sVar 0) (sVar 3)) lNil)) (sCall f__law_quarter (lCons (sBin oIx (sVar 0) (sBin oSub (sVar 3) (sC (.int 1)))) lNil)))) (gSet 6 (sBin oSub (sBin oAddP (sVar 6) (sVar 7)) (sBin oMulP (sC (.int 4)) (sBin oDiv (sVar 7) (sC (.int 4)))))))) (gSeq (gIf (bNot (sT (sCall f__law_like (lCons (sF (fLst (lCons (sCall f_need_round (lCons (sVar 0) lNil)) (lCons (sCall f_is_round (lCons (sVar 0) lNil)) (lCons (sCall f_turns_of (lCons (sVar 0) lNil)) lNil))))) (lCons (sF (fLst (lCons (sVar 0) (lCons (sC (.bl true)) (lCons (sBin oDiv (sVar 6) (sC (.int 4))) lNil))))) lNil))))) (gRet (sC (.bl false))) gNext) (gRet (sAnd (sBin oEq (sBin oSub (sVar 6) (sBin oMulP (sC (.int 4)) (sBin oDiv (sVar 6) (sC (.int 4))))) (sC (.int 0))) (sBin oEq (sUn oSumP (sVar 1)) (sBin oSub (sBin oMulP (sC (.int 3)) (sVar 2)) (sBin oMulP (sC (.int 3)) (sVar 6))))))))))))
def f__law_right : Fs := fnS 9 1 g__law_right
abbrev st__law_bent : Stmt := top 39
abbrev N__law_bent : List Str := ["m", "thing", "at", "way"]
theorem sc__law_bent : FnScope N__law_bent ["m", "thing"] (defScope st__law_bent) := ⟨rfl, rfl, rfl, by decide +kernel, rfl, by decide +kernel, by decide +kernel⟩
def g__law_bent (self : Fs) : SemS := (gSeq (gIf (bAnd (sT (sUn (oIs "tuple") (sVar 1))) (bAnd (sT (sBin (orO oNe (oCmp0 (!·))) (sVar 1) (sTup lNil))) (sT (sBin oGt (sCall f__law_draw (lCons (sVar 0) (lCons (sC (.int 6)) lNil))) (sC (.int 0)))))) (gSeq (gPar 2 3 (lCons (sCall f__law_draw (lCons (sVar 0) (lCons (sUn oLen (sVar 1)) lNil))) (lCons (sCall f__law_draw (lCons (sVar 0) (lCons (sC (.int 6)) lNil))) lNil))) (gSeq (gIf (sT (sBin oLt (sVar 3) (sC (.int 2)))) (gRet (sBin oAddP (sBin oAddP (sSlP (sVar 1) oNo (oYes (sVar 2))) (sBin oMulQ (sSlP (sVar 1) (oYes (sVar 2)) (oYes (sBin oAddP (sVar 2) (sC (.int 1))))) (sBin oMulP (sC (.int 2)) (sVar 3)))) (sSlP (sVar 1) (oYes (sBin oAddP (sVar 2) (sC (.int 1)))) oNo))) gNext) (gSeq (gIf (sT (sBin oEq (sVar 3) (sC (.int 2)))) (gRet (sBin oAddP (sSlP (sVar 1) oNo (oYes (sVar 2))) (sRevP (sSlP (sVar 1) (oYes (sVar 2)) oNo)))) gNext) (gRet (sBin oAddP (sBin oAddP (sSlP (sVar 1) oNo (oYes (sVar 2))) (sTup (lCons (sCall self (lCons (sVar 0) (lCons (sBin oIx (sVar 1) (sVar 2)) lNil))) lNil))) (sSlP (sVar 1) (oYes (sBin oAddP (sVar 2) (sC (.int 1)))) oNo)))))) gNext) (gRet (sCall f__law_of (lCons (sVar 0) (lCons (sF (fLst (lCons (sC .non) (lCons (sC (.bl true)) (lCons (sC (.bl false)) (lCons (sC (.int 0)) (lCons (sC (.int 1)) (lCons (sUn oNeg (sC (.int 1))) (lCons (sC (.int 2)) (lCons (sC (.int 1000)) (lCons (sC (.int 1001)) (lCons (sUn oNeg (sC (.int 1001))) (lCons (sC (.str "1")) (lCons (sTup lNil) (lCons (sTup (lCons (sC (.int 0)) (lCons (sC (.int 0)) lNil))) (lCons (sTup (lCons (sC (.int 1)) (lCons (sC (.int 0)) lNil))) (lCons (sTup (lCons (sC (.int 0)) (lCons (sC (.int 1)) lNil))) (lCons (sTup (lCons (sC (.int 1)) (lCons (sC (.int 1)) (lCons (sC (.int 1)) lNil)))) (lCons (sF (fLst (lCons (sC (.int 1)) (lCons (sC (.int 0)) lNil)))) (lCons (sF (fLst lNil)) (lCons (sC (.dic [])) lNil))))))))))))))))))))) lNil)))))
def f__law_bent : Nat → Fs
  | 0 => fun _ _ => .no
  | k + 1 => fnS 4 2 (g__law_bent (f__law_bent k))
abbrev fuel__law_bent : Nat := 9
abbrev st__law_fault : Stmt := top 36
abbrev N__law_fault : List Str := ["thing", "k", "one", "loose", "two"]
theorem sc__law_fault : FnScope N__law_fault ["thing"] (defScope st__law_fault) := ⟨rfl, rfl, rfl, by decide +kernel, rfl, by decide +kernel, by decide +kernel⟩
def g__law_fault : SemS := (gSeq (gIf (bOr (bNot (sT (sUn (oIs "tuple") (sVar 0)))) (bNot (sT (sChain oLe oLe (sC (.int 3)) (sUn oLen (sVar 0)) (sC (.int 60)))))) (gRet (sTup lNil)) gNext) (gSeq (gFor (iEnumS (sVar 0)) (tgTup 2 (tgCons (tgN 1) (tgCons (tgN 2) tgNil))) (gSeq (gIf (bOr (bNot (sT (sUn (oIs "tuple") (sVar 2)))) (sT (sBin oNe (sUn oLen (sVar 2)) (sC (.int 2))))) (gRet (sTup (lCons (sVar 1) lNil))) gNext) (gIf (sT (sBin oNe (sF (fComp (iSeq (sVar 2)) (tgN 4) (bOr (bNot (sT (sUn (oIs "int") (sVar 4)))) (bOr (sT (sUn (oIs "bool") (sVar 4))) (sT (sBin oGt (sUn oAbs (sVar 4)) (sC (.int 1000)))))) (sC (.int 1)) [4])) (sF (fLst lNil)))) (gRet (sTup (lCons (sVar 1) lNil))) gNext))) (gSeq (gNew 3 (fComp (iRange1 (sUn oLen (sVar 0))) (tgN 1) (sT (sBin oNe (sCall f__law_of_two (lCons (sBin oIx (sVar 0) (sVar 1)) (lCons (sBin oIx (sVar 0) (sBin oSub (sBin oAddP (sVar 1) (sC (.int 1))) (sUn oLen (sVar 0)))) lNil))) (sC (.int 1)))) (sVar 1) [1])) (gRet (sIf (sT (sBin oNe (sVar 3) (sF (fLst lNil)))) (sTup (lCons (sBin oIx (sVar 3) (sC (.int 0))) lNil)) (sC .non))))))
def f__law_fault : Fs := fnS 5 1 g__law_fault
abbrev st__law_heard : Stmt := top 33
abbrev N__law_heard : List Str := ["call", "error"]
theorem sc__law_heard : FnScope N__law_heard ["call"] (defScope st__law_heard) := ⟨rfl, rfl, rfl, by decide +kernel, rfl, by decide +kernel, by decide +kernel⟩
def g__law_heard (clo : Store → Rs Sv) : SemS := (gTry nCls subC (gRet (sF (fLst (lCons (sClo clo) lNil)))) [(1, .fld 1 "lot" "path"), (0, .fld 1 "number" "value")])
abbrev st_law : Stmt := top 40
abbrev N_law : List Str := ["script", "turn", "m", "thing", "again", "bent", "fault", "told", "odd", "three", "four", "due", "call", "one"]
def lb_law_0 : LEn := lamE (defScope st_law) (xi (xi (sxi (ssi (ssi (sli (defBody st_law) 0) 3) 5) 0) 0) 1) (none)
def lb_law_1 : LEn := lamE (defScope st_law) (xi (xi (xi (sxi (ssi (ssi (sli (defBody st_law) 0) 3) 6) 0) 1) 0) 1) (some "a")
def lb_law_2 : LEn := lamE (defScope st_law) (xi (xi (xi (xi (sxi (ssi (sli (defBody st_law) 0) 5) 0) 0) 1) 0) 1) (none)
def lb_law_3 : LEn := lamE (defScope st_law) (xi (xi (xi (sxi (sli (defBody st_law) 4) 0) 1) 0) 1) (none)
abbrev L_law : List LEn := []
abbrev nL_law : Nat := 0
def lamS_law : Nat → Sem1
  | _ => fun _ _ => .no
theorem sc_law : FnScope N_law ["script"] (defScope st_law) := ⟨rfl, rfl, rfl, by decide +kernel, rfl, by decide +kernel, by decide +kernel⟩
def g_law : SemS := (gSeq (gFor (iRange1 (sBin oAddP (sC (.int 1)) (sTwo (fun i j => if j < i then j else i) (sC (.int 2)) (sUn oLen (sVar 0))))) (tgN 1) (gSeq (gSet 2 (sCall f__law_begun (lCons (sVar 0) (lCons (sVar 1) lNil)))) (gSeq (gSet 3 (sCall f__law_some_round (lCons (sVar 2) lNil))) (gSeq (gIf (bNot (sT (sCall f__law_right (lCons (sVar 3) lNil)))) (gRet (sC (.bl false))) gNext) (gSeq (gFor (iRange1 (sC (.int 5))) (tgN 4) (gSeq (gSet 5 (sCall (f__law_bent fuel__law_bent) (lCons (sVar 2) (lCons (sVar 3) lNil)))) (gSeq (gSet 5 (sIf (sT (sBin oEq (sVar 4) (sC (.int 4)))) (sCall (f__law_bent fuel__law_bent) (lCons (sVar 2) (lCons (sVar 5) lNil))) (sVar 5))) (gSeq (gSet 6 (sCall f__law_fault (lCons (sVar 5) lNil))) (gSeq (gIf (bNot (sT (sCall f__law_like (lCons (sCall f_is_round (lCons (sVar 5) lNil)) (lCons (sBin oIsN (sVar 6) (sC .non)) lNil))))) (gRet (sC (.bl false))) gNext) (gSeq (gIf (sT (sBin oIsN (sVar 6) (sC .non))) (gSeq (gIf (bNot (sT (sCall f__law_right (lCons (sVar 5) lNil)))) (gRet (sC (.bl false))) gNext) gCont) gNext) (gSeq (gNew 7 (fComp (iSeq (sTup (lCons (sC (.fn 0)) (lCons (sC (.fn 1)) (lCons (sC (.fn 2)) lNil))))) (tgN 12) bYes (sHeardB 2 g__law_heard (sCallL 12 nDisp disp (lCons (sVar 5) lNil))) [12])) (gSeq (gSet 7 (sBin oAddP (sVar 7) (sF (fComp (iSeq (sTup (lCons (sC (.fn 3)) (lCons (sC (.fn 4)) lNil)))) (tgN 12) bYes (sHeardB 2 g__law_heard (sCallL 12 nDisp disp (lCons (sVar 5) (lCons (sC .non) lNil)))) [12])))) (gIf (bNot (sT (sCall f__law_like (lCons (sVar 7) (lCons (sBin oMulP (sF (fLst (lCons (sTup (lCons (sC (.str "lot")) (lCons (sVar 6) lNil))) lNil))) (sC (.int 5))) lNil))))) (gRet (sC (.bl false))) gNext))))))))) (gSeq (gSet 8 (sCall f__law_of (lCons (sVar 2) (lCons (sF (fLst (lCons (sC .non) (lCons (sUn oNeg (sC (.int 1))) (lCons (sUn oLen (sVar 3)) (lCons (sC (.bl true)) (lCons (sC (.str "0")) (lCons (sTup (lCons (sC (.int 0)) lNil)) (lCons (sC (.dic [])) lNil))))))))) lNil)))) (gIf (bNot (sT (sCall f__law_like (lCons (sF (fComp (iSeq (sTup (lCons (sC (.fn 3)) (lCons (sC (.fn 4)) lNil)))) (tgN 12) bYes (sHeardB 2 g__law_heard (sCallL 12 nDisp disp (lCons (sVar 3) (lCons (sVar 8) lNil)))) [12])) (lCons (sBin oMulP (sF (fLst (lCons (sTup (lCons (sC (.str "number")) (lCons (sVar 8) lNil))) lNil))) (sC (.int 2))) lNil))))) (gRet (sC (.bl false))) gNext))))))) (gSeq (gAsg (sTup (lCons (sTup (lCons (sTup (lCons (sC (.int 1)) (lCons (sC (.int 0)) lNil))) (lCons (sTup (lCons (sC (.int 0)) (lCons (sC (.int 1)) lNil))) (lCons (sTup (lCons (sUn oNeg (sC (.int 1))) (lCons (sUn oNeg (sC (.int 1))) lNil))) lNil)))) (lCons (sTup (lCons (sTup (lCons (sC (.int 1)) (lCons (sC (.int 0)) lNil))) (lCons (sTup (lCons (sC (.int 0)) (lCons (sC (.int 1)) lNil))) (lCons (sTup (lCons (sUn oNeg (sC (.int 1))) (lCons (sC (.int 5)) lNil))) (lCons (sTup (lCons (sC (.int 0)) (lCons (sUn oNeg (sC (.int 1))) lNil))) lNil))))) lNil))) (tgTup 2 (tgCons (tgN 9) (tgCons (tgN 10) tgNil)))) (gSeq (gSet 7 (sF (fLst (lCons (sCall f_round_numbers (lCons (sVar 9) lNil)) (lCons (sCall f_turns_of (lCons (sVar 9) lNil)) (lCons (sCall f_round_numbers (lCons (sVar 10) lNil)) (lCons (sCall f_turns_of (lCons (sBin oMulP (sVar 10) (sC (.int 15))) lNil)) (lCons (sCall f_is_round (lCons (sBin oMulP (sVar 10) (sC (.int 16))) lNil)) (lCons (sCall f_turns_of (lCons (sBin oMulP (sVar 9) (sC (.int 20))) lNil)) lNil))))))))) (gSeq (gSet 11 (sF (fLst (lCons (sTup (lCons (sUn oNeg (sC (.int 1))) (lCons (sUn oNeg (sC (.int 1))) (lCons (sUn oNeg (sC (.int 1))) lNil)))) (lCons (sC (.int 1)) (lCons (sTup (lCons (sC (.int 0)) (lCons (sC (.int 5)) (lCons (sC (.int 0)) (lCons (sUn oNeg (sC (.int 5))) lNil))))) (lCons (sC (.int 15)) (lCons (sC (.bl false)) (lCons (sC (.int 20)) lNil))))))))) (gSeq (gSet 7 (sBin oAddP (sVar 7) (sF (fComp (iSeq (sTup (lCons (sRevP (sVar 9)) (lCons (sBin oMulP (sVar 9) (sC (.int 21))) (lCons (sSlP (sVar 9) oNo (oYes (sC (.int 2)))) (lCons (sTup (lCons (sTup (lCons (sC (.int 0)) (lCons (sC (.int 0)) lNil))) (lCons (sTup (lCons (sC (.int 0)) (lCons (sC (.int 1)) lNil))) (lCons (sTup (lCons (sUn oNeg (sC (.int 1))) (lCons (sUn oNeg (sC (.int 1))) lNil))) lNil)))) (lCons (sTup (lCons (sTup (lCons (sC (.int 1)) (lCons (sC (.int 0)) lNil))) (lCons (sTup (lCons (sC (.int 0)) (lCons (sC (.int 1)) lNil))) (lCons (sTup (lCons (sUn oNeg (sC (.int 1))) (lCons (sC .non) lNil))) lNil)))) lNil))))))) (tgN 13) bYes (sHeardB 2 g__law_heard (sCall f_need_round (lCons (sVar 13) lNil))) [13])))) (gRet (sCall f__law_like (lCons (sVar 7) (lCons (sBin oAddP (sVar 11) (sF (fLst (lCons (sTup (lCons (sC (.str "lot")) (lCons (sTup (lCons (sC (.int 0)) lNil)) lNil))) (lCons (sTup (lCons (sC (.str "lot")) (lCons (sTup lNil) lNil))) (lCons (sTup (lCons (sC (.str "lot")) (lCons (sTup lNil) lNil))) (lCons (sTup (lCons (sC (.str "lot")) (lCons (sTup (lCons (sC (.int 0)) lNil)) lNil))) (lCons (sTup (lCons (sC (.str "lot")) (lCons (sTup (lCons (sC (.int 2)) lNil)) lNil))) lNil)))))))) lNil)))))))))
def f_law : Fs := fnSL 14 1 g_law
structure Ds (K : PySem.W.Frag) (mg : Str → Option Value) : Prop where
  d_is_integer : Dt K mg "is_integer" st_is_integer ["value"]
  d_is_from : Dt K mg "is_from" st_is_from ["value", "least", "most"]
  d_is_pair : Dt K mg "is_pair" st_is_pair ["value"]
  d_next_pairs : Dt K mg "next_pairs" st_next_pairs ["loop"]
  d_determinant : Dt K mg "determinant" st_determinant ["near", "far"]
  d_round_fault : Dt K mg "round_fault" st_round_fault ["value"]
  d_need_round : Dt K mg "need_round" st_need_round ["loop"]
  d_numbers_in : Dt K mg "numbers_in" st_numbers_in ["loop"]
  d_round_numbers : Dt K mg "round_numbers" st_round_numbers ["loop"]
  d_goes_past : Dt K mg "goes_past" st_goes_past ["near", "far"]
  d_turns_of : Dt K mg "turns_of" st_turns_of ["loop"]
  d_need_place : Dt K mg "need_place" st_need_place ["loop", "place"]
  d_round_raised : Dt K mg "round_raised" st_round_raised ["loop", "place"]
  d_round_lowered : Dt K mg "round_lowered" st_round_lowered ["loop", "place"]
  d__law_begun : Dt K mg "_law_begun" st__law_begun ["script", "turn"]
  d__law_draw : Dt K mg "_law_draw" st__law_draw ["m", "span"]
  d__law_of : Dt K mg "_law_of" st__law_of ["m", "some"]
  d__law_shuffled : Dt K mg "_law_shuffled" st__law_shuffled ["m", "count"]
  d__law_some_turn : Dt K mg "_law_some_turn" st__law_some_turn ["m", "deep"]
  d__law_of_two : Dt K mg "_law_of_two" st__law_of_two ["near", "far"]
  d__law_moved : Dt K mg "_law_moved" st__law_moved ["point_so", "turn_so", "shift_so"]
  d__law_some_round : Dt K mg "_law_some_round" st__law_some_round ["m"]
  d__law_like : Dt K mg "_law_like" st__law_like ["told", "due"]
  d__law_quarter : Dt K mg "_law_quarter" st__law_quarter ["one"]
  d_is_round : Dt K mg "is_round" st_is_round ["loop"]
  d__law_right : Dt K mg "_law_right" st__law_right ["thing"]
  d__law_bent : Dt K mg "_law_bent" st__law_bent ["m", "thing"]
  d__law_fault : Dt K mg "_law_fault" st__law_fault ["thing"]
  d__law_heard : Dt K mg "_law_heard" st__law_heard ["call"]
structure Ls (K : PySem.W.Frag) (mg : Str → Option Value) (gb : Heap) (TT : List (Addr × Str)) : Prop where
  l_law : LamF K mg gb TT "law" st_law ["script"] ((envOfC "law" (defScope st_law) 0 0 .none).qual ++ "<lambda>")
section
variable {P : Program} {w : World} {K : PySem.W.Frag} {mg : Str → Option Value} {gb : Heap} {tb : Tb} {TT : List (Addr × Str)}
theorem ok_is_integer (T : Fx P K mg tb.fnA tb.clA) (D : Ds K mg) : FoX P w K mg gb tb 1 "is_integer" ["value"] f_is_integer := by
  exact fo_mk D.d_is_integer sc_is_integer fun f cdv A up s H E hr hgu W tk => (rss_one (rs_ret (re_and (re_isi (T := "int") rfl rfl T.b_isinstance rfl T.b_int (by decide +kernel) (re_var (pv 0))) (re_one (re_not (re_isi (T := "bool") rfl rfl T.b_isinstance rfl T.b_bool (by decide +kernel) (re_var (pv 0))))))))
theorem ok_is_from (T : Fx P K mg tb.fnA tb.clA) (D : Ds K mg) : FoX P w K mg gb tb 2 "is_from" ["value", "least", "most"] f_is_from := by
  have F_is_integer : FoX P w K mg gb tb 1 "is_integer" ["value"] f_is_integer := ok_is_integer T D
  exact fo_mk D.d_is_from sc_is_from fun f cdv A up s H E hr hgu W tk => (rss_one (rs_ret (re_and (re_fo (F_is_integer.up (by decide)) hr hgu tk rfl (ra_cons (re_var (pv 0)) ra_nil)) (re_one (re_lele (re_var (pv 1)) (re_var (pv 0)) (re_var (pv 2)))))))
theorem ok_is_pair (T : Fx P K mg tb.fnA tb.clA) (D : Ds K mg) : FoX P w K mg gb tb 3 "is_pair" ["value"] f_is_pair := by
  have F_is_from : FoX P w K mg gb tb 2 "is_from" ["value", "least", "most"] f_is_from := ok_is_from T D
  exact fo_mk D.d_is_pair sc_is_pair fun f cdv A up s H E hr hgu W tk => (rss_cons (rs_if (rt_w (rw_or (rt_not (rt_of (re_isi (T := "tuple") rfl rfl T.b_isinstance rfl T.b_tuple (by decide +kernel) (re_var (pv 0))))) (rw_or1 (rt_ne hr (re_len rfl T.b_len (re_var (pv 0))) re_int)))) (rss_one (rs_ret re_bl)) rss_nil) (rss_one (rs_ret (re_all rfl rfl T.b_all (re_f (rf_comp (own := [("one", 1)]) rfl sc_is_pair.nd (ri_seq (re_var (pv 0))) (blkOk_by (own := [("one", 1)]) (by kernel_rfl)) (fun _ _ _ _ _ => (rg_name (i := 1) sc_is_pair.nd rfl (by first | exact Or.inl rfl | exact Or.inr rfl) (by first | exact Or.inr rfl | exact Or.inl rfl))) (fun _ _ _ _ _ => rts_nil) (fun _ _ _ _ _ => (re_fo (F_is_from.up (by decide)) hr hgu takesN rfl (ra_cons (re_var (pv 1)) (ra_cons (re_sub re_int (rg_int T.c_MOST_PLACE rfl)) (ra_cons (rg_int T.c_MOST_PLACE rfl) ra_nil))))) (by decide)))))))
theorem ok_next_pairs (T : Fx P K mg tb.fnA tb.clA) (D : Ds K mg) : FoX P w K mg gb tb 1 "next_pairs" ["loop"] f_next_pairs := by
  exact fo_mk D.d_next_pairs sc_next_pairs fun f cdv A up s H E hr hgu W tk => (rss_one (rs_ret (re_f (rf_zip2 rfl rfl T.b_list rfl T.b_zip (re_var (pv 0)) (re_addP (re_slP (re_var (pv 0)) (ro_yes re_int) ro_no) (re_slP (re_var (pv 0)) ro_no (ro_yes re_int)))))))
theorem ok_determinant (T : Fx P K mg tb.fnA tb.clA) (D : Ds K mg) : FoX P w K mg gb tb 1 "determinant" ["near", "far"] f_determinant := by
  exact fo_mk D.d_determinant sc_determinant fun f cdv A up s H E hr hgu W tk => (rss_one (rs_ret (re_sub (re_mulP (re_at (re_var (pv 0)) re_int) (re_at (re_var (pv 1)) re_int)) (re_mulP (re_at (re_var (pv 0)) re_int) (re_at (re_var (pv 1)) re_int)))))
theorem ok_round_fault (T : Fx P K mg tb.fnA tb.clA) (D : Ds K mg) : FoX P w K mg gb tb 4 "round_fault" ["value"] f_round_fault := by
  have F_is_pair : FoX P w K mg gb tb 3 "is_pair" ["value"] f_is_pair := ok_is_pair T D
  have F_next_pairs : FoX P w K mg gb tb 1 "next_pairs" ["loop"] f_next_pairs := ok_next_pairs T D
  have F_determinant : FoX P w K mg gb tb 1 "determinant" ["near", "far"] f_determinant := ok_determinant T D
  exact fo_mk D.d_round_fault sc_round_fault fun f cdv A up s H E hr hgu W tk => (rss_cons (rs_if (rt_w (rw_or (rt_not (rt_of (re_isi (T := "tuple") rfl rfl T.b_isinstance rfl T.b_tuple (by decide +kernel) (re_var (pv 0))))) (rw_or1 (rt_not (rt_lele re_int (re_len rfl T.b_len (re_var (pv 0))) (rg_int T.c_MOST_ROUND rfl)))))) (rss_one (rs_ret (re_tup ra_nil))) rss_nil) (rss_cons (rs_newC (i := 1) (own := [("number", 2), ("pair", 3)]) rfl sc_round_fault.nd rfl rfl (sw_true rfl rfl rfl rfl) (ri_enum rfl T.b_enumerate (re_var (pv 0))) (blkOk_by (own := [("number", 2), ("pair", 3)]) (by kernel_rfl)) (fun _ _ _ _ _ => (rg_tup rfl (rgs_cons (rg_name (i := 2) sc_round_fault.nd rfl (by first | exact Or.inl rfl | exact Or.inr rfl) (by first | exact Or.inr rfl | exact Or.inl rfl)) (rgs_cons (rg_name (i := 3) sc_round_fault.nd rfl (by first | exact Or.inl rfl | exact Or.inr rfl) (by first | exact Or.inr rfl | exact Or.inl rfl)) rgs_nil)))) (fun _ _ _ _ _ => (rts_one (rt_not (rt_of (re_fo (F_is_pair.up (by decide)) hr hgu takesN rfl (ra_cons (re_var (pv 3)) ra_nil)))))) (fun _ _ _ _ _ => (re_var (pv 2))) (by decide)) (rss_cons (rs_if (rt_eq hr (re_var (pv 1)) (re_f (rf_lst ra_nil))) (rss_one (rs_newC (i := 1) (own := [("number", 2), ("near", 4), ("far", 5)]) rfl sc_round_fault.nd rfl rfl (sw_true rfl rfl rfl rfl) (ri_enum rfl T.b_enumerate (re_fo (F_next_pairs.up (by decide)) hr hgu tk rfl (ra_cons (re_var (pv 0)) ra_nil))) (blkOk_by (own := [("number", 2), ("near", 4), ("far", 5)]) (by kernel_rfl)) (fun _ _ _ _ _ => (rg_tup rfl (rgs_cons (rg_name (i := 2) sc_round_fault.nd rfl (by first | exact Or.inl rfl | exact Or.inr rfl) (by first | exact Or.inr rfl | exact Or.inl rfl)) (rgs_cons (rg_tup rfl (rgs_cons (rg_name (i := 4) sc_round_fault.nd rfl (by first | exact Or.inl rfl | exact Or.inr rfl) (by first | exact Or.inr rfl | exact Or.inl rfl)) (rgs_cons (rg_name (i := 5) sc_round_fault.nd rfl (by first | exact Or.inl rfl | exact Or.inr rfl) (by first | exact Or.inr rfl | exact Or.inl rfl)) rgs_nil))) rgs_nil)))) (fun _ _ _ _ _ => (rts_one (rt_ne hr (re_fo (F_determinant.up (by decide)) hr hgu takesN rfl (ra_cons (re_var (pv 4)) (ra_cons (re_var (pv 5)) ra_nil))) re_int))) (fun _ _ _ _ _ => (re_var (pv 2))) (by decide))) rss_nil) (rss_one (rs_ret (re_if (rt_ne hr (re_var (pv 1)) (re_f (rf_lst ra_nil))) (re_tup (ra_cons (re_at (re_var (pv 1)) re_int) ra_nil)) re_non))))))
theorem ok_need_round (T : Fx P K mg tb.fnA tb.clA) (D : Ds K mg) : FoX P w K mg gb tb 5 "need_round" ["loop"] f_need_round := by
  have F_round_fault : FoX P w K mg gb tb 4 "round_fault" ["value"] f_round_fault := ok_round_fault T D
  exact fo_mk D.d_need_round sc_need_round fun f cdv A up s H E hr hgu W tk => (rss_cons (rs_set (i := 1) sc_need_round.nd rfl (by first | exact Or.inl rfl | exact Or.inr rfl) (re_fo (F_round_fault.up (by decide)) hr hgu tk rfl (ra_cons (re_var (pv 0)) ra_nil)) (by first | exact Or.inr rfl | exact Or.inl rfl)) (rss_cons (rs_if (rt_notN (re_var (pv 1)) re_non) (rss_one (rs_err rfl tk (T.e_BadLot _ 1 rfl) hr hgu (re_var (pv 1)) rfl)) rss_nil) (rss_one (rs_ret (re_var (pv 0))))))
theorem ok_numbers_in (T : Fx P K mg tb.fnA tb.clA) (D : Ds K mg) : FoX P w K mg gb tb 2 "numbers_in" ["loop"] f_numbers_in := by
  have F_determinant : FoX P w K mg gb tb 1 "determinant" ["near", "far"] f_determinant := ok_determinant T D
  exact fo_mk D.d_numbers_in sc_numbers_in fun f cdv A up s H E hr hgu W tk => (rss_cons (rs_new (i := 1) sc_numbers_in.nd rfl (by first | exact Or.inl rfl | exact Or.inr rfl) (rf_lst ra_nil) (by first | exact Or.inr rfl | exact Or.inl rfl)) (rss_cons (rs_for (passes_of rfl) rfl (ri_enum rfl T.b_enumerate (re_var (pv 0))) (rg_tup rfl (rgs_cons (rg_name (i := 2) sc_numbers_in.nd rfl (by first | exact Or.inl rfl | exact Or.inr rfl) (by first | exact Or.inr rfl | exact Or.inl rfl)) (rgs_cons (rg_name (i := 3) sc_numbers_in.nd rfl (by first | exact Or.inl rfl | exact Or.inr rfl) (by first | exact Or.inr rfl | exact Or.inl rfl)) rgs_nil))) (rss_cons (rs_par rfl sc_numbers_in.nd (i := 4) (j := 5) rfl rfl (by decide) rfl rfl (ra_cons (re_at (re_var (pv 0)) (re_sub (re_var (pv 2)) re_int)) (ra_cons (re_at (re_var (pv 0)) (re_mod (re_addP (re_var (pv 2)) re_int) (re_len rfl T.b_len (re_var (pv 0))))) ra_nil))) (rss_one (rs_app2 (pv 1) (re_fo (F_determinant.up (by decide)) hr hgu tk rfl (ra_cons (re_var (pv 4)) (ra_cons (re_var (pv 5)) ra_nil))))))) (rss_one (rs_ret (re_var (pv 1))))))
theorem ok_round_numbers (T : Fx P K mg tb.fnA tb.clA) (D : Ds K mg) : FoX P w K mg gb tb 6 "round_numbers" ["loop"] f_round_numbers := by
  have F_numbers_in : FoX P w K mg gb tb 2 "numbers_in" ["loop"] f_numbers_in := ok_numbers_in T D
  have F_need_round : FoX P w K mg gb tb 5 "need_round" ["loop"] f_need_round := ok_need_round T D
  exact fo_mk D.d_round_numbers sc_round_numbers fun f cdv A up s H E hr hgu W tk => (rss_one (rs_ret (re_tuple rfl T.b_tuple (re_fo (F_numbers_in.up (by decide)) hr hgu tk rfl (ra_cons (re_fo (F_need_round.up (by decide)) hr hgu tk rfl (ra_cons (re_var (pv 0)) ra_nil)) ra_nil)))))
theorem ok_goes_past (T : Fx P K mg tb.fnA tb.clA) (D : Ds K mg) : FoX P w K mg gb tb 1 "goes_past" ["near", "far"] f_goes_past := by
  exact fo_mk D.d_goes_past sc_goes_past fun f cdv A up s H E hr hgu W tk => (rss_one (rs_ret (re_if (rt_w (rw_and (rt_lt (re_at (re_var (pv 0)) re_int) re_int) (rw_and1 (rt_ge (re_at (re_var (pv 1)) re_int) re_int)))) re_int re_int)))
theorem ok_turns_of (T : Fx P K mg tb.fnA tb.clA) (D : Ds K mg) : FoX P w K mg gb tb 6 "turns_of" ["loop"] f_turns_of := by
  have F_next_pairs : FoX P w K mg gb tb 1 "next_pairs" ["loop"] f_next_pairs := ok_next_pairs T D
  have F_need_round : FoX P w K mg gb tb 5 "need_round" ["loop"] f_need_round := ok_need_round T D
  have F_goes_past : FoX P w K mg gb tb 1 "goes_past" ["near", "far"] f_goes_past := ok_goes_past T D
  exact fo_mk D.d_turns_of sc_turns_of fun f cdv A up s H E hr hgu W tk => (rss_one (rs_ret (re_sumP rfl rfl T.b_sum (re_f (rf_comp (own := [("near", 1), ("far", 2)]) rfl sc_turns_of.nd (ri_seq (re_fo (F_next_pairs.up (by decide)) hr hgu tk rfl (ra_cons (re_fo (F_need_round.up (by decide)) hr hgu tk rfl (ra_cons (re_var (pv 0)) ra_nil)) ra_nil))) (blkOk_by (own := [("near", 1), ("far", 2)]) (by kernel_rfl)) (fun _ _ _ _ _ => (rg_tup rfl (rgs_cons (rg_name (i := 1) sc_turns_of.nd rfl (by first | exact Or.inl rfl | exact Or.inr rfl) (by first | exact Or.inr rfl | exact Or.inl rfl)) (rgs_cons (rg_name (i := 2) sc_turns_of.nd rfl (by first | exact Or.inl rfl | exact Or.inr rfl) (by first | exact Or.inr rfl | exact Or.inl rfl)) rgs_nil)))) (fun _ _ _ _ _ => rts_nil) (fun _ _ _ _ _ => (re_fo (F_goes_past.up (by decide)) hr hgu takesN rfl (ra_cons (re_var (pv 1)) (ra_cons (re_var (pv 2)) ra_nil)))) (by decide))))))
theorem ok_need_place (T : Fx P K mg tb.fnA tb.clA) (D : Ds K mg) : FoX P w K mg gb tb 6 "need_place" ["loop", "place"] f_need_place := by
  have F_is_from : FoX P w K mg gb tb 2 "is_from" ["value", "least", "most"] f_is_from := ok_is_from T D
  have F_need_round : FoX P w K mg gb tb 5 "need_round" ["loop"] f_need_round := ok_need_round T D
  exact fo_mk D.d_need_place sc_need_place fun f cdv A up s H E hr hgu W tk => (rss_cons (rs_if (rt_not (rt_of (re_fo (F_is_from.up (by decide)) hr hgu tk rfl (ra_cons (re_var (pv 1)) (ra_cons re_int (ra_cons (re_sub (re_len rfl T.b_len (re_fo (F_need_round.up (by decide)) hr hgu tk rfl (ra_cons (re_var (pv 0)) ra_nil))) re_int) ra_nil)))))) (rss_one (rs_err rfl tk (T.e_BadNumber _ 0 rfl) hr hgu (re_var (pv 1)) rfl)) rss_nil) (rss_one (rs_ret (re_var (pv 1)))))
theorem ok_round_raised (T : Fx P K mg tb.fnA tb.clA) (D : Ds K mg) : FoX P w K mg gb tb 7 "round_raised" ["loop", "place"] f_round_raised := by
  have F_need_place : FoX P w K mg gb tb 6 "need_place" ["loop", "place"] f_need_place := ok_need_place T D
  have F_next_pairs : FoX P w K mg gb tb 1 "next_pairs" ["loop"] f_next_pairs := ok_next_pairs T D
  have F_is_pair : FoX P w K mg gb tb 3 "is_pair" ["value"] f_is_pair := ok_is_pair T D
  exact fo_mk D.d_round_raised sc_round_raised fun f cdv A up s H E hr hgu W tk => (rss_cons (rs_expr (re_fo (F_need_place.up (by decide)) hr hgu tk rfl (ra_cons (re_var (pv 0)) (ra_cons (re_var (pv 1)) ra_nil)))) (rss_cons (rs_asg (re_at (re_fo (F_next_pairs.up (by decide)) hr hgu tk rfl (ra_cons (re_var (pv 0)) ra_nil)) (re_var (pv 1))) (rg_tup rfl (rgs_cons (rg_name (i := 2) sc_round_raised.nd rfl (by first | exact Or.inl rfl | exact Or.inr rfl) (by first | exact Or.inr rfl | exact Or.inl rfl)) (rgs_cons (rg_name (i := 3) sc_round_raised.nd rfl (by first | exact Or.inl rfl | exact Or.inr rfl) (by first | exact Or.inr rfl | exact Or.inl rfl)) rgs_nil)))) (rss_cons (rs_if (rt_eq hr (re_len rfl T.b_len (re_var (pv 0))) (rg_int T.c_MOST_ROUND rfl)) (rss_one (rs_err rfl tk (T.e_TooGreat _ 2 rfl) hr hgu (rg_int T.c_MOST_ROUND rfl) rfl)) rss_nil) (rss_cons (rs_set (i := 4) sc_round_raised.nd rfl (by first | exact Or.inl rfl | exact Or.inr rfl) (re_tup (ra_cons (re_addP (re_at (re_var (pv 2)) re_int) (re_at (re_var (pv 3)) re_int)) (ra_cons (re_addP (re_at (re_var (pv 2)) re_int) (re_at (re_var (pv 3)) re_int)) ra_nil))) (by first | exact Or.inr rfl | exact Or.inl rfl)) (rss_cons (rs_if (rt_not (rt_of (re_fo (F_is_pair.up (by decide)) hr hgu tk rfl (ra_cons (re_var (pv 4)) ra_nil)))) (rss_one (rs_err rfl tk (T.e_TooGreat _ 2 rfl) hr hgu (rg_int T.c_MOST_PLACE rfl) rfl)) rss_nil) (rss_one (rs_ret (re_addP (re_addP (re_slP (re_var (pv 0)) ro_no (ro_yes (re_addP (re_var (pv 1)) re_int))) (re_tup (ra_cons (re_var (pv 4)) ra_nil))) (re_slP (re_var (pv 0)) (ro_yes (re_addP (re_var (pv 1)) re_int)) ro_no)))))))))
theorem ok_round_lowered (T : Fx P K mg tb.fnA tb.clA) (D : Ds K mg) : FoX P w K mg gb tb 7 "round_lowered" ["loop", "place"] f_round_lowered := by
  have F_need_place : FoX P w K mg gb tb 6 "need_place" ["loop", "place"] f_need_place := ok_need_place T D
  have F_numbers_in : FoX P w K mg gb tb 2 "numbers_in" ["loop"] f_numbers_in := ok_numbers_in T D
  exact fo_mk D.d_round_lowered sc_round_lowered fun f cdv A up s H E hr hgu W tk => (rss_cons (rs_expr (re_fo (F_need_place.up (by decide)) hr hgu tk rfl (ra_cons (re_var (pv 0)) (ra_cons (re_var (pv 1)) ra_nil)))) (rss_cons (rs_if (rt_w (rw_or (rt_eq hr (re_len rfl T.b_len (re_var (pv 0))) re_int) (rw_or1 (rt_ne hr (re_at (re_fo (F_numbers_in.up (by decide)) hr hgu tk rfl (ra_cons (re_var (pv 0)) ra_nil)) (re_var (pv 1))) re_int)))) (rss_one (rs_err0 rfl tk (T.e_Unlike _ 3 rfl) rfl)) rss_nil) (rss_one (rs_ret (re_addP (re_slP (re_var (pv 0)) ro_no (ro_yes (re_var (pv 1)))) (re_slP (re_var (pv 0)) (ro_yes (re_addP (re_var (pv 1)) re_int)) ro_no))))))
theorem ok__law_begun (T : Fx P K mg tb.fnA tb.clA) (D : Ds K mg) : FoX P w K mg gb tb 1 "_law_begun" ["script", "turn"] f__law_begun := by
  exact fo_mk D.d__law_begun sc__law_begun fun f cdv A up s H E hr hgu W tk => (rss_cons (rs_set (i := 2) sc__law_begun.nd rfl (by first | exact Or.inl rfl | exact Or.inr rfl) (re_addP (re_slP (re_var (pv 0)) (ro_yes (re_var (pv 1))) ro_no) (re_slP (re_var (pv 0)) ro_no (ro_yes (re_var (pv 1))))) (by first | exact Or.inr rfl | exact Or.inl rfl)) (rss_cons (rs_newC (i := 3) (own := [("cell", 5)]) rfl sc__law_begun.nd rfl rfl (sw_true rfl rfl rfl rfl) (ri_seq (re_var (pv 0))) (blkOk_by (own := [("cell", 5)]) (by kernel_rfl)) (fun _ _ _ _ _ => (rg_name (i := 5) sc__law_begun.nd rfl (by first | exact Or.inl rfl | exact Or.inr rfl) (by first | exact Or.inr rfl | exact Or.inl rfl))) (fun _ _ _ _ _ => (rts_one (rt_ge (re_var (pv 5)) (re_pow re_int re_int)))) (fun _ _ _ _ _ => (re_var (pv 5))) (by decide)) (rss_cons (rs_set (i := 4) sc__law_begun.nd rfl (by first | exact Or.inl rfl | exact Or.inr rfl) (re_addP re_int (re_var (pv 1))) (by first | exact Or.inr rfl | exact Or.inl rfl)) (rss_cons (rs_for (passes_of rfl) rfl (ri_seq (re_var (pv 2))) (rg_name (i := 5) sc__law_begun.nd rfl (by first | exact Or.inl rfl | exact Or.inr rfl) (by first | exact Or.inr rfl | exact Or.inl rfl)) (rss_one (rs_set (i := 4) sc__law_begun.nd rfl (by first | exact Or.inl rfl | exact Or.inr rfl) (re_mod (re_int1 rfl T.b_int (re_addP (re_mulP (re_var (pv 4)) re_int) (re_var (pv 5)))) re_int) (by first | exact Or.inr rfl | exact Or.inl rfl)))) (rss_one (rs_ret (re_disp (rd_cons (re_if (rt_lt (re_var (pv 1)) (re_len rfl T.b_len (re_var (pv 3)))) (re_at (re_var (pv 3)) (re_var (pv 1))) re_int) (rd_cons (re_var (pv 4)) (rd_cons (re_addP (re_var (pv 2)) (re_f (rf_lst (ra_cons (re_addP (re_mulP re_int (re_var (pv 1))) re_int) ra_nil)))) (rd_cons re_int rd_nil)))))))))))
theorem ok__law_draw (T : Fx P K mg tb.fnA tb.clA) (D : Ds K mg) : FoX P w K mg gb tb 1 "_law_draw" ["m", "span"] f__law_draw := by
  exact fo_mk D.d__law_draw sc__law_draw fun f cdv A up s H E hr hgu W tk => (rss_cons (rs_if (rt_gt (re_dget (hu_of hr) (re_var (pv 0))) re_int) (rss_cons (rs_set (i := 2) sc__law_draw.nd rfl (by first | exact Or.inl rfl | exact Or.inr rfl) (re_mod (re_int1 rfl T.b_int (re_dget (hu_of hr) (re_var (pv 0)))) (re_var (pv 1))) (by first | exact Or.inr rfl | exact Or.inl rfl)) (rss_cons (rs_putD (hu_of hr) (pv 0) (re_div (re_dget (hu_of hr) (re_var (pv 0))) (re_var (pv 1)))) (rss_one (rs_ret (re_var (pv 2)))))) rss_nil) (rss_cons (rs_set (i := 3) sc__law_draw.nd rfl (by first | exact Or.inl rfl | exact Or.inr rfl) (re_dget (hu_of hr) (re_var (pv 0))) (by first | exact Or.inr rfl | exact Or.inl rfl)) (rss_cons (rs_putD (hu_of hr) (pv 0) (re_addP (re_var (pv 3)) re_int)) (rss_cons (rs_par rfl sc__law_draw.nd (i := 4) (j := 5) rfl rfl (by decide) rfl rfl (ra_cons (re_dget (hu_of hr) (re_var (pv 0))) (ra_cons (re_addP (re_dget (hu_of hr) (re_var (pv 0))) (re_mulP (re_mulP re_int (re_var (pv 3))) (re_var (pv 3)))) ra_nil))) (rss_cons (rs_set (i := 6) sc__law_draw.nd rfl (by first | exact Or.inl rfl | exact Or.inr rfl) (re_at (re_var (pv 4)) (re_mod (re_int1 rfl T.b_int (re_var (pv 3))) (re_len rfl T.b_len (re_var (pv 4))))) (by first | exact Or.inr rfl | exact Or.inl rfl)) (rss_cons (rs_set (i := 7) sc__law_draw.nd rfl (by first | exact Or.inl rfl | exact Or.inr rfl) (re_mod (re_int1 rfl T.b_int (re_addP (re_mulP (re_var (pv 6)) (re_addP (re_mulP re_int (re_var (pv 3))) re_int)) (re_var (pv 5)))) re_int) (by first | exact Or.inr rfl | exact Or.inl rfl)) (rss_cons (rs_set (i := 7) sc__law_draw.nd rfl (by first | exact Or.inl rfl | exact Or.inr rfl) (re_mod (re_int1 rfl T.b_int (re_addP (re_addP (re_mulP (re_var (pv 7)) (re_var (pv 7))) (re_mulP re_int (re_var (pv 3)))) (re_dget (hu_of hr) (re_var (pv 0))))) re_int) (by first | exact Or.inr rfl | exact Or.inl rfl)) (rss_one (rs_ret (re_mod (re_div (re_mod (re_int1 rfl T.b_int (re_addP (re_mulP (re_var (pv 7)) re_int) (re_var (pv 3)))) re_int) re_int) (re_var (pv 1))))))))))))
theorem ok__law_of (T : Fx P K mg tb.fnA tb.clA) (D : Ds K mg) : FoX P w K mg gb tb 2 "_law_of" ["m", "some"] f__law_of := by
  have F__law_draw : FoX P w K mg gb tb 1 "_law_draw" ["m", "span"] f__law_draw := ok__law_draw T D
  exact fo_mk D.d__law_of sc__law_of fun f cdv A up s H E hr hgu W tk => (rss_one (rs_ret (re_at (re_var (pv 1)) (re_fo (F__law_draw.up (by decide)) hr hgu tk rfl (ra_cons (re_var (pv 0)) (ra_cons (re_len rfl T.b_len (re_var (pv 1))) ra_nil))))))
theorem ok__law_shuffled (T : Fx P K mg tb.fnA tb.clA) (D : Ds K mg) : FoX P w K mg gb tb 3 "_law_shuffled" ["m", "count"] f__law_shuffled := by
  have F__law_of : FoX P w K mg gb tb 2 "_law_of" ["m", "some"] f__law_of := ok__law_of T D
  exact fo_mk D.d__law_shuffled sc__law_shuffled fun f cdv A up s H E hr hgu W tk => (rss_cons (rs_par rfl sc__law_shuffled.nd (i := 2) (j := 3) rfl rfl (by decide) rfl rfl (ra_cons (re_f (rf_listR1 rfl rfl T.b_list rfl T.b_range (re_var (pv 1)))) (ra_cons (re_new (rf_lst ra_nil)) ra_nil))) (rss_cons (rs_for (passes_of rfl) rfl (ri_range1 rfl T.b_range (re_var (pv 1))) (rg_name (i := 4) sc__law_shuffled.nd rfl (by first | exact Or.inl rfl | exact Or.inr rfl) (by first | exact Or.inr rfl | exact Or.inl rfl)) (rss_cons (rs_set (i := 5) sc__law_shuffled.nd rfl (by first | exact Or.inl rfl | exact Or.inr rfl) (re_fo (F__law_of.up (by decide)) hr hgu tk rfl (ra_cons (re_var (pv 0)) (ra_cons (re_var (pv 2)) ra_nil))) (by first | exact Or.inr rfl | exact Or.inl rfl)) (rss_cons (rs_newC (i := 2) (own := [("twin", 6)]) rfl sc__law_shuffled.nd rfl rfl (sw_true rfl rfl rfl rfl) (ri_seq (re_var (pv 2))) (blkOk_by (own := [("twin", 6)]) (by kernel_rfl)) (fun _ _ _ _ _ => (rg_name (i := 6) sc__law_shuffled.nd rfl (by first | exact Or.inl rfl | exact Or.inr rfl) (by first | exact Or.inr rfl | exact Or.inl rfl))) (fun _ _ _ _ _ => (rts_one (rt_ne hr (re_var (pv 6)) (re_var (pv 5))))) (fun _ _ _ _ _ => (re_var (pv 6))) (by decide)) (rss_one (rs_app2 (pv 3) (re_var (pv 5))))))) (rss_one (rs_ret (re_tuple rfl T.b_tuple (re_var (pv 3)))))))
theorem ok__law_some_turn (T : Fx P K mg tb.fnA tb.clA) (D : Ds K mg) : FoX P w K mg gb tb 4 "_law_some_turn" ["m", "deep"] f__law_some_turn := by
  have F__law_draw : FoX P w K mg gb tb 1 "_law_draw" ["m", "span"] f__law_draw := ok__law_draw T D
  have F__law_shuffled : FoX P w K mg gb tb 3 "_law_shuffled" ["m", "count"] f__law_shuffled := ok__law_shuffled T D
  exact fo_mk D.d__law_some_turn sc__law_some_turn fun f cdv A up s H E hr hgu W tk => (rss_cons (rs_new (i := 2) sc__law_some_turn.nd rfl (by first | exact Or.inl rfl | exact Or.inr rfl) (rf_comp (own := [("k", 7)]) rfl sc__law_some_turn.nd (ri_range1 rfl T.b_range (re_var (pv 1))) (blkOk_by (own := [("k", 7)]) (by kernel_rfl)) (fun _ _ _ _ _ => (rg_name (i := 7) sc__law_some_turn.nd rfl (by first | exact Or.inl rfl | exact Or.inr rfl) (by first | exact Or.inr rfl | exact Or.inl rfl))) (fun _ _ _ _ _ => rts_nil) (fun _ _ _ _ _ => (re_f (rf_comp (own := [("j", 8)]) rfl sc__law_some_turn.nd (ri_range1 rfl T.b_range (re_var (pv 1))) (blkOk_by (own := [("j", 8)]) (by kernel_rfl)) (fun _ _ _ _ _ => (rg_name (i := 8) sc__law_some_turn.nd rfl (by first | exact Or.inl rfl | exact Or.inr rfl) (by first | exact Or.inr rfl | exact Or.inl rfl))) (fun _ _ _ _ _ => rts_nil) (fun _ _ _ _ _ => (re_int1 rfl T.b_int (re_eq hr (re_var (pv 7)) (re_var (pv 8))))) (by decide)))) (by decide)) (by first | exact Or.inr rfl | exact Or.inl rfl)) (rss_cons (rs_for (passes_of rfl) rfl (ri_range1 rfl T.b_range (re_if (rt_gt (re_var (pv 1)) re_int) (re_mulP re_int (re_var (pv 1))) re_int)) (rg_name (i := 3) sc__law_some_turn.nd rfl (by first | exact Or.inl rfl | exact Or.inr rfl) (by first | exact Or.inr rfl | exact Or.inl rfl)) (rss_cons (rs_par rfl sc__law_some_turn.nd (i := 4) (j := 5) rfl rfl (by decide) rfl rfl (ra_cons (re_fo (F__law_draw.up (by decide)) hr hgu tk rfl (ra_cons (re_var (pv 0)) (ra_cons (re_var (pv 1)) ra_nil))) (ra_cons (re_fo (F__law_draw.up (by decide)) hr hgu tk rfl (ra_cons (re_var (pv 0)) (ra_cons (re_var (pv 1)) ra_nil))) ra_nil))) (rss_one (rs_if (rt_ne hr (re_var (pv 4)) (re_var (pv 5))) (rss_cons (rs_set (i := 6) sc__law_some_turn.nd rfl (by first | exact Or.inl rfl | exact Or.inr rfl) (re_sub (re_fo (F__law_draw.up (by decide)) hr hgu tk rfl (ra_cons (re_var (pv 0)) (ra_cons re_int ra_nil))) re_int) (by first | exact Or.inr rfl | exact Or.inl rfl)) (rss_one (rs_putL (pv 2) (re_var (pv 4)) (re_f (rf_comp (own := [("one", 9), ("two", 10)]) rfl sc__law_some_turn.nd (ri_zip rfl T.b_zip (re_at (re_var (pv 2)) (re_var (pv 4))) (re_at (re_var (pv 2)) (re_var (pv 5)))) (blkOk_by (own := [("one", 9), ("two", 10)]) (by kernel_rfl)) (fun _ _ _ _ _ => (rg_tup rfl (rgs_cons (rg_name (i := 9) sc__law_some_turn.nd rfl (by first | exact Or.inl rfl | exact Or.inr rfl) (by first | exact Or.inr rfl | exact Or.inl rfl)) (rgs_cons (rg_name (i := 10) sc__law_some_turn.nd rfl (by first | exact Or.inl rfl | exact Or.inr rfl) (by first | exact Or.inr rfl | exact Or.inl rfl)) rgs_nil)))) (fun _ _ _ _ _ => rts_nil) (fun _ _ _ _ _ => (re_addP (re_var (pv 9)) (re_mulP (re_var (pv 6)) (re_var (pv 10))))) (by decide)))))) rss_nil)))) (rss_cons (rs_new (i := 2) sc__law_some_turn.nd rfl (by first | exact Or.inl rfl | exact Or.inr rfl) (rf_comp (own := [("k", 7)]) rfl sc__law_some_turn.nd (ri_seq (re_fo (F__law_shuffled.up (by decide)) hr hgu tk rfl (ra_cons (re_var (pv 0)) (ra_cons (re_var (pv 1)) ra_nil)))) (blkOk_by (own := [("k", 7)]) (by kernel_rfl)) (fun _ _ _ _ _ => (rg_name (i := 7) sc__law_some_turn.nd rfl (by first | exact Or.inl rfl | exact Or.inr rfl) (by first | exact Or.inr rfl | exact Or.inl rfl))) (fun _ _ _ _ _ => rts_nil) (fun _ _ _ _ _ => (re_at (re_var (pv 2)) (re_var (pv 7)))) (by decide)) (by first | exact Or.inr rfl | exact Or.inl rfl)) (rss_cons (rs_if (rt_eq hr (re_fo (F__law_draw.up (by decide)) hr hgu tk rfl (ra_cons (re_var (pv 0)) (ra_cons re_int ra_nil))) re_int) (rss_one (rs_putL (pv 2) re_int (re_f (rf_comp (own := [("one", 9)]) rfl sc__law_some_turn.nd (ri_seq (re_at (re_var (pv 2)) re_int)) (blkOk_by (own := [("one", 9)]) (by kernel_rfl)) (fun _ _ _ _ _ => (rg_name (i := 9) sc__law_some_turn.nd rfl (by first | exact Or.inl rfl | exact Or.inr rfl) (by first | exact Or.inr rfl | exact Or.inl rfl))) (fun _ _ _ _ _ => rts_nil) (fun _ _ _ _ _ => (re_neg (re_var (pv 9)))) (by decide))))) rss_nil) (rss_one (rs_ret (re_tuple rfl T.b_tuple (re_f (rf_comp (own := [("one", 9)]) rfl sc__law_some_turn.nd (ri_seq (re_var (pv 2))) (blkOk_by (own := [("one", 9)]) (by kernel_rfl)) (fun _ _ _ _ _ => (rg_name (i := 9) sc__law_some_turn.nd rfl (by first | exact Or.inl rfl | exact Or.inr rfl) (by first | exact Or.inr rfl | exact Or.inl rfl))) (fun _ _ _ _ _ => rts_nil) (fun _ _ _ _ _ => (re_tuple rfl T.b_tuple (re_var (pv 9)))) (by decide))))))))))
theorem ok__law_of_two (T : Fx P K mg tb.fnA tb.clA) (D : Ds K mg) : FoX P w K mg gb tb 1 "_law_of_two" ["near", "far"] f__law_of_two := by
  exact fo_mk D.d__law_of_two sc__law_of_two fun f cdv A up s H E hr hgu W tk => (rss_one (rs_ret (re_sub (re_mulP (re_at (re_var (pv 0)) re_int) (re_at (re_var (pv 1)) re_int)) (re_mulP (re_at (re_var (pv 0)) re_int) (re_at (re_var (pv 1)) re_int)))))
theorem ok__law_moved (T : Fx P K mg tb.fnA tb.clA) (D : Ds K mg) : FoX P w K mg gb tb 1 "_law_moved" ["point_so", "turn_so", "shift_so"] f__law_moved := by
  exact fo_mk D.d__law_moved sc__law_moved fun f cdv A up s H E hr hgu W tk => (rss_one (rs_ret (re_tuple rfl T.b_tuple (re_f (rf_comp (own := [("line_so", 3), ("k", 4)]) rfl sc__law_moved.nd (ri_zip rfl T.b_zip (re_var (pv 1)) (re_var (pv 2))) (blkOk_by (own := [("line_so", 3), ("k", 4)]) (by kernel_rfl)) (fun _ _ _ _ _ => (rg_tup rfl (rgs_cons (rg_name (i := 3) sc__law_moved.nd rfl (by first | exact Or.inl rfl | exact Or.inr rfl) (by first | exact Or.inr rfl | exact Or.inl rfl)) (rgs_cons (rg_name (i := 4) sc__law_moved.nd rfl (by first | exact Or.inl rfl | exact Or.inr rfl) (by first | exact Or.inr rfl | exact Or.inl rfl)) rgs_nil)))) (fun _ _ _ _ _ => rts_nil) (fun _ _ _ _ _ => (re_addP (re_sumP rfl rfl T.b_sum (re_f (rf_comp (own := [("one", 5), ("two", 6)]) rfl sc__law_moved.nd (ri_zip rfl T.b_zip (re_var (pv 3)) (re_var (pv 0))) (blkOk_by (own := [("one", 5), ("two", 6)]) (by kernel_rfl)) (fun _ _ _ _ _ => (rg_tup rfl (rgs_cons (rg_name (i := 5) sc__law_moved.nd rfl (by first | exact Or.inl rfl | exact Or.inr rfl) (by first | exact Or.inr rfl | exact Or.inl rfl)) (rgs_cons (rg_name (i := 6) sc__law_moved.nd rfl (by first | exact Or.inl rfl | exact Or.inr rfl) (by first | exact Or.inr rfl | exact Or.inl rfl)) rgs_nil)))) (fun _ _ _ _ _ => rts_nil) (fun _ _ _ _ _ => (re_mulP (re_var (pv 5)) (re_var (pv 6)))) (by decide)))) (re_var (pv 4)))) (by decide))))))
theorem ok__law_some_round (T : Fx P K mg tb.fnA tb.clA) (D : Ds K mg) : FoX P w K mg gb tb 5 "_law_some_round" ["m"] f__law_some_round := by
  have F__law_draw : FoX P w K mg gb tb 1 "_law_draw" ["m", "span"] f__law_draw := ok__law_draw T D
  have F__law_of : FoX P w K mg gb tb 2 "_law_of" ["m", "some"] f__law_of := ok__law_of T D
  have F__law_some_turn : FoX P w K mg gb tb 4 "_law_some_turn" ["m", "deep"] f__law_some_turn := ok__law_some_turn T D
  have F__law_of_two : FoX P w K mg gb tb 1 "_law_of_two" ["near", "far"] f__law_of_two := ok__law_of_two T D
  have F__law_moved : FoX P w K mg gb tb 1 "_law_moved" ["point_so", "turn_so", "shift_so"] f__law_moved := ok__law_moved T D
  exact fo_mk D.d__law_some_round sc__law_some_round fun f cdv A up s H E hr hgu W tk => (rss_cons (rs_set (i := 1) sc__law_some_round.nd rfl (by first | exact Or.inl rfl | exact Or.inr rfl) (re_sub (re_fo (F__law_draw.up (by decide)) hr hgu tk rfl (ra_cons (re_var (pv 0)) (ra_cons re_int ra_nil))) re_int) (by first | exact Or.inr rfl | exact Or.inl rfl)) (rss_cons (rs_set (i := 2) sc__law_some_round.nd rfl (by first | exact Or.inl rfl | exact Or.inr rfl) (re_fo (F__law_of.up (by decide)) hr hgu tk rfl (ra_cons (re_var (pv 0)) (ra_cons (re_f (rf_lst (ra_cons (re_tup (ra_cons (re_tup (ra_cons re_int (ra_cons re_int ra_nil))) (ra_cons (re_tup (ra_cons re_int (ra_cons re_int ra_nil))) (ra_cons (re_tup (ra_cons (re_neg re_int) (ra_cons (re_neg re_int) ra_nil))) ra_nil)))) (ra_cons (re_tup (ra_cons (re_tup (ra_cons re_int (ra_cons re_int ra_nil))) (ra_cons (re_tup (ra_cons re_int (ra_cons re_int ra_nil))) (ra_cons (re_tup (ra_cons (re_neg re_int) (ra_cons (re_var (pv 1)) ra_nil))) (ra_cons (re_tup (ra_cons re_int (ra_cons (re_neg re_int) ra_nil))) ra_nil))))) ra_nil)))) ra_nil))) (by first | exact Or.inr rfl | exact Or.inl rfl)) (rss_cons (rs_for (passes_of rfl) rfl (ri_range1 rfl T.b_range (re_fo (F__law_draw.up (by decide)) hr hgu tk rfl (ra_cons (re_var (pv 0)) (ra_cons re_int ra_nil)))) (rg_name (i := 3) sc__law_some_round.nd rfl (by first | exact Or.inl rfl | exact Or.inr rfl) (by first | exact Or.inr rfl | exact Or.inl rfl)) (rss_cons (rs_set (i := 4) sc__law_some_round.nd rfl (by first | exact Or.inl rfl | exact Or.inr rfl) (re_fo (F__law_draw.up (by decide)) hr hgu tk rfl (ra_cons (re_var (pv 0)) (ra_cons (re_len rfl T.b_len (re_var (pv 2))) ra_nil))) (by first | exact Or.inr rfl | exact Or.inl rfl)) (rss_cons (rs_par rfl sc__law_some_round.nd (i := 5) (j := 6) rfl rfl (by decide) rfl rfl (ra_cons (re_at (re_var (pv 2)) (re_var (pv 4))) (ra_cons (re_at (re_addP (re_var (pv 2)) (re_slP (re_var (pv 2)) ro_no (ro_yes re_int))) (re_addP (re_var (pv 4)) re_int)) ra_nil))) (rss_one (rs_set (i := 2) sc__law_some_round.nd rfl (by first | exact Or.inl rfl | exact Or.inr rfl) (re_addP (re_addP (re_slP (re_var (pv 2)) ro_no (ro_yes (re_addP (re_var (pv 4)) re_int))) (re_tup (ra_cons (re_tup (ra_cons (re_addP (re_at (re_var (pv 5)) re_int) (re_at (re_var (pv 6)) re_int)) (ra_cons (re_addP (re_at (re_var (pv 5)) re_int) (re_at (re_var (pv 6)) re_int)) ra_nil))) ra_nil))) (re_slP (re_var (pv 2)) (ro_yes (re_addP (re_var (pv 4)) re_int)) ro_no)) (by first | exact Or.inr rfl | exact Or.inl rfl)))))) (rss_cons (rs_set (i := 2) sc__law_some_round.nd rfl (by first | exact Or.inl rfl | exact Or.inr rfl) (re_mulP (re_var (pv 2)) (re_addP re_int (re_fo (F__law_draw.up (by decide)) hr hgu tk rfl (ra_cons (re_var (pv 0)) (ra_cons re_int ra_nil))))) (by first | exact Or.inr rfl | exact Or.inl rfl)) (rss_cons (rs_asg (re_tup (ra_cons (re_fo (F__law_draw.up (by decide)) hr hgu tk rfl (ra_cons (re_var (pv 0)) (ra_cons (re_len rfl T.b_len (re_var (pv 2))) ra_nil))) (ra_cons (re_fo (F__law_some_turn.up (by decide)) hr hgu tk rfl (ra_cons (re_var (pv 0)) (ra_cons re_int ra_nil))) ra_nil))) (rg_tup rfl (rgs_cons (rg_name (i := 4) sc__law_some_round.nd rfl (by first | exact Or.inl rfl | exact Or.inr rfl) (by first | exact Or.inr rfl | exact Or.inl rfl)) (rgs_cons (rg_tup rfl (rgs_cons (rg_name (i := 7) sc__law_some_round.nd rfl (by first | exact Or.inl rfl | exact Or.inr rfl) (by first | exact Or.inr rfl | exact Or.inl rfl)) (rgs_cons (rg_name (i := 8) sc__law_some_round.nd rfl (by first | exact Or.inl rfl | exact Or.inr rfl) (by first | exact Or.inr rfl | exact Or.inl rfl)) rgs_nil))) rgs_nil)))) (rss_cons (rs_if (rt_lt (re_fo (F__law_of_two.up (by decide)) hr hgu tk rfl (ra_cons (re_var (pv 7)) (ra_cons (re_var (pv 8)) ra_nil))) re_int) (rss_one (rs_asg (re_tup (ra_cons (re_var (pv 8)) (ra_cons (re_var (pv 7)) ra_nil))) (rg_tup rfl (rgs_cons (rg_name (i := 7) sc__law_some_round.nd rfl (by first | exact Or.inl rfl | exact Or.inr rfl) (by first | exact Or.inr rfl | exact Or.inl rfl)) (rgs_cons (rg_name (i := 8) sc__law_some_round.nd rfl (by first | exact Or.inl rfl | exact Or.inr rfl) (by first | exact Or.inr rfl | exact Or.inl rfl)) rgs_nil))))) rss_nil) (rss_one (rs_ret (re_tuple rfl T.b_tuple (re_f (rf_comp (own := [("one", 9)]) rfl sc__law_some_round.nd (ri_seq (re_addP (re_slP (re_var (pv 2)) (ro_yes (re_var (pv 4))) ro_no) (re_slP (re_var (pv 2)) ro_no (ro_yes (re_var (pv 4)))))) (blkOk_by (own := [("one", 9)]) (by kernel_rfl)) (fun _ _ _ _ _ => (rg_name (i := 9) sc__law_some_round.nd rfl (by first | exact Or.inl rfl | exact Or.inr rfl) (by first | exact Or.inr rfl | exact Or.inl rfl))) (fun _ _ _ _ _ => rts_nil) (fun _ _ _ _ _ => (re_fo (F__law_moved.up (by decide)) hr hgu takesN rfl (ra_cons (re_var (pv 9)) (ra_cons (re_tup (ra_cons (re_var (pv 7)) (ra_cons (re_var (pv 8)) ra_nil))) (ra_cons (re_tup (ra_cons re_int (ra_cons re_int ra_nil))) ra_nil))))) (by decide))))))))))))
theorem ok__law_like (T : Fx P K mg tb.fnA tb.clA) (D : Ds K mg) : FoX P w K mg gb tb 1 "_law_like" ["told", "due"] f__law_like := by
  exact fo_mk D.d__law_like sc__law_like fun f cdv A up s H E hr hgu W tk => (rss_one (rs_ret (re_and (re_eqX hr (re_var (pv 0)) (re_var (pv 1))) (re_one (re_eqS (re_reprX hgu hr rfl T.b_repr (re_var (pv 0))) (re_reprX hgu hr rfl T.b_repr (re_var (pv 1))))))))
theorem ok__law_quarter (T : Fx P K mg tb.fnA tb.clA) (D : Ds K mg) : FoX P w K mg gb tb 1 "_law_quarter" ["one"] f__law_quarter := by
  exact fo_mk D.d__law_quarter sc__law_quarter fun f cdv A up s H E hr hgu W tk => (rss_cons (rs_if (rt_w (rw_and (rt_gt (re_at (re_var (pv 0)) re_int) re_int) (rw_and1 (rt_ge (re_at (re_var (pv 0)) re_int) re_int)))) (rss_one (rs_ret re_int)) rss_nil) (rss_cons (rs_if (rt_w (rw_and (rt_le (re_at (re_var (pv 0)) re_int) re_int) (rw_and1 (rt_gt (re_at (re_var (pv 0)) re_int) re_int)))) (rss_one (rs_ret re_int)) rss_nil) (rss_one (rs_ret (re_if (rt_lt (re_at (re_var (pv 0)) re_int) re_int) re_int re_int)))))
theorem ok_is_round (T : Fx P K mg tb.fnA tb.clA) (D : Ds K mg) : FoX P w K mg gb tb 5 "is_round" ["loop"] f_is_round := by
  have F_round_fault : FoX P w K mg gb tb 4 "round_fault" ["value"] f_round_fault := ok_round_fault T D
  exact fo_mk D.d_is_round sc_is_round fun f cdv A up s H E hr hgu W tk => (rss_one (rs_ret (re_isN (re_fo (F_round_fault.up (by decide)) hr hgu tk rfl (ra_cons (re_var (pv 0)) ra_nil)) re_non)))
theorem ok__law_right (T : Fx P K mg tb.fnA tb.clA) (D : Ds K mg) : FoX P w K mg gb tb 7 "_law_right" ["thing"] f__law_right := by
  have F_round_numbers : FoX P w K mg gb tb 6 "round_numbers" ["loop"] f_round_numbers := ok_round_numbers T D
  have F__law_like : FoX P w K mg gb tb 1 "_law_like" ["told", "due"] f__law_like := ok__law_like T D
  have F__law_quarter : FoX P w K mg gb tb 1 "_law_quarter" ["one"] f__law_quarter := ok__law_quarter T D
  have F_need_round : FoX P w K mg gb tb 5 "need_round" ["loop"] f_need_round := ok_need_round T D
  have F_is_round : FoX P w K mg gb tb 5 "is_round" ["loop"] f_is_round := ok_is_round T D
  have F_turns_of : FoX P w K mg gb tb 6 "turns_of" ["loop"] f_turns_of := ok_turns_of T D
  exact fo_mk D.d__law_right sc__law_right fun f cdv A up s H E hr hgu W tk => (rss_cons (rs_asg (re_tup (ra_cons (re_foK (F_round_numbers.up (by decide)) hr hgu tk rfl (rk_cons (re_var (pv 0)) rk_nil)) (ra_cons (re_len rfl T.b_len (re_var (pv 0))) ra_nil))) (rg_tup rfl (rgs_cons (rg_name (i := 1) sc__law_right.nd rfl (by first | exact Or.inl rfl | exact Or.inr rfl) (by first | exact Or.inr rfl | exact Or.inl rfl)) (rgs_cons (rg_name (i := 2) sc__law_right.nd rfl (by first | exact Or.inl rfl | exact Or.inr rfl) (by first | exact Or.inr rfl | exact Or.inl rfl)) rgs_nil)))) (rss_cons (rs_if (rt_w (rw_or (rt_not (rt_of (re_isi (T := "tuple") rfl rfl T.b_isinstance rfl T.b_tuple (by decide +kernel) (re_var (pv 1))))) (rw_or1 (rt_ne hr (re_len rfl T.b_len (re_var (pv 1))) (re_var (pv 2)))))) (rss_one (rs_ret re_bl)) rss_nil) (rss_cons (rs_for (passes_of rfl) rfl (ri_range1 rfl T.b_range (re_var (pv 2))) (rg_name (i := 3) sc__law_right.nd rfl (by first | exact Or.inl rfl | exact Or.inr rfl) (by first | exact Or.inr rfl | exact Or.inl rfl)) (rss_cons (rs_par rfl sc__law_right.nd (i := 4) (j := 5) rfl rfl (by decide) rfl rfl (ra_cons (re_at (re_var (pv 0)) (re_sub (re_var (pv 3)) re_int)) (ra_cons (re_at (re_var (pv 0)) (re_sub (re_addP (re_var (pv 3)) re_int) (re_var (pv 2)))) ra_nil))) (rss_one (rs_if (rt_not (rt_of (re_fo (F__law_like.up (by decide)) hr hgu tk rfl (ra_cons (re_tuple rfl T.b_tuple (re_f (rf_comp (own := [("one", 8)]) rfl sc__law_right.nd (ri_seq (re_at (re_var (pv 0)) (re_var (pv 3)))) (blkOk_by (own := [("one", 8)]) (by kernel_rfl)) (fun _ _ _ _ _ => (rg_name (i := 8) sc__law_right.nd rfl (by first | exact Or.inl rfl | exact Or.inr rfl) (by first | exact Or.inr rfl | exact Or.inl rfl))) (fun _ _ _ _ _ => rts_nil) (fun _ _ _ _ _ => (re_mulP (re_at (re_var (pv 1)) (re_var (pv 3))) (re_var (pv 8)))) (by decide)))) (ra_cons (re_tup (ra_cons (re_addP (re_at (re_var (pv 4)) re_int) (re_at (re_var (pv 5)) re_int)) (ra_cons (re_addP (re_at (re_var (pv 4)) re_int) (re_at (re_var (pv 5)) re_int)) ra_nil))) ra_nil))))) (rss_one (rs_ret re_bl)) rss_nil)))) (rss_cons (rs_set (i := 6) sc__law_right.nd rfl (by first | exact Or.inl rfl | exact Or.inr rfl) re_int (by first | exact Or.inr rfl | exact Or.inl rfl)) (rss_cons (rs_for (passes_of rfl) rfl (ri_range1 rfl T.b_range (re_var (pv 2))) (rg_name (i := 3) sc__law_right.nd rfl (by first | exact Or.inl rfl | exact Or.inr rfl) (by first | exact Or.inr rfl | exact Or.inl rfl)) (rss_cons (rs_set (i := 7) sc__law_right.nd rfl (by first | exact Or.inl rfl | exact Or.inr rfl) (re_sub (re_fo (F__law_quarter.up (by decide)) hr hgu tk rfl (ra_cons (re_at (re_var (pv 0)) (re_var (pv 3))) ra_nil)) (re_fo (F__law_quarter.up (by decide)) hr hgu tk rfl (ra_cons (re_at (re_var (pv 0)) (re_sub (re_var (pv 3)) re_int)) ra_nil))) (by first | exact Or.inr rfl | exact Or.inl rfl)) (rss_one (rs_set (i := 6) sc__law_right.nd rfl (by first | exact Or.inl rfl | exact Or.inr rfl) (re_sub (re_addP (re_var (pv 6)) (re_var (pv 7))) (re_mulP re_int (re_div (re_var (pv 7)) re_int))) (by first | exact Or.inr rfl | exact Or.inl rfl))))) (rss_cons (rs_if (rt_not (rt_of (re_fo (F__law_like.up (by decide)) hr hgu tk rfl (ra_cons (re_f (rf_lst (ra_cons (re_foK (F_need_round.up (by decide)) hr hgu tk rfl (rk_cons (re_var (pv 0)) rk_nil)) (ra_cons (re_foK (F_is_round.up (by decide)) hr hgu tk rfl (rk_cons (re_var (pv 0)) rk_nil)) (ra_cons (re_foK (F_turns_of.up (by decide)) hr hgu tk rfl (rk_cons (re_var (pv 0)) rk_nil)) ra_nil))))) (ra_cons (re_f (rf_lst (ra_cons (re_var (pv 0)) (ra_cons re_bl (ra_cons (re_div (re_var (pv 6)) re_int) ra_nil))))) ra_nil))))) (rss_one (rs_ret re_bl)) rss_nil) (rss_one (rs_ret (re_and (re_eq hr (re_sub (re_var (pv 6)) (re_mulP re_int (re_div (re_var (pv 6)) re_int))) re_int) (re_one (re_eq hr (re_sumP rfl rfl T.b_sum (re_var (pv 1))) (re_sub (re_mulP re_int (re_var (pv 2))) (re_mulP re_int (re_var (pv 6)))))))))))))))
theorem okn__law_bent (T : Fx P K mg tb.fnA tb.clA) (D : Ds K mg) : ∀ j, FoX P w K mg gb tb (2 + j) "_law_bent" ["m", "thing"] (f__law_bent j)
  | 0 => fo_no D.d__law_bent
  | j + 1 => by
    have F__law_draw : FoX P w K mg gb tb 1 "_law_draw" ["m", "span"] f__law_draw := ok__law_draw T D
    have F__law_of : FoX P w K mg gb tb 2 "_law_of" ["m", "some"] f__law_of := ok__law_of T D
    have F_rec := okn__law_bent T D j
    exact fo_mk D.d__law_bent sc__law_bent fun f cdv A up s H E hr hgu W tk => (rss_cons (rs_if (rt_w (rw_and (rt_of (re_isi (T := "tuple") rfl rfl T.b_isinstance rfl T.b_tuple (by decide +kernel) (re_var (pv 1)))) (rw_and (rt_ne0 hr (re_var (pv 1)) (re_tup ra_nil)) (rw_and1 (rt_gt (re_fo (F__law_draw.up (Nat.le_trans (show 1 ≤ 2 by decide) (Nat.le_add_right _ _))) hr hgu tk rfl (ra_cons (re_var (pv 0)) (ra_cons re_int ra_nil))) re_int))))) (rss_cons (rs_par rfl sc__law_bent.nd (i := 2) (j := 3) rfl rfl (by decide) rfl rfl (ra_cons (re_fo (F__law_draw.up (Nat.le_trans (show 1 ≤ 2 by decide) (Nat.le_add_right _ _))) hr hgu tk rfl (ra_cons (re_var (pv 0)) (ra_cons (re_len rfl T.b_len (re_var (pv 1))) ra_nil))) (ra_cons (re_fo (F__law_draw.up (Nat.le_trans (show 1 ≤ 2 by decide) (Nat.le_add_right _ _))) hr hgu tk rfl (ra_cons (re_var (pv 0)) (ra_cons re_int ra_nil))) ra_nil))) (rss_cons (rs_if (rt_lt (re_var (pv 3)) re_int) (rss_one (rs_ret (re_addP (re_addP (re_slP (re_var (pv 1)) ro_no (ro_yes (re_var (pv 2)))) (re_mulQ (re_slP (re_var (pv 1)) (ro_yes (re_var (pv 2))) (ro_yes (re_addP (re_var (pv 2)) re_int))) (re_mulP re_int (re_var (pv 3))))) (re_slP (re_var (pv 1)) (ro_yes (re_addP (re_var (pv 2)) re_int)) ro_no)))) rss_nil) (rss_cons (rs_if (rt_eq hr (re_var (pv 3)) re_int) (rss_one (rs_ret (re_addP (re_slP (re_var (pv 1)) ro_no (ro_yes (re_var (pv 2)))) (re_revP (re_slP (re_var (pv 1)) (ro_yes (re_var (pv 2))) ro_no))))) rss_nil) (rss_one (rs_ret (re_addP (re_addP (re_slP (re_var (pv 1)) ro_no (ro_yes (re_var (pv 2)))) (re_tup (ra_cons (re_fo F_rec hr hgu tk rfl (ra_cons (re_var (pv 0)) (ra_cons (re_at (re_var (pv 1)) (re_var (pv 2))) ra_nil))) ra_nil))) (re_slP (re_var (pv 1)) (ro_yes (re_addP (re_var (pv 2)) re_int)) ro_no))))))) rss_nil) (rss_one (rs_ret (re_fo (F__law_of.up (Nat.le_trans (show 2 ≤ 2 by decide) (Nat.le_add_right _ _))) hr hgu tk rfl (ra_cons (re_var (pv 0)) (ra_cons (re_f (rf_lst (ra_cons re_non (ra_cons re_bl (ra_cons re_bl (ra_cons re_int (ra_cons re_int (ra_cons (re_neg re_int) (ra_cons re_int (ra_cons re_int (ra_cons re_int (ra_cons (re_neg re_int) (ra_cons re_str (ra_cons (re_tup ra_nil) (ra_cons (re_tup (ra_cons re_int (ra_cons re_int ra_nil))) (ra_cons (re_tup (ra_cons re_int (ra_cons re_int ra_nil))) (ra_cons (re_tup (ra_cons re_int (ra_cons re_int ra_nil))) (ra_cons (re_tup (ra_cons re_int (ra_cons re_int (ra_cons re_int ra_nil)))) (ra_cons (re_f (rf_lst (ra_cons re_int (ra_cons re_int ra_nil)))) (ra_cons (re_f (rf_lst ra_nil)) (ra_cons re_disp0 ra_nil))))))))))))))))))))) ra_nil))))))
theorem ok__law_bent (T : Fx P K mg tb.fnA tb.clA) (D : Ds K mg) : FoX P w K mg gb tb 12 "_law_bent" ["m", "thing"] (f__law_bent fuel__law_bent) := (okn__law_bent T D fuel__law_bent).up (by decide)
theorem ok__law_fault (T : Fx P K mg tb.fnA tb.clA) (D : Ds K mg) : FoX P w K mg gb tb 2 "_law_fault" ["thing"] f__law_fault := by
  have F__law_of_two : FoX P w K mg gb tb 1 "_law_of_two" ["near", "far"] f__law_of_two := ok__law_of_two T D
  exact fo_mk D.d__law_fault sc__law_fault fun f cdv A up s H E hr hgu W tk => (rss_cons (rs_if (rt_w (rw_or (rt_not (rt_of (re_isi (T := "tuple") rfl rfl T.b_isinstance rfl T.b_tuple (by decide +kernel) (re_var (pv 0))))) (rw_or1 (rt_not (rt_lele re_int (re_len rfl T.b_len (re_var (pv 0))) re_int))))) (rss_one (rs_ret (re_tup ra_nil))) rss_nil) (rss_cons (rs_for (passes_of rfl) rfl (ri_enum rfl T.b_enumerate (re_var (pv 0))) (rg_tup rfl (rgs_cons (rg_name (i := 1) sc__law_fault.nd rfl (by first | exact Or.inl rfl | exact Or.inr rfl) (by first | exact Or.inr rfl | exact Or.inl rfl)) (rgs_cons (rg_name (i := 2) sc__law_fault.nd rfl (by first | exact Or.inl rfl | exact Or.inr rfl) (by first | exact Or.inr rfl | exact Or.inl rfl)) rgs_nil))) (rss_cons (rs_if (rt_w (rw_or (rt_not (rt_of (re_isi (T := "tuple") rfl rfl T.b_isinstance rfl T.b_tuple (by decide +kernel) (re_var (pv 2))))) (rw_or1 (rt_ne hr (re_len rfl T.b_len (re_var (pv 2))) re_int)))) (rss_one (rs_ret (re_tup (ra_cons (re_var (pv 1)) ra_nil)))) rss_nil) (rss_one (rs_if (rt_ne hr (re_f (rf_comp (own := [("two", 4)]) rfl sc__law_fault.nd (ri_seq (re_var (pv 2))) (blkOk_by (own := [("two", 4)]) (by kernel_rfl)) (fun _ _ _ _ _ => (rg_name (i := 4) sc__law_fault.nd rfl (by first | exact Or.inl rfl | exact Or.inr rfl) (by first | exact Or.inr rfl | exact Or.inl rfl))) (fun _ _ _ _ _ => (rts_one (rt_w (rw_or (rt_not (rt_of (re_isi (T := "int") rfl rfl T.b_isinstance rfl T.b_int (by decide +kernel) (re_var (pv 4))))) (rw_or (rt_of (re_isi (T := "bool") rfl rfl T.b_isinstance rfl T.b_bool (by decide +kernel) (re_var (pv 4)))) (rw_or1 (rt_gt (re_abs rfl T.b_abs (re_var (pv 4))) re_int))))))) (fun _ _ _ _ _ => re_int) (by decide))) (re_f (rf_lst ra_nil))) (rss_one (rs_ret (re_tup (ra_cons (re_var (pv 1)) ra_nil)))) rss_nil)))) (rss_cons (rs_newC (i := 3) (own := [("k", 1)]) rfl sc__law_fault.nd rfl rfl (sw_true rfl rfl rfl rfl) (ri_range1 rfl T.b_range (re_len rfl T.b_len (re_var (pv 0)))) (blkOk_by (own := [("k", 1)]) (by kernel_rfl)) (fun _ _ _ _ _ => (rg_name (i := 1) sc__law_fault.nd rfl (by first | exact Or.inl rfl | exact Or.inr rfl) (by first | exact Or.inr rfl | exact Or.inl rfl))) (fun _ _ _ _ _ => (rts_one (rt_ne hr (re_fo (F__law_of_two.up (by decide)) hr hgu takesN rfl (ra_cons (re_at (re_var (pv 0)) (re_var (pv 1))) (ra_cons (re_at (re_var (pv 0)) (re_sub (re_addP (re_var (pv 1)) re_int) (re_len rfl T.b_len (re_var (pv 0))))) ra_nil))) re_int))) (fun _ _ _ _ _ => (re_var (pv 1))) (by decide)) (rss_one (rs_ret (re_if (rt_ne hr (re_var (pv 3)) (re_f (rf_lst ra_nil))) (re_tup (ra_cons (re_at (re_var (pv 3)) re_int) ra_nil)) re_non))))))
theorem hd__law_heard {k : Nat} (T : Fx P K mg tb.fnA tb.clA) (D : Ds K mg) : Hd P w K mg gb tb k "_law_heard" "call" N__law_heard st__law_heard g__law_heard :=
  ⟨D.d__law_heard, sc__law_heard, rfl, .inl rfl, fun C hC f cdv A up s H E hr hgu clo hclo W tk => (rss_one (rs_try T.exm rfl rfl sc__law_heard.nd tk (fun W' pn xe tk' hp' => (rss_one (rs_ret (re_f (rf_lst (ra_cons (hclo _ _ _ tk' _ _) ra_nil)))))) (rc_fld (i := 1) (T.e_BadLot _ 1 rfl) rfl rfl rfl (by decide) (rc_fld (i := 1) (T.e_BadNumber _ 0 rfl) rfl rfl rfl (by decide) .nil))))⟩
theorem ok_law (T : Fx P K mg tb.fnA tb.clA) (D : Ds K mg) (hE : ∀ n F a, ¬ tb.isL n F a) (hp_ : tb.hp = Tabs TT) (LL : Ls K mg gb TT) : FoX P w K mg gb tb 13 "law" ["script"] f_law := by
  obtain ⟨c, Pt, DL, TB, hm_, hu_⟩ := LL.l_law.ex
  refine fo_mkL (L := L_law) DL hE sc_law fun f A up s H E hr hgu W tk => ?_
  have LM := lm_mk (X := cxOf (L2.CX P w) P w K mg gb N_law "law" (defScope st_law) f (.ref c) A up s H E) (tb := tb) (k := 10) (nL := nL_law) (lamS := lamS_law) (L := L_law) rfl trivial
  exact (rss_cons (rs_for (passes_of rfl) rfl (ri_range1 rfl T.b_range (re_addP re_int (re_min2 rfl rfl T.b_min re_int (re_len rfl T.b_len (re_var (pv 0)))))) (rg_name (i := 1) sc_law.nd rfl (by first | exact Or.inl rfl | exact Or.inr rfl) (by first | exact Or.inr rfl | exact Or.inl rfl)) (rss_cons (rs_set (i := 2) sc_law.nd rfl (by first | exact Or.inl rfl | exact Or.inr rfl) (re_fo ((ok__law_begun (by exact T) D).up (by decide)) hr hgu tk rfl (ra_cons (re_var (pv 0)) (ra_cons (re_var (pv 1)) ra_nil))) (by first | exact Or.inr rfl | exact Or.inl rfl)) (rss_cons (rs_set (i := 3) sc_law.nd rfl (by first | exact Or.inl rfl | exact Or.inr rfl) (re_fo ((ok__law_some_round (by exact T) D).up (by decide)) hr hgu tk rfl (ra_cons (re_var (pv 2)) ra_nil)) (by first | exact Or.inr rfl | exact Or.inl rfl)) (rss_cons (rs_if (rt_not (rt_of (re_fo ((ok__law_right (by exact T) D).up (by decide)) hr hgu tk rfl (ra_cons (re_var (pv 3)) ra_nil)))) (rss_one (rs_ret re_bl)) rss_nil) (rss_cons (rs_for (passes_of rfl) rfl (ri_range1 rfl T.b_range re_int) (rg_name (i := 4) sc_law.nd rfl (by first | exact Or.inl rfl | exact Or.inr rfl) (by first | exact Or.inr rfl | exact Or.inl rfl)) (rss_cons (rs_set (i := 5) sc_law.nd rfl (by first | exact Or.inl rfl | exact Or.inr rfl) (re_fo ((ok__law_bent (by exact T) D).up (by decide)) hr hgu tk rfl (ra_cons (re_var (pv 2)) (ra_cons (re_var (pv 3)) ra_nil))) (by first | exact Or.inr rfl | exact Or.inl rfl)) (rss_cons (rs_set (i := 5) sc_law.nd rfl (by first | exact Or.inl rfl | exact Or.inr rfl) (re_if (rt_eq hr (re_var (pv 4)) re_int) (re_fo ((ok__law_bent (by exact T) D).up (by decide)) hr hgu tk rfl (ra_cons (re_var (pv 2)) (ra_cons (re_var (pv 5)) ra_nil))) (re_var (pv 5))) (by first | exact Or.inr rfl | exact Or.inl rfl)) (rss_cons (rs_set (i := 6) sc_law.nd rfl (by first | exact Or.inl rfl | exact Or.inr rfl) (re_fo ((ok__law_fault (by exact T) D).up (by decide)) hr hgu tk rfl (ra_cons (re_var (pv 5)) ra_nil)) (by first | exact Or.inr rfl | exact Or.inl rfl)) (rss_cons (rs_if (rt_not (rt_of (re_fo ((ok__law_like (by exact T) D).up (by decide)) hr hgu tk rfl (ra_cons (re_foK ((ok_is_round (by exact T) D).up (by decide)) hr hgu tk rfl (rk_cons (re_var (pv 5)) rk_nil)) (ra_cons (re_isN (re_var (pv 6)) re_non) ra_nil))))) (rss_one (rs_ret re_bl)) rss_nil) (rss_cons (rs_if (rt_isN (re_var (pv 6)) re_non) (rss_cons (rs_if (rt_not (rt_of (re_fo ((ok__law_right (by exact T) D).up (by decide)) hr hgu tk rfl (ra_cons (re_var (pv 5)) ra_nil)))) (rss_one (rs_ret re_bl)) rss_nil) (rss_one rs_cont)) rss_nil) (rss_cons (rs_newC (i := 7) (own := [("call", 12)]) rfl sc_law.nd rfl rfl (sw_true rfl rfl rfl rfl) (ri_seq (re_tup (ra_cons (re_globF rfl T.f_need_round) (ra_cons (re_globF rfl T.f_round_numbers) (ra_cons (re_globF rfl T.f_turns_of) ra_nil))))) (blkOk_by (own := [("call", 12)]) (by kernel_rfl)) (fun _ _ _ _ _ => (rg_name (i := 12) sc_law.nd rfl (by first | exact Or.inl rfl | exact Or.inr rfl) (by first | exact Or.inr rfl | exact Or.inl rfl))) (fun _ _ _ _ _ => rts_nil) (fun _ _ _ _ _ => (re_heardB (e0 := lb_law_0) (k := 10) (hd__law_heard (by exact T) D) ⟨lamK_by (N := N_law) (by kernel_rfl), fun _ _ _ _ _ _ _ => BindsTo.of_eq rfl, fun f c2 A up s H E hr hgu C hC W tk => (re_callL (i := 12) (k := 10) (fun n hn => match n, hn with | 0, _ => Ft.up (k := 10) (ft_of (ok_need_round (by exact T) D) T.f_need_round) (by decide) | 1, _ => Ft.up (k := 10) (ft_of (ok_round_numbers (by exact T) D) T.f_round_numbers) (by decide) | 2, _ => Ft.up (k := 10) (ft_of (ok_turns_of (by exact T) D) T.f_turns_of) (by decide) | 3, _ => Ft.up (k := 10) (ft_of (ok_round_raised (by exact T) D) T.f_round_raised) (by decide) | 4, _ => Ft.up (k := 10) (ft_of (ok_round_lowered (by exact T) D) T.f_round_lowered) (by decide) | n + 5, h => absurd h (by simp)) hr hgu tk rfl (by first | exact Or.inl rfl | exact Or.inr (Or.inl rfl) | exact Or.inr (Or.inr rfl)) (ra_cons (re_var (pv 5)) ra_nil))⟩ (hr.mono (by decide)) hgu takesN rfl (re_lam (e := lb_law_0) hp_ (fun F f h => ⟨by decide, _, rfl, h⟩) TB rfl hm_ hu_ rfl rfl (lamK_by (N := N_law) (by kernel_rfl))))) (by decide)) (rss_cons (rs_set (i := 7) sc_law.nd rfl (by first | exact Or.inl rfl | exact Or.inr rfl) (re_addP (re_var (pv 7)) (re_f (rf_comp (own := [("call", 12)]) rfl sc_law.nd (ri_seq (re_tup (ra_cons (re_globF rfl T.f_round_raised) (ra_cons (re_globF rfl T.f_round_lowered) ra_nil)))) (blkOk_by (own := [("call", 12)]) (by kernel_rfl)) (fun _ _ _ _ _ => (rg_name (i := 12) sc_law.nd rfl (by first | exact Or.inl rfl | exact Or.inr rfl) (by first | exact Or.inr rfl | exact Or.inl rfl))) (fun _ _ _ _ _ => rts_nil) (fun _ _ _ _ _ => (re_heardB (e0 := lb_law_1) (k := 10) (hd__law_heard (by exact T) D) ⟨lamK_by (N := N_law) (by kernel_rfl), ⟨rfl, fun _ _ _ _ _ _ _ _ _ _ _ h1 h2 => BindsTo.of_defaults rfl h1 h2 rfl rfl⟩, fun f c2 A up s H E hr hgu C hC W tk => (re_callL (i := 12) (k := 10) (fun n hn => match n, hn with | 0, _ => Ft.up (k := 10) (ft_of (ok_need_round (by exact T) D) T.f_need_round) (by decide) | 1, _ => Ft.up (k := 10) (ft_of (ok_round_numbers (by exact T) D) T.f_round_numbers) (by decide) | 2, _ => Ft.up (k := 10) (ft_of (ok_turns_of (by exact T) D) T.f_turns_of) (by decide) | 3, _ => Ft.up (k := 10) (ft_of (ok_round_raised (by exact T) D) T.f_round_raised) (by decide) | 4, _ => Ft.up (k := 10) (ft_of (ok_round_lowered (by exact T) D) T.f_round_lowered) (by decide) | n + 5, h => absurd h (by simp)) hr hgu tk rfl (by first | exact Or.inl rfl | exact Or.inr (Or.inl rfl) | exact Or.inr (Or.inr rfl)) (ra_cons (re_var (pv 5)) (ra_cons re_non ra_nil)))⟩ (hr.mono (by decide)) hgu takesN rfl (re_lamk (e := lb_law_1) hp_ (fun F f h => ⟨by decide, _, rfl, h⟩) TB rfl hm_ hu_ rfl rfl rfl (lamK_by (N := N_law) (by kernel_rfl))))) (by decide)))) (by first | exact Or.inr rfl | exact Or.inl rfl)) (rss_one (rs_if (rt_not (rt_of (re_fo ((ok__law_like (by exact T) D).up (by decide)) hr hgu tk rfl (ra_cons (re_var (pv 7)) (ra_cons (re_mulP (re_f (rf_lst (ra_cons (re_tup (ra_cons re_str (ra_cons (re_var (pv 6)) ra_nil))) ra_nil))) re_int) ra_nil))))) (rss_one (rs_ret re_bl)) rss_nil)))))))))) (rss_cons (rs_set (i := 8) sc_law.nd rfl (by first | exact Or.inl rfl | exact Or.inr rfl) (re_fo ((ok__law_of (by exact T) D).up (by decide)) hr hgu tk rfl (ra_cons (re_var (pv 2)) (ra_cons (re_f (rf_lst (ra_cons re_non (ra_cons (re_neg re_int) (ra_cons (re_len rfl T.b_len (re_var (pv 3))) (ra_cons re_bl (ra_cons re_str (ra_cons (re_tup (ra_cons re_int ra_nil)) (ra_cons re_disp0 ra_nil))))))))) ra_nil))) (by first | exact Or.inr rfl | exact Or.inl rfl)) (rss_one (rs_if (rt_not (rt_of (re_fo ((ok__law_like (by exact T) D).up (by decide)) hr hgu tk rfl (ra_cons (re_f (rf_comp (own := [("call", 12)]) rfl sc_law.nd (ri_seq (re_tup (ra_cons (re_globF rfl T.f_round_raised) (ra_cons (re_globF rfl T.f_round_lowered) ra_nil)))) (blkOk_by (own := [("call", 12)]) (by kernel_rfl)) (fun _ _ _ _ _ => (rg_name (i := 12) sc_law.nd rfl (by first | exact Or.inl rfl | exact Or.inr rfl) (by first | exact Or.inr rfl | exact Or.inl rfl))) (fun _ _ _ _ _ => rts_nil) (fun _ _ _ _ _ => (re_heardB (e0 := lb_law_2) (k := 10) (hd__law_heard (by exact T) D) ⟨lamK_by (N := N_law) (by kernel_rfl), fun _ _ _ _ _ _ _ => BindsTo.of_eq rfl, fun f c2 A up s H E hr hgu C hC W tk => (re_callL (i := 12) (k := 10) (fun n hn => match n, hn with | 0, _ => Ft.up (k := 10) (ft_of (ok_need_round (by exact T) D) T.f_need_round) (by decide) | 1, _ => Ft.up (k := 10) (ft_of (ok_round_numbers (by exact T) D) T.f_round_numbers) (by decide) | 2, _ => Ft.up (k := 10) (ft_of (ok_turns_of (by exact T) D) T.f_turns_of) (by decide) | 3, _ => Ft.up (k := 10) (ft_of (ok_round_raised (by exact T) D) T.f_round_raised) (by decide) | 4, _ => Ft.up (k := 10) (ft_of (ok_round_lowered (by exact T) D) T.f_round_lowered) (by decide) | n + 5, h => absurd h (by simp)) hr hgu tk rfl (by first | exact Or.inl rfl | exact Or.inr (Or.inl rfl) | exact Or.inr (Or.inr rfl)) (ra_cons (re_var (pv 3)) (ra_cons (re_var (pv 8)) ra_nil)))⟩ (hr.mono (by decide)) hgu takesN rfl (re_lam (e := lb_law_2) hp_ (fun F f h => ⟨by decide, _, rfl, h⟩) TB rfl hm_ hu_ rfl rfl (lamK_by (N := N_law) (by kernel_rfl))))) (by decide))) (ra_cons (re_mulP (re_f (rf_lst (ra_cons (re_tup (ra_cons re_str (ra_cons (re_var (pv 8)) ra_nil))) ra_nil))) re_int) ra_nil))))) (rss_one (rs_ret re_bl)) rss_nil)))))))) (rss_cons (rs_asg (re_tup (ra_cons (re_tup (ra_cons (re_tup (ra_cons re_int (ra_cons re_int ra_nil))) (ra_cons (re_tup (ra_cons re_int (ra_cons re_int ra_nil))) (ra_cons (re_tup (ra_cons (re_neg re_int) (ra_cons (re_neg re_int) ra_nil))) ra_nil)))) (ra_cons (re_tup (ra_cons (re_tup (ra_cons re_int (ra_cons re_int ra_nil))) (ra_cons (re_tup (ra_cons re_int (ra_cons re_int ra_nil))) (ra_cons (re_tup (ra_cons (re_neg re_int) (ra_cons re_int ra_nil))) (ra_cons (re_tup (ra_cons re_int (ra_cons (re_neg re_int) ra_nil))) ra_nil))))) ra_nil))) (rg_tup rfl (rgs_cons (rg_name (i := 9) sc_law.nd rfl (by first | exact Or.inl rfl | exact Or.inr rfl) (by first | exact Or.inr rfl | exact Or.inl rfl)) (rgs_cons (rg_name (i := 10) sc_law.nd rfl (by first | exact Or.inl rfl | exact Or.inr rfl) (by first | exact Or.inr rfl | exact Or.inl rfl)) rgs_nil)))) (rss_cons (rs_set (i := 7) sc_law.nd rfl (by first | exact Or.inl rfl | exact Or.inr rfl) (re_f (rf_lst (ra_cons (re_fo ((ok_round_numbers (by exact T) D).up (by decide)) hr hgu tk rfl (ra_cons (re_var (pv 9)) ra_nil)) (ra_cons (re_fo ((ok_turns_of (by exact T) D).up (by decide)) hr hgu tk rfl (ra_cons (re_var (pv 9)) ra_nil)) (ra_cons (re_fo ((ok_round_numbers (by exact T) D).up (by decide)) hr hgu tk rfl (ra_cons (re_var (pv 10)) ra_nil)) (ra_cons (re_fo ((ok_turns_of (by exact T) D).up (by decide)) hr hgu tk rfl (ra_cons (re_mulP (re_var (pv 10)) re_int) ra_nil)) (ra_cons (re_fo ((ok_is_round (by exact T) D).up (by decide)) hr hgu tk rfl (ra_cons (re_mulP (re_var (pv 10)) re_int) ra_nil)) (ra_cons (re_fo ((ok_turns_of (by exact T) D).up (by decide)) hr hgu tk rfl (ra_cons (re_mulP (re_var (pv 9)) re_int) ra_nil)) ra_nil)))))))) (by first | exact Or.inr rfl | exact Or.inl rfl)) (rss_cons (rs_set (i := 11) sc_law.nd rfl (by first | exact Or.inl rfl | exact Or.inr rfl) (re_f (rf_lst (ra_cons (re_tup (ra_cons (re_neg re_int) (ra_cons (re_neg re_int) (ra_cons (re_neg re_int) ra_nil)))) (ra_cons re_int (ra_cons (re_tup (ra_cons re_int (ra_cons re_int (ra_cons re_int (ra_cons (re_neg re_int) ra_nil))))) (ra_cons re_int (ra_cons re_bl (ra_cons re_int ra_nil)))))))) (by first | exact Or.inr rfl | exact Or.inl rfl)) (rss_cons (rs_set (i := 7) sc_law.nd rfl (by first | exact Or.inl rfl | exact Or.inr rfl) (re_addP (re_var (pv 7)) (re_f (rf_comp (own := [("one", 13)]) rfl sc_law.nd (ri_seq (re_tup (ra_cons (re_revP (re_var (pv 9))) (ra_cons (re_mulP (re_var (pv 9)) re_int) (ra_cons (re_slP (re_var (pv 9)) ro_no (ro_yes re_int)) (ra_cons (re_tup (ra_cons (re_tup (ra_cons re_int (ra_cons re_int ra_nil))) (ra_cons (re_tup (ra_cons re_int (ra_cons re_int ra_nil))) (ra_cons (re_tup (ra_cons (re_neg re_int) (ra_cons (re_neg re_int) ra_nil))) ra_nil)))) (ra_cons (re_tup (ra_cons (re_tup (ra_cons re_int (ra_cons re_int ra_nil))) (ra_cons (re_tup (ra_cons re_int (ra_cons re_int ra_nil))) (ra_cons (re_tup (ra_cons (re_neg re_int) (ra_cons re_non ra_nil))) ra_nil)))) ra_nil))))))) (blkOk_by (own := [("one", 13)]) (by kernel_rfl)) (fun _ _ _ _ _ => (rg_name (i := 13) sc_law.nd rfl (by first | exact Or.inl rfl | exact Or.inr rfl) (by first | exact Or.inr rfl | exact Or.inl rfl))) (fun _ _ _ _ _ => rts_nil) (fun _ _ _ _ _ => (re_heardB (e0 := lb_law_3) (k := 10) (hd__law_heard (by exact T) D) ⟨lamK_by (N := N_law) (by kernel_rfl), fun _ _ _ _ _ _ _ => BindsTo.of_eq rfl, fun f c2 A up s H E hr hgu C hC W tk => (re_fo ((ok_need_round (by exact T) D).up (by decide)) hr hgu tk rfl (ra_cons (re_var (pv 13)) ra_nil))⟩ (hr.mono (by decide)) hgu takesN rfl (re_lam (e := lb_law_3) hp_ (fun F f h => ⟨by decide, _, rfl, h⟩) TB rfl hm_ hu_ rfl rfl (lamK_by (N := N_law) (by kernel_rfl))))) (by decide)))) (by first | exact Or.inr rfl | exact Or.inl rfl)) (rss_one (rs_ret (re_fo ((ok__law_like (by exact T) D).up (by decide)) hr hgu tk rfl (ra_cons (re_var (pv 7)) (ra_cons (re_addP (re_var (pv 11)) (re_f (rf_lst (ra_cons (re_tup (ra_cons re_str (ra_cons (re_tup (ra_cons re_int ra_nil)) ra_nil))) (ra_cons (re_tup (ra_cons re_str (ra_cons (re_tup ra_nil) ra_nil))) (ra_cons (re_tup (ra_cons re_str (ra_cons (re_tup ra_nil) ra_nil))) (ra_cons (re_tup (ra_cons re_str (ra_cons (re_tup (ra_cons re_int ra_nil)) ra_nil))) (ra_cons (re_tup (ra_cons re_str (ra_cons (re_tup (ra_cons re_int ra_nil)) ra_nil))) ra_nil)))))))) ra_nil))))))))))
theorem head_mk {h : Heap} {a0 a1 a2 a3 a4 c0 c1 c2 c3 cm0 pm0 : Addr} (b_abs : mg "abs" = none) (b_all : mg "all" = none) (b_bool : mg "bool" = none) (b_enumerate : mg "enumerate" = none) (b_int : mg "int" = none) (b_isinstance : mg "isinstance" = none) (b_len : mg "len" = none) (b_list : mg "list" = none) (b_min : mg "min" = none) (b_range : mg "range" = none) (b_repr : mg "repr" = none) (b_sum : mg "sum" = none) (b_tuple : mg "tuple" = none) (b_zip : mg "zip" = none) (c_MOST_PLACE : ConI mg "MOST_PLACE" 1000) (c_MOST_ROUND : ConI mg "MOST_ROUND" 60) (e_BadNumber : Er1C P K mg c0 "BadNumber" "value" "no number: ") (e_BadLot : Er1C P K mg c1 "BadLot" "path" "no lot: ") (e_TooGreat : Er1C P K mg c2 "TooGreat" "most" "more than is let: ") (e_Unlike : Er0C K mg c3 "Unlike") (x_0_0 : PySem.W.exmOne K (.ref c0) (.ref c0) = some true) (x_0_1 : PySem.W.exmOne K (.ref c0) (.ref c1) = some false) (x_0_2 : PySem.W.exmOne K (.ref c0) (.ref c2) = some false) (x_0_3 : PySem.W.exmOne K (.ref c0) (.ref c3) = some false) (x_1_0 : PySem.W.exmOne K (.ref c1) (.ref c0) = some false) (x_1_1 : PySem.W.exmOne K (.ref c1) (.ref c1) = some true) (x_1_2 : PySem.W.exmOne K (.ref c1) (.ref c2) = some false) (x_1_3 : PySem.W.exmOne K (.ref c1) (.ref c3) = some false) (x_2_0 : PySem.W.exmOne K (.ref c2) (.ref c0) = some false) (x_2_1 : PySem.W.exmOne K (.ref c2) (.ref c1) = some false) (x_2_2 : PySem.W.exmOne K (.ref c2) (.ref c2) = some true) (x_2_3 : PySem.W.exmOne K (.ref c2) (.ref c3) = some false) (x_3_0 : PySem.W.exmOne K (.ref c3) (.ref c0) = some false) (x_3_1 : PySem.W.exmOne K (.ref c3) (.ref c1) = some false) (x_3_2 : PySem.W.exmOne K (.ref c3) (.ref c2) = some false) (x_3_3 : PySem.W.exmOne K (.ref c3) (.ref c3) = some true) (f_need_round : mg "need_round" = some (.ref a0)) (f_round_numbers : mg "round_numbers" = some (.ref a1)) (f_turns_of : mg "turns_of" = some (.ref a2)) (f_round_raised : mg "round_raised" = some (.ref a3)) (f_round_lowered : mg "round_lowered" = some (.ref a4)) (d_is_integer : Dt K mg "is_integer" st_is_integer ["value"]) (d_is_from : Dt K mg "is_from" st_is_from ["value", "least", "most"]) (d_is_pair : Dt K mg "is_pair" st_is_pair ["value"]) (d_next_pairs : Dt K mg "next_pairs" st_next_pairs ["loop"]) (d_determinant : Dt K mg "determinant" st_determinant ["near", "far"]) (d_round_fault : Dt K mg "round_fault" st_round_fault ["value"]) (d_need_round : Dt K mg "need_round" st_need_round ["loop"]) (d_numbers_in : Dt K mg "numbers_in" st_numbers_in ["loop"]) (d_round_numbers : Dt K mg "round_numbers" st_round_numbers ["loop"]) (d_goes_past : Dt K mg "goes_past" st_goes_past ["near", "far"]) (d_turns_of : Dt K mg "turns_of" st_turns_of ["loop"]) (d_need_place : Dt K mg "need_place" st_need_place ["loop", "place"]) (d_round_raised : Dt K mg "round_raised" st_round_raised ["loop", "place"]) (d_round_lowered : Dt K mg "round_lowered" st_round_lowered ["loop", "place"]) (d__law_begun : Dt K mg "_law_begun" st__law_begun ["script", "turn"]) (d__law_draw : Dt K mg "_law_draw" st__law_draw ["m", "span"]) (d__law_of : Dt K mg "_law_of" st__law_of ["m", "some"]) (d__law_shuffled : Dt K mg "_law_shuffled" st__law_shuffled ["m", "count"]) (d__law_some_turn : Dt K mg "_law_some_turn" st__law_some_turn ["m", "deep"]) (d__law_of_two : Dt K mg "_law_of_two" st__law_of_two ["near", "far"]) (d__law_moved : Dt K mg "_law_moved" st__law_moved ["point_so", "turn_so", "shift_so"]) (d__law_some_round : Dt K mg "_law_some_round" st__law_some_round ["m"]) (d__law_like : Dt K mg "_law_like" st__law_like ["told", "due"]) (d__law_quarter : Dt K mg "_law_quarter" st__law_quarter ["one"]) (d_is_round : Dt K mg "is_round" st_is_round ["loop"]) (d__law_right : Dt K mg "_law_right" st__law_right ["thing"]) (d__law_bent : Dt K mg "_law_bent" st__law_bent ["m", "thing"]) (d__law_fault : Dt K mg "_law_fault" st__law_fault ["thing"]) (d__law_heard : Dt K mg "_law_heard" st__law_heard ["call"]) (l_law : DtL K mg "law" st_law ["script"] cm0) (p_law : ∃ (cl : Value) (od : Option Addr) (vs : Array Value) (sl : Array (Option Value)), K.lookup cm0 = some ⟨cl, od, .fields vs, sl⟩ ∧ vs[11]? = some (.ref pm0)) (tE0 : h.get? pm0 = some { cls := .none, data := .fields #[] }) (tK0 : K.lookup pm0 = none) (tC0 : PySem.W.CodeHd h cm0 pm0) : ∃ (as cs : List Addr) (ts : List (Addr × Addr)) (TT : List (Addr × Str)), (∀ p ∈ ts, h.get? p.2 = some { cls := .none, data := .fields #[] }) ∧ (∀ p ∈ ts, K.lookup p.2 = none) ∧ (∀ p ∈ ts, PySem.W.CodeHd h p.1 p.2) ∧ (∀ p ∈ TT, ∃ c, (c, p.1) ∈ ts) ∧ ∀ gb : Heap, (∀ p ∈ ts, TabB gb mg p.1 p.2) → FoX P w K mg gb (mkTbT as cs TT) 13 "law" ["script"] f_law := by
  refine ⟨[a0, a1, a2, a3, a4], [c0, c1, c2, c3], [(cm0, pm0)], [(pm0, ((envOfC "law" (defScope st_law) 0 0 .none).qual ++ "<lambda>"))], List.forall_mem_cons.mpr ⟨tE0, fun _ z => nomatch z⟩, List.forall_mem_cons.mpr ⟨tK0, fun _ z => nomatch z⟩, List.forall_mem_cons.mpr ⟨tC0, fun _ z => nomatch z⟩, ?_, fun gb TB => ok_law ⟨b_abs, b_all, b_bool, b_enumerate, b_int, b_isinstance, b_len, b_list, b_min, b_range, b_repr, b_sum, b_tuple, b_zip, c_MOST_PLACE, c_MOST_ROUND, e_BadNumber, e_BadLot, e_TooGreat, e_Unlike, ?_, f_need_round, f_round_numbers, f_turns_of, f_round_raised, f_round_lowered⟩ ⟨d_is_integer, d_is_from, d_is_pair, d_next_pairs, d_determinant, d_round_fault, d_need_round, d_numbers_in, d_round_numbers, d_goes_past, d_turns_of, d_need_place, d_round_raised, d_round_lowered, d__law_begun, d__law_draw, d__law_of, d__law_shuffled, d__law_some_turn, d__law_of_two, d__law_moved, d__law_some_round, d__law_like, d__law_quarter, d_is_round, d__law_right, d__law_bent, d__law_fault, d__law_heard⟩ (fun _ _ _ z => z) rfl ⟨⟨cm0, pm0, l_law, TB (cm0, pm0) (by simp), by simp [envOfC], ?_⟩⟩⟩
  · intro p hp
    simp only [List.mem_cons, List.not_mem_nil, or_false] at hp
    rcases hp with rfl
    · exact ⟨cm0, by simp⟩
  · exact fun i j hi hj => match i, j, hi, hj with
      | 0, 0, _, _ => x_0_0
      | 0, 1, _, _ => x_0_1
      | 0, 2, _, _ => x_0_2
      | 0, 3, _, _ => x_0_3
      | 1, 0, _, _ => x_1_0
      | 1, 1, _, _ => x_1_1
      | 1, 2, _, _ => x_1_2
      | 1, 3, _, _ => x_1_3
      | 2, 0, _, _ => x_2_0
      | 2, 1, _, _ => x_2_1
      | 2, 2, _, _ => x_2_2
      | 2, 3, _, _ => x_2_3
      | 3, 0, _, _ => x_3_0
      | 3, 1, _, _ => x_3_1
      | 3, 2, _, _ => x_3_2
      | 3, 3, _, _ => x_3_3
      | i + 4, _, h, _ => absurd h (by simp)
      | _, j + 4, _, h => absurd h (by simp)
  · intro p hp he
    simp only [List.mem_cons, List.not_mem_nil, or_false] at hp
    rcases hp with rfl
    · rfl
end
end K59
end

section
set_option Elab.async false
set_option linter.all false
set_option maxRecDepth 100000
set_option maxHeartbeats 2000000
/-! H0: what the laws' helpers compute: begun, draw, of, like -/
namespace EvH
open PySem PySem.Spec PyProof.Rows L2 EvL
def g__law_begun : SemS := (gSeq (gSet 2 (sBin oAddP (sSlP (sVar 0) (oYes (sVar 1)) oNo) (sSlP (sVar 0) oNo (oYes (sVar 1))))) (gSeq (gNew 3 (fComp (iSeq (sVar 0)) (tgN 5) (sT (sBin oGe (sVar 5) (sBin oPow (sC (.int 10)) (sC (.int 18))))) (sVar 5) [5])) (gSeq (gSet 4 (sBin oAddP (sC (.int 91)) (sVar 1))) (gSeq (gFor (iSeq (sVar 2)) (tgN 5) (gSet 4 (sBin oMod (sUn oInt (sBin oAddP (sBin oMulP (sVar 4) (sC (.int 48271))) (sVar 5))) (sC (.int 2147483647))))) (gRet (sDisp ["left", "seed", "cells", "spot"] (lCons (sIf (sT (sBin oLt (sVar 1) (sUn oLen (sVar 3)))) (sBin oIx (sVar 3) (sVar 1)) (sC (.int 0))) (lCons (sVar 4) (lCons (sBin oAddP (sVar 2) (sF (fLst (lCons (sBin oAddP (sBin oMulP (sC (.int 61)) (sVar 1)) (sC (.int 17))) lNil)))) (lCons (sC (.int 0)) lNil))))))))))
def f__law_begun : Fs := fnS 6 2 g__law_begun
def g__law_draw : SemS := (gSeq (gIf (sT (sBin oGt (sUn (oDGet "left") (sVar 0)) (sC (.int 0)))) (gSeq (gSet 2 (sBin oMod (sUn oInt (sUn (oDGet "left") (sVar 0))) (sVar 1))) (gSeq (gPutD 0 "left" (sBin oDiv (sUn (oDGet "left") (sVar 0)) (sVar 1))) (gRet (sVar 2)))) gNext) (gSeq (gSet 3 (sUn (oDGet "spot") (sVar 0))) (gSeq (gPutD 0 "spot" (sBin oAddP (sVar 3) (sC (.int 1)))) (gSeq (gPar 4 5 (lCons (sUn (oDGet "cells") (sVar 0)) (lCons (sBin oAddP (sUn (oDGet "seed") (sVar 0)) (sBin oMulP (sBin oMulP (sC (.int 40503)) (sVar 3)) (sVar 3))) lNil))) (gSeq (gSet 6 (sBin oIx (sVar 4) (sBin oMod (sUn oInt (sVar 3)) (sUn oLen (sVar 4))))) (gSeq (gSet 7 (sBin oMod (sUn oInt (sBin oAddP (sBin oMulP (sVar 6) (sBin oAddP (sBin oMulP (sC (.int 2)) (sVar 3)) (sC (.int 3)))) (sVar 5))) (sC (.int 2147483647)))) (gSeq (gSet 7 (sBin oMod (sUn oInt (sBin oAddP (sBin oAddP (sBin oMulP (sVar 7) (sVar 7)) (sBin oMulP (sC (.int 69621)) (sVar 3))) (sUn (oDGet "seed") (sVar 0)))) (sC (.int 2147483629)))) (gRet (sBin oMod (sBin oDiv (sBin oMod (sUn oInt (sBin oAddP (sBin oMulP (sVar 7) (sC (.int 48271))) (sVar 3))) (sC (.int 2147483647))) (sC (.int 11))) (sVar 1))))))))))
def f__law_draw : Fs := fnS 8 2 g__law_draw
def g__law_of : SemS := (gRet (sBin oIx (sVar 1) (sCall f__law_draw (lCons (sVar 0) (lCons (sUn oLen (sVar 1)) lNil)))))
def f__law_of : Fs := fnS 2 2 g__law_of
def g__law_like : SemS := (gRet (sAnd (sBin oEq (sVar 0) (sVar 1)) (sBin oEqS (sUn oRepr (sVar 0)) (sUn oRepr (sVar 1)))))
def f__law_like : Fs := fnS 2 2 g__law_like
/-- the state of draws -/
def dk (L S : Int) (C : List Int) (p : Int) : List (Key × Dv) := [(.inr "left", .int L), (.inr "seed", .int S), (.inr "cells", .lst (C.map .int)), (.inr "spot", .int p)]
section
variable (L S : Int) (C : List Int) (p x : Int)
theorem g_left : kGet (dk L S C p) (.inr "left") = some (.int L) := rfl
theorem g_seed : kGet (dk L S C p) (.inr "seed") = some (.int S) := rfl
theorem g_cells : kGet (dk L S C p) (.inr "cells") = some (.lst (C.map .int)) := rfl
theorem g_spot : kGet (dk L S C p) (.inr "spot") = some (.int p) := rfl
theorem p_left : kPut (dk L S C p) (.inr "left") (.int x) = dk x S C p := rfl
theorem p_spot : kPut (dk L S C p) (.inr "spot") (.int x) = dk L S C x := rfl
end
theorem rv_d (m : Store) (d : Dv) : rv m (.d d) = some d := rfl
theorem rv_dic {m : Store} {j : Nat} {kvs : List (Key × Dv)} (h : m[j]? = some (.dic kvs)) : rv m (.o j) = some (.dic kvs) := by simp [rv, h]
theorem rv_lst {m : Store} {j : Nat} {xs : List Dv} (h : m[j]? = some (.lst xs)) : rv m (.o j) = some (.lst xs) := by simp [rv, h]
theorem frz_d (m : Store) (d : Dv) : frz m (.d d) = some (d, m) := rfl
theorem t_gt0 {L : Int} (h : 0 < L) : iop (fun i j => Dv.bl (decide (j < i))) (.int L) (.int 0) = some (.bl true) := by simp [iop, h]
theorem take_set (m : Store) (j : Nat) (x : So) : (m.set j x).take m.length = m.set j x := List.take_of_length_le (by simp)
theorem take_self (m : Store) : m.take m.length = m := List.take_of_length_le (Nat.le_refl _)
theorem get_set {m : Store} {j : Nat} {x y : So} (h : m[j]? = some y) : (m.set j x)[j]? = some x := List.getElem?_set_self (List.getElem?_eq_some_iff.mp h).1
theorem rv_set {m : Store} {j : Nat} {kvs : List (Key × Dv)} {y : So} (h : m[j]? = some y) : rv (m.set j (.dic kvs)) (.o j) = some (.dic kvs) := rv_dic (get_set h)
theorem fm {a b : Int} (h : 0 < b) : a.fmod b = a % b := Int.fmod_eq_emod_of_nonneg a (Int.le_of_lt h)
theorem fd {a b : Int} (h : 0 < b) : a.fdiv b = a / b := Int.fdiv_eq_ediv_of_nonneg a (Int.le_of_lt h)
theorem oIx_l {xs : List Dv} {k : Int} {d : Dv} (h0 : 0 ≤ k) (h : xs[k.toNat]? = some d) : oIx (.lst xs) (.int k) = some d := by
  have hl := (List.getElem?_eq_some_iff.mp h).1
  have e : ixN xs.length k = some k.toNat := by
    unfold ixN
    rw [if_pos h0, if_pos (by omega)]
  show atI xs k = _
  unfold atI
  rw [e]
  exact h
theorem draw_left {m : Store} {j : Nat} {L S p span : Int} {C : List Int} (hm : m[j]? = some (.dic (dk L S C p))) (hL : 0 < L) (hs : 1 ≤ span) (hs2 : span < 1152921504606846976) :
    f__law_draw [.o j, .d (.int span)] m = .ok (.d (.int (L % span))) (m.set j (.dic (dk (L / span) S C p))) := by
  have hd : divOk L span = true := by simp only [divOk, Bool.and_eq_true, decide_eq_true_eq]; exact ⟨by omega, wide_lt60 (by omega)⟩
  have hmo : modOk L span = true := by simp [modOk]; omega
  have hf : fits ((dk L S C p).length + 1) = true := rfl
  simp [fnS, start0, gSeq, gIf, gSet, gRet, gPutD, gPar, gNext, gExpr, gAsg, gNew, sVar, sC, sBin, sUn, sT, sIf, sTup, sCall, lCons, lNil, truth, Rs.bind, Rs.st, rv_d, frz_d, fnEnd, oDGet, iop, iopC, oInt, oMulP_i, oAddP_i, f__law_draw, g__law_draw, rv_dic hm, hm, g_left, hL, hd, hmo, hf, p_left, take_set, fm (a := L) (show 0 < span by omega), fd (a := L) (show 0 < span by omega)]
theorem draw_cells {m : Store} {j : Nat} {L S p span : Int} {C : List Int} (hm : m[j]? = some (.dic (dk L S C p))) (hL : L ≤ 0) (hs : 1 ≤ span) (hs2 : span < 1152921504606846976) (hp : 0 ≤ p) (hp2 : p < 1000000) (hC : C ≠ []) (hC2 : C.length ≤ 1000) :
    ∃ r, 0 ≤ r ∧ r < span ∧ f__law_draw [.o j, .d (.int span)] m = .ok (.d (.int r)) (m.set j (.dic (dk L S C (p + 1)))) := by
  have hf : fits ((dk L S C p).length + 1) = true := rfl
  have hL' : ¬ 0 < L := by omega
  have hn : 0 < C.length := List.length_pos_iff.mpr hC
  have hlen : oLen (.lst (C.map .int)) = some (.int C.length) := by simp [oLen]
  have k1 : mulOk 40503 p = true := by simp [mulOk]
  have k2 : mulOk (40503 * p) p = true := by simp [mulOk]; omega
  have k3 : ∀ q, modOk q (C.length : Int) = true := fun q => by simp [modOk]; omega
  have k4 : mulOk 2 p = true := by simp [mulOk]
  have k5 : ∀ c, mulOk c (2 * p + 3) = true := fun c => by simp [mulOk]; omega
  have k6 : ∀ q, modOk q 2147483647 = true := fun q => by simp [modOk]
  have k7 : ∀ q, modOk q 2147483629 = true := fun q => by simp [modOk]
  have k8 : ∀ q : Int, mulOk (q % 2147483647) (q % 2147483647) = true := fun q => by simp [mulOk]; omega
  have k9 : mulOk 69621 p = true := by simp [mulOk]
  have k10 : ∀ q : Int, mulOk q 48271 = true := fun q => by simp [mulOk]
  have k11 : ∀ q : Int, divOk q 11 = true := fun q => by simp only [divOk, Bool.and_eq_true, decide_eq_true_eq]; exact ⟨by decide, wide_lt60 (by decide)⟩
  have k12 : ∀ q : Int, modOk q span = true := fun q => by simp [modOk]; omega
  have hix : ∃ c : Int, oIx (.lst (C.map .int)) (.int (p % C.length)) = some (.int c) := by
    have h1 : 0 ≤ p % (C.length : Int) := Int.emod_nonneg _ (by omega)
    have h2 : p % (C.length : Int) < C.length := Int.emod_lt_of_pos _ (by omega)
    have h3 : (p % (C.length : Int)).toNat < C.length := by omega
    exact ⟨C[(p % (C.length : Int)).toNat], oIx_l h1 (by simp [h3])⟩
  obtain ⟨c, hc⟩ := hix
  obtain ⟨q, hq⟩ : ∃ q : Int, f__law_draw [.o j, .d (.int span)] m = .ok (.d (.int (q % span))) (m.set j (.dic (dk L S C (p + 1)))) := by
    simp [fnS, start0, gSeq, gIf, gSet, gRet, gPutD, gPar, gNext, gExpr, gAsg, gNew, sVar, sC, sBin, sUn, sT, sIf, sTup, sCall, lCons, lNil, truth, Rs.bind, Rs.st, rv_d, frz_d, fnEnd, oDGet, iop, iopC, oInt, oMulP_i, oAddP_i, f__law_draw, g__law_draw, rv_dic hm, hm, g_left, g_spot, g_seed, g_cells, hL', hf, p_spot, rv_set hm, k1, k2, k3, k4, k5, k6, k7, k8, k9, k10, k11, k12, hlen, hc, fm (a := p) (show (0 : Int) < C.length by omega), fun a : Int => fm (a := a) (b := 2147483647) (by decide), fun a : Int => fm (a := a) (b := 2147483629) (by decide), fun a : Int => fd (a := a) (b := 11) (by decide), fun a : Int => fm (a := a) (b := span) (by omega), take_set]
    exact ⟨_, rfl⟩
  exact ⟨q % span, Int.emod_nonneg _ (by omega), Int.emod_lt_of_pos _ (by omega), hq⟩
end EvH
end

section
set_option Elab.async false
set_option linter.all false
set_option maxRecDepth 100000
set_option maxHeartbeats 2000000
/-! H2: loops, comprehensions, draws by what holds of them -/
namespace EvH
open PySem PySem.Spec PyProof.Rows L2 EvL
theorem loop_inv {G : Tgt} {body : SemS} {xs : List Dv} (I : Nat → En → Store → Prop) (R : Sv → Store → Prop)
    (hs : ∀ i d en m, xs[i]? = some d → I i en m → ∃ en1, G (.d d) en m = some en1 ∧ ((∃ e2 m2, (body en1 m = .nx e2 m2 ∨ body en1 m = .ct e2 m2) ∧ I (i + 1) e2 m2) ∨ ∃ v m2, body en1 m = .rt v m2 ∧ R v m2)) :
    ∀ {en m}, I 0 en m → (∃ en' m', loop G body xs en m = .nx en' m' ∧ I xs.length en' m') ∨ ∃ v m2, loop G body xs en m = .rt v m2 ∧ R v m2 := by
  have main : ∀ (n i : Nat) en m, i + n = xs.length → I i en m → (∃ en' m', loop G body (xs.drop i) en m = .nx en' m' ∧ I xs.length en' m') ∨ ∃ v m2, loop G body (xs.drop i) en m = .rt v m2 ∧ R v m2 := by
    intro n
    induction n with
    | zero =>
      intro i en m hi h
      have : i = xs.length := by omega
      subst this
      rw [List.drop_length]
      exact .inl ⟨en, m, rfl, h⟩
    | succ n ih =>
      intro i en m hi h
      have hlt : i < xs.length := by omega
      rw [List.drop_eq_getElem_cons hlt]
      obtain ⟨en1, e1, q⟩ := hs i xs[i] en m (List.getElem?_eq_getElem hlt) h
      rcases q with ⟨e2, m2, q | q, h2⟩ | ⟨v, m2, q, r⟩
      · have := ih (i + 1) e2 m2 (by omega) h2
        unfold loop
        rw [e1]
        dsimp only
        rw [q]
        exact this
      · have := ih (i + 1) e2 m2 (by omega) h2
        unfold loop
        rw [e1]
        dsimp only
        rw [q]
        exact this
      · right
        refine ⟨v, m2, ?_, r⟩
        unfold loop
        rw [e1]
        dsimp only
        rw [q]
  intro en m h
  have := main xs.length 0 en m (by omega) h
  rwa [List.drop_zero] at this
/-- a loop that only goes on -/
theorem loop_nx {G : Tgt} {body : SemS} {xs : List Dv} (I : Nat → En → Store → Prop)
    (hs : ∀ i d en m, xs[i]? = some d → I i en m → ∃ en1, G (.d d) en m = some en1 ∧ ∃ e2 m2, (body en1 m = .nx e2 m2 ∨ body en1 m = .ct e2 m2) ∧ I (i + 1) e2 m2) {en : En} {m : Store} (h0 : I 0 en m) : ∃ en' m', loop G body xs en m = .nx en' m' ∧ I xs.length en' m' := by
  rcases loop_inv (body := body) I (fun _ _ => False) (fun i d en m hx h => by obtain ⟨e1, a, b⟩ := hs i d en m hx h; exact ⟨e1, a, .inl b⟩) h0 with h | ⟨_, _, _, h⟩
  · exact h
  · exact h.elim
theorem comp_inv {fi : SemF} {G : Tgt} {t : SemB} {f : Sem1} {vs : List Nat} {en : En} {m m1 : Store} {xs : List Dv} (hfi : fi en m = .ok xs m1) (hx : xs.length ≤ 16777216) (I : Nat → List Dv → Store → Prop) (h0 : I 0 [] (m1 ++ [.lst []]))
    (hs : ∀ i d acc S, xs[i]? = some d → S.length = m1.length + 1 → S[m1.length]? = some (.lst acc) → I i acc S → ∃ en', G (.d d) (wipeE en vs) S = some en' ∧
      ((∃ S1, t en' S = .ok false S1 ∧ S1.length = m1.length + 1 ∧ S1[m1.length]? = some (.lst acc) ∧ I (i + 1) acc S1) ∨
        ∃ S1 z S2, t en' S = .ok true S1 ∧ f en' S1 = .ok (.d z) S2 ∧ S2.length = m1.length + 1 ∧ S2[m1.length]? = some (.lst acc) ∧ I (i + 1) (acc ++ [z]) (S2.set m1.length (.lst (acc ++ [z]))))) :
    ∃ acc S, fComp fi G t f vs en m = .ok acc (S.take m1.length) ∧ S.length = m1.length + 1 ∧ acc.length ≤ xs.length ∧ I xs.length acc S := by
  have main : ∀ (n i : Nat) acc S, i + n = xs.length → acc.length ≤ i → S.length = m1.length + 1 → S[m1.length]? = some (.lst acc) → I i acc S →
      ∃ acc' S', lcLoop m1.length G t f (wipeE en vs) (xs.drop i) S = .ok acc' (S'.take m1.length) ∧ S'.length = m1.length + 1 ∧ acc'.length ≤ xs.length ∧ I xs.length acc' S' := by
    intro n
    induction n with
    | zero =>
      intro i acc S hi ha hl hg h
      have : i = xs.length := by omega
      subst this
      rw [List.drop_length]
      exact ⟨acc, S, by unfold lcLoop; rw [if_pos hl, hg], hl, ha, h⟩
    | succ n ih =>
      intro i acc S hi ha hl hg h
      have hlt : i < xs.length := by omega
      rw [List.drop_eq_getElem_cons hlt]
      obtain ⟨en', e1, q⟩ := hs i xs[i] acc S (List.getElem?_eq_getElem hlt) hl hg h
      unfold lcLoop
      rw [e1]
      dsimp only
      rcases q with ⟨S1, q1, q2, q3, q4⟩ | ⟨S1, z, S2, q1, q2, q3, q4, q5⟩
      · rw [q1]
        exact ih (i + 1) acc S1 (by omega) (by omega) q2 q3 q4
      · rw [q1]
        dsimp only
        rw [q2]
        have hf : fits (acc.length + 1) = true := by unfold fits; rw [decide_eq_true_eq]; omega
        simp only [frz_d, q4, hf, if_true]
        exact ih (i + 1) (acc ++ [z]) _ (by omega) (by simp; omega) (by simp [q3]) (by rw [List.getElem?_set_self (by omega)]) q5
  obtain ⟨acc, S, h1, h2, h3, h4⟩ := main xs.length 0 [] (m1 ++ [.lst []]) (by omega) (Nat.le_refl _) (by simp) (by simp) h0
  rw [List.drop_zero] at h1
  refine ⟨acc, S, ?_, h2, h3, h4⟩
  unfold fComp
  rw [hfi]
  exact h1
/-- a comprehension whose parts leave the store alone -/
theorem comp_pure {fi : SemF} {G : Tgt} {t : SemB} {f : Sem1} {vs : List Nat} {en : En} {m m1 : Store} {xs : List Dv} (b : Dv → Bool) (v : Dv → Dv) (hfi : fi en m = .ok xs m1) (hx : xs.length ≤ 16777216)
    (hs : ∀ d acc, d ∈ xs → ∃ en', G (.d d) (wipeE en vs) (m1 ++ [.lst acc]) = some en' ∧ t en' (m1 ++ [.lst acc]) = .ok (b d) (m1 ++ [.lst acc]) ∧ (b d = true → f en' (m1 ++ [.lst acc]) = .ok (.d (v d)) (m1 ++ [.lst acc]))) :
    fComp fi G t f vs en m = .ok ((xs.filter b).map v) m1 := by
  obtain ⟨acc, S, h1, h2, h3, rfl, rfl⟩ := comp_inv (vs := vs) (t := t) (f := f) (G := G) hfi hx (fun i acc S => S = m1 ++ [.lst acc] ∧ acc = ((xs.take i).filter b).map v) ⟨rfl, by simp⟩ (by
    rintro i d acc S hd hl hg ⟨rfl, ha⟩
    obtain ⟨en', e1, e2, e3⟩ := hs d acc (List.mem_of_getElem? hd)
    refine ⟨en', e1, ?_⟩
    have tk : xs.take (i + 1) = xs.take i ++ [d] := by rw [List.take_add_one, hd]; rfl
    cases hb : b d with
    | false =>
      rw [hb] at e2
      exact .inl ⟨_, e2, hl, hg, rfl, by rw [tk, List.filter_append, ha]; simp [hb]⟩
    | true =>
      rw [hb] at e2
      exact .inr ⟨_, v d, _, e2, e3 hb, hl, hg, by simp, by rw [tk, List.filter_append, List.map_append, ← ha]; simp [hb]⟩)
  rw [h1]
  simp
/-! draws -/
structure Dr (m : Store) (j : Nat) (b : Int) : Prop where
  ex : ∃ L S C p, m[j]? = some (.dic (dk L S C p)) ∧ 0 ≤ L ∧ C ≠ [] ∧ C.length ≤ 1000 ∧ 0 ≤ p ∧ p ≤ b
/-- all but the thing at j stays -/
structure Sj (j : Nat) (m m' : Store) : Prop where
  len : m'.length = m.length
  at_ : ∀ i, i ≠ j → m'[i]? = m[i]?
theorem Sj.refl (j : Nat) (m : Store) : Sj j m m := ⟨rfl, fun _ _ => rfl⟩
theorem Sj.trans {j : Nat} {a b c : Store} (h : Sj j a b) (h' : Sj j b c) : Sj j a c := ⟨h'.len.trans h.len, fun i hi => (h'.at_ i hi).trans (h.at_ i hi)⟩
theorem Sj.set (j : Nat) (m : Store) (x : So) : Sj j m (m.set j x) := ⟨by simp, fun i hi => by rw [List.getElem?_set_ne (Ne.symm hi)]⟩
theorem Dr.lt {m : Store} {j : Nat} {b : Int} (h : Dr m j b) : j < m.length := by
  obtain ⟨_, _, _, _, h, _⟩ := h.ex
  exact (List.getElem?_eq_some_iff.mp h).1
theorem Dr.mono {m : Store} {j : Nat} {b c : Int} (h : Dr m j b) (hc : b ≤ c) : Dr m j c := by
  obtain ⟨L, S, C, p, h1, h2, h3, h4, h5, h6⟩ := h.ex
  exact ⟨L, S, C, p, h1, h2, h3, h4, h5, by omega⟩
theorem Dr.of {m m' : Store} {j : Nat} {b : Int} (h : Dr m j b) (e : m'[j]? = m[j]?) : Dr m' j b := by
  obtain ⟨L, S, C, p, h1, h2⟩ := h.ex
  exact ⟨L, S, C, p, by rw [e]; exact h1, h2⟩
theorem draw_ok {m : Store} {j : Nat} {b span : Int} (h : Dr m j b) (hb : b < 1000000) (hs : 1 ≤ span) (hs2 : span < 1152921504606846976) : ∃ r m', f__law_draw [.o j, .d (.int span)] m = .ok (.d (.int r)) m' ∧ 0 ≤ r ∧ r < span ∧ Sj j m m' ∧ Dr m' j (b + 1) := by
  obtain ⟨L, S, C, p, h1, h2, h3, h4, h5, h6⟩ := h.ex
  by_cases hL : 0 < L
  · refine ⟨_, _, draw_left h1 hL hs hs2, Int.emod_nonneg _ (by omega), Int.emod_lt_of_pos _ (by omega), .set _ _ _, ⟨_, _, _, _, get_set h1, Int.ediv_nonneg h2 (by omega), h3, h4, h5, by omega⟩⟩
  · obtain ⟨r, r1, r2, e⟩ := draw_cells h1 (by omega) hs hs2 h5 (by omega) h3 h4
    exact ⟨r, _, e, r1, r2, .set _ _ _, ⟨_, _, _, _, get_set h1, h2, h3, h4, by omega, by omega⟩⟩
theorem oIx_t {xs : List Dv} {k : Int} {d : Dv} (h0 : 0 ≤ k) (h : xs[k.toNat]? = some d) : oIx (.tup xs) (.int k) = some d := by
  have := oIx_l h0 h
  exact this
theorem of_ok {m : Store} {j : Nat} {b : Int} {xs : List Dv} (h : Dr m j b) (hb : b < 1000000) (hx : xs ≠ []) (hx2 : xs.length < 1000000) : ∃ (k : Nat) (x : Dv) (m' : Store), xs[k]? = some x ∧ f__law_of [.o j, .d (.lst xs)] m = .ok (.d x) m' ∧ Sj j m m' ∧ Dr m' j (b + 1) := by
  have hp : 0 < xs.length := List.length_pos_iff.mpr hx
  obtain ⟨r, m', e, r1, r2, s1, d1⟩ := draw_ok (span := xs.length) h hb (by omega) (by omega)
  have hl : oLen (.lst xs) = some (.int xs.length) := by simp [oLen]
  have hk : r.toNat < xs.length := by omega
  refine ⟨r.toNat, xs[r.toNat], m', List.getElem?_eq_getElem hk, ?_, s1, d1⟩
  have hi : oIx (.lst xs) (.int r) = some xs[r.toNat] := oIx_l r1 (List.getElem?_eq_getElem hk)
  have tk : m'.take m.length = m' := by rw [← s1.len]; exact take_self m'
  simp [fnS, start0, gSeq, gIf, gSet, gRet, gPutD, gPar, gNext, gExpr, gAsg, gNew, sVar, sC, sBin, sUn, sT, sIf, sTup, sCall, lCons, lNil, truth, Rs.bind, Rs.st, rv_d, frz_d, fnEnd, oDGet, iop, iopC, oInt, oMulP_i, oAddP_i, f__law_of, g__law_of, hl, e, hi, tk]
theorem of_ok2 {m : Store} {i j : Nat} {b : Int} {xs : List Dv} (h : Dr m j b) (hm : m[i]? = some (.lst xs)) (hb : b < 1000000) (hx : xs ≠ []) (hx2 : xs.length < 1000000) : ∃ (k : Nat) (x : Dv) (m' : Store), xs[k]? = some x ∧ f__law_of [.o j, .o i] m = .ok (.d x) m' ∧ Sj j m m' ∧ Dr m' j (b + 1) := by
  have hp : 0 < xs.length := List.length_pos_iff.mpr hx
  have hij : i ≠ j := fun z => by
    obtain ⟨L, S, C, p, h1, _⟩ := h.ex
    rw [← z, hm] at h1
    cases h1
  obtain ⟨r, m', e, r1, r2, s1, d1⟩ := draw_ok (span := xs.length) h hb (by omega) (by omega)
  have hl : oLen (.lst xs) = some (.int xs.length) := by simp [oLen]
  have hk : r.toNat < xs.length := by omega
  refine ⟨r.toNat, xs[r.toNat], m', List.getElem?_eq_getElem hk, ?_, s1, d1⟩
  have hi : oIx (.lst xs) (.int r) = some xs[r.toNat] := oIx_l r1 (List.getElem?_eq_getElem hk)
  have tk : m'.take m.length = m' := by rw [← s1.len]; exact take_self m'
  have r0 : rv m (.o i) = some (.lst xs) := rv_lst hm
  have r1' : rv m' (.o i) = some (.lst xs) := rv_lst (by rw [s1.at_ i hij]; exact hm)
  simp [fnS, start0, gSeq, gIf, gSet, gRet, gPutD, gPar, gNext, gExpr, gAsg, gNew, sVar, sC, sBin, sUn, sT, sIf, sTup, sCall, lCons, lNil, truth, Rs.bind, Rs.st, rv_d, frz_d, fnEnd, oDGet, iop, iopC, oInt, oMulP_i, oAddP_i, f__law_of, g__law_of, hl, e, hi, tk, r0, r1']
end EvH
end

section
set_option Elab.async false
set_option linter.all false
set_option maxRecDepth 100000
set_option maxHeartbeats 2000000
/-! H3: a def's own things above the caller's store -/
namespace EvH
open PySem PySem.Spec PyProof.Rows L2 EvL
/-- S: the caller's store, the thing at j aside, and more above -/
structure Xt (j : Nat) (m S : Store) : Prop where
  len : m.length ≤ S.length
  at_ : ∀ i, i < m.length → i ≠ j → S[i]? = m[i]?
theorem Xt.refl (j : Nat) (m : Store) : Xt j m m := ⟨Nat.le_refl _, fun _ _ _ => rfl⟩
theorem Xt.sj {j : Nat} {m S S' : Store} (h : Xt j m S) (h' : Sj j S S') : Xt j m S' := ⟨by rw [h'.len]; exact h.len, fun i hi hj => (h'.at_ i hj).trans (h.at_ i hi hj)⟩
theorem Xt.push {j : Nat} {m S : Store} (h : Xt j m S) (x : So) : Xt j m (S ++ [x]) := ⟨by simp; have := h.len; omega, fun i hi hj => by rw [List.getElem?_append_left (by have := h.len; omega)]; exact h.at_ i hi hj⟩
theorem Xt.put {j k : Nat} {m S : Store} (h : Xt j m S) (hk : m.length ≤ k) (x : So) : Xt j m (S.set k x) := ⟨by simp; exact h.len, fun i hi hj => by rw [List.getElem?_set_ne (by omega)]; exact h.at_ i hi hj⟩
theorem Xt.cut {j : Nat} {m S : Store} (h : Xt j m S) : Sj j m (S.take m.length) := ⟨by have := h.len; simp; omega, fun i hi => by
  rw [List.getElem?_take]
  split
  · rename_i hl; exact h.at_ i hl hi
  · rename_i hl; rw [List.getElem?_eq_none (by omega)]⟩
theorem Dr.cut {S : Store} {j n : Nat} {b : Int} (h : Dr S j b) (hj : j < n) : Dr (S.take n) j b := h.of (by rw [List.getElem?_take, if_pos hj])
theorem Dr.push {S : Store} {j : Nat} {b : Int} (h : Dr S j b) (x : So) : Dr (S ++ [x]) j b := h.of (by rw [List.getElem?_append_left h.lt])
theorem Dr.put {S : Store} {j k : Nat} {b : Int} (h : Dr S j b) (hk : k ≠ j) (x : So) : Dr (S.set k x) j b := h.of (by rw [List.getElem?_set_ne hk])
theorem get_push (S : Store) (x : So) : (S ++ [x])[S.length]? = some x := by simp
theorem get_keep {S : Store} {i : Nat} {y x : So} (h : S[i]? = some y) : (S ++ [x])[i]? = some y := by
  rw [List.getElem?_append_left (List.getElem?_eq_some_iff.mp h).1]; exact h
theorem ne_dic {S : Store} {i j : Nat} {b : Int} {xs : List Dv} (h : Dr S j b) (hi : S[i]? = some (.lst xs)) : i ≠ j := fun z => by
  obtain ⟨L, S', C, p, h1, _⟩ := h.ex
  rw [← z, hi] at h1
  cases h1
/-! equality of ints -/
theorem eqv_int (i j : Int) : PyData.eqv (.int i) (.int j) = decide (i = j) := by
  first | rfl | simp [PyData.eqv]
theorem good_int (i : Int) : good (.int i) = true := rfl
theorem oEq_int (i j : Int) : oEq (.int i) (.int j) = some (.bl (decide (i = j))) := by
  unfold oEq
  rw [good_int, good_int]
  show some (Dv.bl (PyData.eqv (.int i) (.int j))) = _
  rw [eqv_int]
theorem oNe_int (i j : Int) : oNe (.int i) (.int j) = some (.bl (!decide (i = j))) := by
  unfold oNe
  rw [good_int, good_int]
  show some (Dv.bl (!PyData.eqv (.int i) (.int j))) = _
  rw [eqv_int]
theorem iRange1_ok {f : Sem1} {en : En} {m m' : Store} {k : Int} (h : f en m = .ok (.d (.int k)) m') (h1 : -(2 ^ 62) ≤ k) (h2 : k < 2 ^ 62) : iRange1 f en m = .ok (rng 0 k) m' := by
  simp [iRange1, Rs.bind, h, rv_d, rngOk]
  omega
theorem rng_get {lo hi : Int} {i : Nat} {d : Dv} (h : (rng lo hi)[i]? = some d) : d = .int (lo + i) ∧ (i : Int) < hi - lo := by
  unfold rng at h
  rw [List.getElem?_map] at h
  cases e : (List.range (hi - lo).toNat)[i]? with
  | none => rw [e] at h; cases h
  | some n =>
    rw [e] at h
    have := List.getElem?_eq_some_iff.mp e
    obtain ⟨h1, h2⟩ := this
    simp at h1 h2
    subst h2
    cases h
    exact ⟨rfl, by omega⟩
theorem rng_len (lo hi : Int) : (rng lo hi).length = (hi - lo).toNat := by unfold rng; simp
theorem rng_mem {lo hi : Int} {d : Dv} (h : d ∈ rng lo hi) : ∃ i : Int, d = .int i ∧ lo ≤ i ∧ i < hi := by
  obtain ⟨i, hi⟩ := List.getElem?_of_mem h
  obtain ⟨rfl, h2⟩ := rng_get hi
  exact ⟨_, rfl, by omega, by omega⟩
theorem rng_nat (k : Nat) : rng 0 k = (List.range k).map fun i : Nat => Dv.int i := by unfold rng; simp
theorem iSeq_d {f : Sem1} {en : En} {m m' : Store} {xs : List Dv} (h : f en m = .ok (.d (.lst xs)) m') : iSeq f en m = .ok xs m' := by simp [iSeq, Rs.bind, h, frz_d, items]
theorem iSeq_t {f : Sem1} {en : En} {m m' : Store} {xs : List Dv} (h : f en m = .ok (.d (.tup xs)) m') : iSeq f en m = .ok xs m' := by simp [iSeq, Rs.bind, h, frz_d, items]
theorem iSeq_s {f : Sem1} {en : En} {m m' : Store} {ns : List Int} (h : f en m = .ok (.d (.scr ns)) m') : iSeq f en m = .ok (ns.map .int) m' := by simp [iSeq, Rs.bind, h, frz_d, items]
theorem iSeq_o {f : Sem1} {en : En} {m m' : Store} {q : Nat} {xs : List Dv} (h : f en m = .ok (.o q) m') (hq : m'[q]? = some (.lst xs)) : iSeq f en m = .ok xs (m'.set q .gone) := by simp [iSeq, Rs.bind, h, frz, hq, items]
theorem Xt.len' {j : Nat} {m S : Store} (h : Xt j m S) : m.length ≤ S.length := h.len
/-! steps -/
section
variable {en e1 : En} {m m1 : Store} {i k : Nat} {f : Sem1} {ff : SemF} {x : Sv} {xs : List Dv} {y : Dv} {g1 g2 : SemS} {t : SemB} {b : Bool} {G : Tgt} {fi : SemF} {body : SemS} {r : Sr}
theorem gSet_ok (h : f en m = .ok x m1) : gSet i f en m = .nx (en.set i (some x)) m1 := by simp [gSet, Rs.st, h]
theorem gNew_ok (h : ff en m = .ok xs m1) : gNew i ff en m = .nx (en.set i (some (.o m1.length))) (m1 ++ [.lst xs]) := by simp [gNew, Rs.st, h]
theorem gSeq_ok (h : g1 en m = .nx e1 m1) : gSeq g1 g2 en m = g2 e1 m1 := by simp [gSeq, h]
theorem gSeq_rt (h : g1 en m = .rt x m1) : gSeq g1 g2 en m = .rt x m1 := by simp [gSeq, h]
theorem gRet_ok (h : f en m = .ok x m1) : gRet f en m = .rt x m1 := by simp [gRet, Rs.st, h]
theorem gIf_t (h : t en m = .ok true m1) : gIf t g1 g2 en m = g1 en m1 := by simp [gIf, Rs.st, h]
theorem gIf_f (h : t en m = .ok false m1) : gIf t g1 g2 en m = g2 en m1 := by simp [gIf, Rs.st, h]
theorem gIf_ok (h : t en m = .ok b m1) : gIf t g1 g2 en m = if b = true then g1 en m1 else g2 en m1 := by simp [gIf, Rs.st, h]
theorem gApp_ok {zs : List Dv} (h0 : en[i]? = some (some (.o k))) (hk0 : m[k]? = some (.lst zs)) (h : f en m = .ok (.d y) m1) (hk : m1[k]? = some (.lst xs)) (hf : fits (xs.length + 1) = true) : gApp i f en m = .nx en (m1.set k (.lst (xs ++ [y]))) := by simp [gApp, Rs.st, h0, hk0, h, frz_d, hk, hf]
theorem gFor_ok (h : fi en m = .ok xs m1) : gFor fi G body en m = loop G body xs en m1 := by simp [gFor, Rs.st, h]
theorem gAsg_ok (h : f en m = .ok x m1) (hG : G x en m1 = some e1) : gAsg f G en m = .nx e1 m1 := by simp [gAsg, Rs.st, h, hG]
theorem sVar_ok (h : en[i]? = some (some x)) : sVar i en m = .ok x m := by unfold sVar; rw [h]
theorem sC_ok (d : Dv) : sC d en m = .ok (.d d) m := rfl
variable {fa fb fc : Sem1} {m2 m3 : Store} {a c d u v : Dv} {op : Dv → Dv → Option Dv} {up : Dv → Option Dv} {w z : Sv} {fl : SemL} {ws : List Sv} {g : Fs}
theorem sBin_ok (ha : fa en m = .ok w m1) (hb : fb en m1 = .ok z m2) (h1 : rv m2 w = some u) (h2 : rv m2 z = some v) (ho : op u v = some d) : sBin op fa fb en m = .ok (.d d) m2 := by simp [sBin, Rs.bind, ha, hb, h1, h2, ho]
theorem sUn_ok (ha : fa en m = .ok w m1) (h1 : rv m1 w = some u) (ho : up u = some d) : sUn up fa en m = .ok (.d d) m1 := by simp [sUn, Rs.bind, ha, h1, ho]
theorem sT_ok {b : Bool} (ha : fa en m = .ok (.d (.bl b)) m1) : sT fa en m = .ok b m1 := by simp [sT, Rs.bind, ha, rv_d, truth]
theorem lNil_ok : lNil en m = .ok [] m := rfl
theorem lCons_ok (ha : fa en m = .ok w m1) (hb : fl en m1 = .ok ws m2) : lCons fa fl en m = .ok (w :: ws) m2 := by simp [lCons, Rs.bind, ha, hb]
theorem sCall_ok (ha : fl en m = .ok ws m1) (hg : g ws m1 = .ok w m2) : sCall g fl en m = .ok w m2 := by simp [sCall, Rs.bind, ha, hg]
theorem gPar_ok {i j : Nat} (ha : fl en m = .ok [w, z] m1) : gPar i j fl en m = .nx ((en.set i (some w)).set j (some z)) m1 := by simp [gPar, Rs.st, ha]
theorem sF_ok (ha : ff en m = .ok xs m1) : sF ff en m = .ok (.d (.lst xs)) m1 := by simp [sF, Rs.bind, ha]
theorem sNew_ok (ha : ff en m = .ok xs m1) : sNew ff en m = .ok (.o m1.length) (m1 ++ [.lst xs]) := by simp [sNew, Rs.bind, ha]
theorem fn_d {ns np : Nat} (hn : ws.length = np) (hg : g1 (start0 ns ws) m = .rt (.d d) m1) : fnS ns np g1 ws m = .ok (.d d) (m1.take m.length) := by simp [fnS, hn, hg, fnEnd]
theorem gPutL_ok {l : Int} (hf : f en m = .ok (.d y) m1) (h0 : en[i]? = some (some (.o k))) (ha : fa en m1 = .ok (.d (.int l)) m2) (hk : m2[k]? = some (.lst xs)) (hl : 0 ≤ l) (hl2 : l < xs.length) : gPutL i fa f en m = .nx en (m2.set k (.lst (xs.set l.toNat y))) := by
  have e : ixN xs.length l = some l.toNat := by unfold ixN; rw [if_pos hl, if_pos hl2]
  simp [gPutL, Rs.st, hf, h0, ha, frz_d, rv_d, hk, e]
theorem iZip_l {x1 x2 : List Dv} (ha : fa en m = .ok (.d (.lst x1)) m1) (hb : fb en m1 = .ok (.d (.lst x2)) m2) : EvL.iZip fa fb en m = .ok (pairs x1 x2) m2 := by simp [EvL.iZip, Rs.bind, ha, hb, frz_d, zipD]
theorem iZip_t {x1 x2 : List Dv} (ha : fa en m = .ok (.d (.tup x1)) m1) (hb : fb en m1 = .ok (.d (.tup x2)) m2) : EvL.iZip fa fb en m = .ok (pairs x1 x2) m2 := by simp [EvL.iZip, Rs.bind, ha, hb, frz_d, zipD]
theorem lst_ok {l : List Dv} (ha : fl en m = .ok ws m1) (h : frzL m1 ws = some (l, m2)) (hf : fits l.length = true) : fLst fl en m = .ok l m2 := by simp [fLst, Rs.bind, ha, h, hf]
theorem tup_ok {l : List Dv} (ha : fl en m = .ok ws m1) (h : frzL m1 ws = some (l, m2)) (hf : fits l.length = true) : sTup fl en m = .ok (.d (.tup l)) m2 := by simp [sTup, Rs.bind, ha, h, hf]
theorem if_ok {b : Bool} (ht : t en m = .ok b m1) : sIf t fa fb en m = if b = true then fa en m1 else fb en m1 := by
  cases b <;> simp [sIf, Rs.bind, ht]
end
end EvH
end

section
set_option Elab.async false
set_option linter.all false
set_option maxRecDepth 100000
set_option maxHeartbeats 2000000
/-! H4: comprehensions that draw; begun; like -/
namespace EvH
open PySem PySem.Spec PyProof.Rows L2 EvL
theorem comp_draws {fi : SemF} {G : Tgt} {f : Sem1} {vs : List Nat} {en : En} {m : Store} {xs : List Dv} {j : Nat} {b : Int} (P : Dv → Prop) (hfi : fi en m = .ok xs m) (h : Dr m j b) (hx : xs.length ≤ 1000) (hb : b + xs.length < 1000000)
    (hs : ∀ d S c, d ∈ xs → Dr S j c → c < 1000000 → ∃ en' z S', G (.d d) (wipeE en vs) S = some en' ∧ f en' S = .ok (.d z) S' ∧ Sj j S S' ∧ Dr S' j (c + 1) ∧ P z) :
    ∃ acc m', fComp fi G bYes f vs en m = .ok acc m' ∧ acc.length = xs.length ∧ (∀ z ∈ acc, P z) ∧ Sj j m m' ∧ Dr m' j (b + xs.length) := by
  have hj := h.lt
  obtain ⟨acc, S, e, hl, _, h1, h2, h3, h4⟩ := comp_inv (t := bYes) (G := G) (f := f) (vs := vs) hfi (by omega) (fun i acc S => acc.length = i ∧ (∀ z ∈ acc, P z) ∧ (∀ k, k < m.length → k ≠ j → S[k]? = m[k]?) ∧ Dr S j (b + i))
    ⟨rfl, by simp, fun k hk _ => List.getElem?_append_left hk, (h.push _).mono (by simp)⟩ (by
    rintro i d acc S hd hl hg ⟨a1, a2, a3, a4⟩
    have hi := (List.getElem?_eq_some_iff.mp hd).1
    obtain ⟨en', z, S', e1, e2, sj, d1, pz⟩ := hs d S _ (List.mem_of_getElem? hd) a4 (by omega)
    refine ⟨en', e1, .inr ⟨S, z, S', rfl, e2, by rw [sj.len]; exact hl, by rw [sj.at_ _ (by omega)]; exact hg, by simp [a1], fun y hy => ?_, fun k hk hkj => ?_, ?_⟩⟩
    · rcases List.mem_append.mp hy with q | q
      · exact a2 y q
      · simp at q; subst q; exact pz
    · rw [List.getElem?_set_ne (by omega), sj.at_ k hkj]
      exact a3 k hk hkj
    · exact (d1.put (by omega) _).mono (by omega))
  refine ⟨acc, _, e, h1, h2, ⟨by simp; omega, fun k hk => ?_⟩, h4.cut hj⟩
  rw [List.getElem?_take]
  split
  · rename_i hkl; exact h3 k hkl hk
  · rename_i hkl; rw [List.getElem?_eq_none (by omega)]
/-! like -/
theorem sAnd_t {f g : Sem1} {en : En} {m m1 : Store} (h : f en m = .ok (.d (.bl true)) m1) : sAnd f g en m = g en m1 := by unfold sAnd; rw [h]; rfl
theorem sAnd_f {f g : Sem1} {en : En} {m m1 : Store} (h : f en m = .ok (.d (.bl false)) m1) : sAnd f g en m = .ok (.d (.bl false)) m1 := by unfold sAnd; rw [h]; rfl
theorem sOr_t {f g : Sem1} {en : En} {m m1 : Store} (h : f en m = .ok (.d (.bl true)) m1) : sOr f g en m = .ok (.d (.bl true)) m1 := by unfold sOr; rw [h]; rfl
theorem sOr_f {f g : Sem1} {en : En} {m m1 : Store} (h : f en m = .ok (.d (.bl false)) m1) : sOr f g en m = g en m1 := by unfold sOr; rw [h]; rfl
theorem sNot_ok {f : Sem1} {en : En} {m m1 : Store} {b : Bool} (h : f en m = .ok (.d (.bl b)) m1) : sNot f en m = .ok (.d (.bl (!b))) m1 := by unfold sNot; rw [h]; rfl
theorem bAnd_t {f g : SemB} {en : En} {m m1 : Store} (h : f en m = .ok true m1) : bAnd f g en m = g en m1 := by unfold bAnd; rw [h]; rfl
theorem bAnd_f {f g : SemB} {en : En} {m m1 : Store} (h : f en m = .ok false m1) : bAnd f g en m = .ok false m1 := by unfold bAnd; rw [h]; rfl
theorem bOr_t {f g : SemB} {en : En} {m m1 : Store} (h : f en m = .ok true m1) : bOr f g en m = .ok true m1 := by unfold bOr; rw [h]; rfl
theorem bOr_f {f g : SemB} {en : En} {m m1 : Store} (h : f en m = .ok false m1) : bOr f g en m = g en m1 := by unfold bOr; rw [h]; rfl
theorem bNot_ok {f : SemB} {en : En} {m m1 : Store} {b : Bool} (h : f en m = .ok b m1) : bNot f en m = .ok (!b) m1 := by unfold bNot; rw [h]; rfl
theorem like_ok {d : Dv} {m : Store} (h : showOk d = true) : f__law_like [.d d, .d d] m = .ok (.d (.bl true)) m := by
  have hg : good d = true := by
    unfold showOk at h
    simp only [Bool.and_eq_true] at h
    exact h.1.1.1.1
  have he : PyData.eqv (cv d) (cv d) = true := by
    unfold good at hg
    rw [Bool.and_eq_true] at hg
    exact SeqAt.eqv_refl _ (SeqAt.canLay_of_shaped hg.2)
  have e1 : oEq d d = some (.bl true) := by unfold oEq; rw [hg]; simp [he]
  have e2 : oRepr d = some (.str (cv d).shown) := by unfold oRepr; rw [if_pos h]
  have e3 : ∀ z : Str, oEqS (.str z) (.str z) = some (.bl true) := fun z => by simp [oEqS]
  have h1 : sBin oEq (sVar 0) (sVar 1) [some (.d d), some (.d d)] m = .ok (.d (.bl true)) m := sBin_ok (sVar_ok rfl) (sVar_ok rfl) rfl rfl e1
  have h2 : sBin oEqS (sUn oRepr (sVar 0)) (sUn oRepr (sVar 1)) [some (.d d), some (.d d)] m = .ok (.d (.bl true)) m := sBin_ok (sUn_ok (sVar_ok rfl) rfl e2) (sUn_ok (sVar_ok rfl) rfl e2) rfl rfl (e3 _)
  have h3 : g__law_like [some (.d d), some (.d d)] m = .rt (.d (.bl true)) m := gRet_ok ((sAnd_t h1).trans h2)
  exact (fn_d (ns := 2) (np := 2) (ws := [.d d, .d d]) (g1 := g__law_like) rfl h3).trans (by rw [take_self])
end EvH
end

section
set_option Elab.async false
set_option linter.all false
set_option maxRecDepth 100000
set_option maxHeartbeats 2000000
/-! H5: data small enough for repr -/
namespace EvH
open PySem PySem.Spec PyProof.Rows L2 EvL
structure Sm (w p : Nat) (d : Dv) : Prop where
  fl : flat d = true
  can : (cv d).canLay0 = true
  sh : (cv d).intsShort 13 = true
  sw : (cv d).showable = true
  wt : (cv d).weight ≤ w
  dp : (cv d).depth ≤ p
theorem Sm.mono {w p w' p' : Nat} {d : Dv} (h : Sm w p d) (hw : w ≤ w') (hp : p ≤ p') : Sm w' p' d := ⟨h.fl, h.can, h.sh, h.sw, Nat.le_trans h.wt hw, Nat.le_trans h.dp hp⟩
theorem Sm.ok {w p : Nat} {d : Dv} (h : Sm w p d) (hw : w ≤ 60000) (hp : p ≤ 60) : showOk d = true := by
  have h1 := PyData.shown_le 13 (by decide) (cv d) (PyData.leavesShort_of_canLay0 13 _ h.can h.sh)
  have h2 := h.wt
  have h3 := h.dp
  have h4 := PyData.hasDict_of_canLay _ h.can
  unfold showOk good SeqAt.shaped
  rw [h.fl, h.can, h.sw, h4]
  simp
  omega
theorem Sm.non : Sm 0 0 .non := ⟨rfl, rfl, rfl, rfl, Nat.le_refl _, Nat.le_refl _⟩
theorem Sm.bl (b : Bool) : Sm 0 0 (.bl b) := ⟨rfl, rfl, rfl, rfl, Nat.le_refl _, Nat.le_refl _⟩
theorem Sm.int {i : Int} (h : i.natAbs < 10 ^ 12) : Sm 41 0 (.int i) := by
  have hl : i.natAbs.log2 < 40 := by
    by_cases z : i.natAbs = 0
    · rw [z]; decide
    · exact (Nat.log2_lt z).mpr (Nat.lt_trans h (by decide))
  refine ⟨rfl, rfl, ?_, ?_, ?_, Nat.le_refl _⟩
  · show decide ((PyData.shown (.int i)).length ≤ 13) = true
    exact decide_eq_true (PyData.shown_int_le h)
  · show decide (i.natAbs.log2 < 1920) = true
    exact decide_eq_true (by omega)
  · show (if i == 0 then 0 else i.natAbs.log2 + 1) ≤ 41
    split <;> omega
theorem Sm.str {z : Str} (h : PyData.strOk z = true) : Sm z.cps.size 0 (.str z) := ⟨rfl, h, rfl, rfl, Nat.le_refl _, Nat.le_refl _⟩
theorem smL {w p : Nat} : ∀ {xs : List Dv}, (∀ x ∈ xs, Sm w p x) → flatL xs = true ∧ PyData.canLayAll0 (cvL xs) = true ∧ PyData.intsShortAll 13 (cvL xs) = true ∧ PyData.showableAll (cvL xs) = true ∧ PyData.weightAll (cvL xs) ≤ xs.length * (w + 1) ∧ PyData.depthAll (cvL xs) ≤ p
  | [], _ => ⟨rfl, rfl, rfl, rfl, by simp [cvL, PyData.weightAll], Nat.zero_le _⟩
  | x :: xs, h => by
    obtain ⟨a1, a2, a3, a4, a5, a6⟩ := smL fun y hy => h y (List.mem_cons_of_mem _ hy)
    have hx := h x List.mem_cons_self
    refine ⟨?_, ?_, ?_, ?_, ?_, ?_⟩
    · unfold flatL; rw [hx.fl, a1]; rfl
    · unfold cvL PyData.canLayAll0; rw [hx.can, a2]; rfl
    · unfold cvL PyData.intsShortAll; rw [hx.sh, a3]; rfl
    · unfold cvL PyData.showableAll; rw [hx.sw, a4]; rfl
    · unfold cvL PyData.weightAll
      have := hx.wt
      rw [List.length_cons, Nat.succ_mul]
      omega
    · unfold cvL PyData.depthAll
      have := hx.dp
      omega
theorem Sm.tup {w p n : Nat} {xs : List Dv} (h : ∀ x ∈ xs, Sm w p x) (hn : xs.length ≤ n) : Sm (n * (w + 1)) (p + 1) (.tup xs) := by
  obtain ⟨a1, a2, a3, a4, a5, a6⟩ := smL h
  refine ⟨by unfold flat; exact a1, by unfold cv PyData.canLay0; exact a2, by unfold cv PyData.intsShort; exact a3, by unfold cv PyData.showable; exact a4, ?_, by unfold cv PyData.depth; omega⟩
  unfold cv PyData.weight
  exact Nat.le_trans a5 (Nat.mul_le_mul_right _ hn)
theorem Sm.lst {w p n : Nat} {xs : List Dv} (h : ∀ x ∈ xs, Sm w p x) (hn : xs.length ≤ n) : Sm (n * (w + 1)) (p + 1) (.lst xs) := by
  obtain ⟨a1, a2, a3, a4, a5, a6⟩ := smL h
  refine ⟨by unfold flat; exact a1, by unfold cv PyData.canLay0; exact a2, by unfold cv PyData.intsShort; exact a3, by unfold cv PyData.showable; exact a4, ?_, by unfold cv PyData.depth; omega⟩
  unfold cv PyData.weight
  exact Nat.le_trans a5 (Nat.mul_le_mul_right _ hn)
theorem Sm.ty {w p : Nat} {d : Dv} (h : Sm w p d) : (tyName d).isSome = true := by
  have := h.fl
  cases d with
  | fn n => simp [flat] at this
  | _ => rfl
end EvH
end

section
set_option Elab.async false
set_option linter.all false
set_option maxRecDepth 100000
set_option maxHeartbeats 4000000
/-! H6: the helpers of a law's text, whatever it asks: begun, calls that end in an error -/
namespace EvH
open PySem PySem.Spec PyProof.Rows L2 EvL
theorem fits_le {n : Nat} (h : n ≤ 16777216) : fits n = true := decide_eq_true h
theorem fin_d {ns np : Nat} {g : SemS} {ws : List Sv} {m : Store} {d : Dv} (hn : ws.length = np) (hg : g (start0 ns ws) m = .rt (.d d) m) : fnS ns np g ws m = .ok (.d d) m := (fn_d hn hg).trans (by rw [take_self])
theorem ints_of {P : Int → Prop} : ∀ {l : List Dv}, (∀ z ∈ l, ∃ i, z = .int i ∧ P i) → ∃ t : List Int, l = t.map .int ∧ ∀ x ∈ t, P x
  | [], _ => ⟨[], rfl, by simp⟩
  | z :: l, h => by
    obtain ⟨i, rfl, hi⟩ := h z (by simp)
    obtain ⟨t, rfl, ht⟩ := ints_of (l := l) fun z hz => h z (by simp [hz])
    exact ⟨i :: t, rfl, fun x hx => by
      rcases List.mem_cons.mp hx with rfl | hx
      · exact hi
      · exact ht x hx⟩
theorem draw_at {en : En} {S : Store} {i j : Nat} {b span : Int} {f : Sem1} (h : Dr S j b) (hb : b < 1000000) (hs : 1 ≤ span) (hs2 : span < 1152921504606846976) (h0 : en[i]? = some (some (.o j))) (hf : ∀ S, f en S = .ok (.d (.int span)) S) : ∃ r S', sCall f__law_draw (lCons (sVar i) (lCons f lNil)) en S = .ok (.d (.int r)) S' ∧ 0 ≤ r ∧ r < span ∧ Sj j S S' ∧ Dr S' j (b + 1) := by
  obtain ⟨r, S', e, h1, h2, h3, h4⟩ := draw_ok h hb hs hs2
  exact ⟨r, S', sCall_ok (lCons_ok (sVar_ok h0) (lCons_ok (hf S) lNil_ok)) e, h1, h2, h3, h4⟩
theorem cut_len {α : Type} (xs : List α) (lo hi : Option Int) : (EvL.cutD xs lo hi).length ≤ xs.length := by
  unfold EvL.cutD
  rw [List.length_take, List.length_drop]
  omega
theorem cut_mem {α : Type} {xs : List α} {lo hi : Option Int} {x : α} (h : x ∈ EvL.cutD xs lo hi) : x ∈ xs := List.mem_of_mem_drop (List.mem_of_mem_take h)
theorem slT_ok {f : Sem1} {ol oh : SemO} {en : En} {m : Store} {xs : List Dv} {i j : Option Int} (h : f en m = .ok (.d (.tup xs)) m) (hl : ol en m = .ok i m) (hh : oh en m = .ok j m) : sSlP f ol oh en m = .ok (.d (.tup (EvL.cutD xs i j))) m := by
  simp [sSlP, sElse, sSlT, Rs.bind, h, hl, hh, rv_d]
theorem oYes_ok {f : Sem1} {en : En} {m : Store} {i : Int} (h : f en m = .ok (.d (.int i)) m) : oYes f en m = .ok (some i) m := by simp [oYes, Rs.bind, h, rv_d]
theorem cat_t {xs ys : List Dv} (h : xs.length + ys.length ≤ 1000) : oAddP (.tup xs) (.tup ys) = some (.tup (xs ++ ys)) := by
  have c : fits (xs.length + ys.length) = true := fits_le (by omega)
  show (match (none : Option Dv) with | some d => some d | none => orO oCatT (frO oCatL) (.tup xs) (.tup ys)) = _
  simp [orO, oCatT, c]
theorem rep_t {x : Dv} {d : Nat} (h : 1 ≤ d ∧ d ≤ 1000) : oMulP (.tup [x]) (.int d) = some (.tup (List.replicate d x)) := by
  by_cases h1 : d = 1
  · subst h1; rfl
  · have c : (decide ((2 : Int) ≤ d) && decide ((d : Int) ≤ 1000) && decide ([x].length ≤ 1000) && !([x] : List Dv).isEmpty) = true := by simp; omega
    have f : (List.replicate d [x]).flatten = List.replicate d x := by simp
    have e1 : (oRep1 (.tup [x]) (.int d)) = none := by simp [oRep1]; omega
    show (match (none : Option Dv) with | some d => some d | none => orO oRep1 (orO oRepT (frO oRepL)) (.tup [x]) (.int d)) = _
    simp only [orO, e1, oRepT, if_pos c, Int.toNat_natCast, f]
theorem take_app {α : Type} (m X : List α) : (m ++ X).take m.length = m := by simp
theorem cat_l {xs ys : List Dv} (h : xs.length + ys.length ≤ 1000) : oAddP (.lst xs) (.lst ys) = some (.lst (xs ++ ys)) := by
  have c : fits (xs.length + ys.length) = true := fits_le (by omega)
  show (match (none : Option Dv) with | some d => some d | none => orO oCatT (frO oCatL) (.lst xs) (.lst ys)) = _
  simp [orO, frO, oCatT, oCatL, c]
theorem fin_ex {ns np : Nat} {g : SemS} {ws : List Sv} {m : Store} {x : Ex} {en : En} (hn : ws.length = np) (hg : g (start0 ns ws) m = .ex x en m) : fnS ns np g ws m = .ex x m := by
  unfold fnS
  rw [if_pos hn, hg]
  show Rs.ex x (m.take m.length) = _
  rw [take_self]
theorem gRet_ex {f : Sem1} {en : En} {m m1 : Store} {x : Ex} (h : f en m = .ex x m1) : gRet f en m = .ex x en m1 := by simp [gRet, Rs.st, h]
theorem gSet_ex {f : Sem1} {en : En} {m m1 : Store} {x : Ex} {i : Nat} (h : f en m = .ex x m1) : gSet i f en m = .ex x en m1 := by simp [gSet, Rs.st, h]
theorem gExpr_ex {f : Sem1} {en : En} {m m1 : Store} {x : Ex} (h : f en m = .ex x m1) : gExpr f en m = .ex x en m1 := by simp [gExpr, Rs.st, h]
theorem gExpr_ok {f : Sem1} {en : En} {m m1 : Store} {y : Sv} (h : f en m = .ok y m1) : gExpr f en m = .nx en m1 := by simp [gExpr, Rs.st, h]
theorem gSeq_ex {g1 g2 : SemS} {en e1 : En} {m m1 : Store} {x : Ex} (h : g1 en m = .ex x e1 m1) : gSeq g1 g2 en m = .ex x e1 m1 := by simp [gSeq, h]
theorem lCons_ex {fa : Sem1} {fl : SemL} {en : En} {m m1 : Store} {x : Ex} (h : fa en m = .ex x m1) : lCons fa fl en m = .ex x m1 := by simp [lCons, Rs.bind, h]
theorem lCons_ex2 {fa : Sem1} {fl : SemL} {en : En} {m m1 m2 : Store} {y : Sv} {x : Ex} (h : fa en m = .ok y m1) (h2 : fl en m1 = .ex x m2) : lCons fa fl en m = .ex x m2 := by simp [lCons, Rs.bind, h, h2]
theorem sCall_ex {fl : SemL} {en : En} {m m1 : Store} {g : Fs} {x : Ex} (h : fl en m = .ex x m1) : sCall g fl en m = .ex x m1 := by simp [sCall, Rs.bind, h]
theorem sCall_ex2 {fl : SemL} {en : En} {m m1 m2 : Store} {g : Fs} {x : Ex} {ws : List Sv} (h : fl en m = .ok ws m1) (h2 : g ws m1 = .ex x m2) : sCall g fl en m = .ex x m2 := by simp [sCall, Rs.bind, h, h2]
theorem sBin_ex {op : Dv → Dv → Option Dv} {fa fb : Sem1} {en : En} {m m1 : Store} {x : Ex} (h : fa en m = .ex x m1) : sBin op fa fb en m = .ex x m1 := by simp [sBin, Rs.bind, h]
theorem sUn_ex {op : Dv → Option Dv} {fa : Sem1} {en : En} {m m1 : Store} {x : Ex} (h : fa en m = .ex x m1) : sUn op fa en m = .ex x m1 := by simp [sUn, Rs.bind, h]
theorem sT_ex {fa : Sem1} {en : En} {m m1 : Store} {x : Ex} (h : fa en m = .ex x m1) : sT fa en m = .ex x m1 := by simp [sT, Rs.bind, h]
theorem gIf_ex {t : SemB} {g1 g2 : SemS} {en : En} {m m1 : Store} {x : Ex} (h : t en m = .ex x m1) : gIf t g1 g2 en m = .ex x en m1 := by simp [gIf, Rs.st, h]
theorem sF_ex {ff : SemF} {en : En} {m m1 : Store} {x : Ex} (h : ff en m = .ex x m1) : sF ff en m = .ex x m1 := by simp [sF, Rs.bind, h]
theorem fLst_ex {fl : SemL} {en : En} {m m1 : Store} {x : Ex} (h : fl en m = .ex x m1) : fLst fl en m = .ex x m1 := by simp [fLst, Rs.bind, h]
theorem gif_skip {t : SemB} {r : Sem1} {en : En} {m : Store} (h : t en m = .ok false m) : gIf t (gRet r) gNext en m = .nx en m := (gIf_f h).trans rfl
theorem slL_ok {f : Sem1} {ol oh : SemO} {en : En} {m : Store} {ns : List Int} {i j : Option Int} (h : f en m = .ok (.d (.scr ns)) m) (hl : ol en m = .ok i m) (hh : oh en m = .ok j m) : sSlP f ol oh en m = .ok (.d (.lst (EvL.cutD (ns.map Dv.int) i j))) m := by
  simp [sSlP, sElse, sSlT, fSlL, sF, Rs.bind, h, hl, hh, rv_d]
def isGt (d : Dv) : Bool := match d with
  | .int i => decide (10 ^ 18 ≤ i)
  | _ => false
theorem ints_get {l : List Int} {d : Dv} (h : d ∈ l.map Dv.int) : ∃ i, d = .int i := by
  obtain ⟨i, _, rfl⟩ := List.mem_map.mp h
  exact ⟨i, rfl⟩
theorem fn_dic {ns np : Nat} {g : SemS} {ws : List Sv} {m : Store} {y : So} {kvs : List (Key × Dv)} (hn : ws.length = np) (hg : g (start0 ns ws) m = .rt (.o (m.length + 1)) (m ++ [y] ++ [.dic kvs])) : fnS ns np g ws m = .ok (.o m.length) (m ++ [.dic kvs]) := by
  unfold fnS
  rw [if_pos hn, hg]
  have e : (m ++ [y] ++ [So.dic kvs])[m.length + 1]? = some (.dic kvs) := by simp
  have t : (m ++ [y] ++ [So.dic kvs]).take m.length = m := by rw [List.append_assoc, take_app]
  simp only [fnEnd, e, t, if_neg (show ¬ m.length + 1 < m.length by omega)]
theorem begun_ok {ns : List Int} {k : Nat} {m : Store} (h : ns.length ≤ 63) (hk : k ≤ 3) : ∃ x, f__law_begun [.d (.scr ns), .d (.int k)] m = .ok (.o m.length) (m ++ [x]) ∧ Dr (m ++ [x]) m.length 0 := by
  have h1 : ∃ cs : List Int, (EvL.cutD (ns.map Dv.int) (some k) none ++ EvL.cutD (ns.map Dv.int) none (some k)) = cs.map Dv.int ∧ cs.length ≤ 126 := by
    obtain ⟨cs, e, _⟩ := ints_of (P := fun _ => True) (l := EvL.cutD (ns.map Dv.int) (some k) none ++ EvL.cutD (ns.map Dv.int) none (some k)) (fun z hz => by
      rcases List.mem_append.mp hz with q | q
      · obtain ⟨i, rfl⟩ := ints_get (cut_mem q); exact ⟨i, rfl, trivial⟩
      · obtain ⟨i, rfl⟩ := ints_get (cut_mem q); exact ⟨i, rfl, trivial⟩)
    refine ⟨cs, e, ?_⟩
    have l1 := cut_len (ns.map Dv.int) (some (k : Int)) none
    have l2 := cut_len (ns.map Dv.int) none (some (k : Int))
    have := congrArg List.length e
    simp only [List.length_append, List.length_map] at this l1 l2
    omega
  obtain ⟨cs, hcs, hcl⟩ := h1
  have g1 : fComp (iSeq (sVar 0)) (tgN 5) (sT (sBin oGe (sVar 5) (sBin oPow (sC (.int 10)) (sC (.int 18))))) (sVar 5) [5] [some (.d (.scr ns)), some (.d (.int k)), some (.d (.lst (cs.map Dv.int))), none, none, none] m = .ok (((ns.map Dv.int).filter isGt).map fun d => d) m := by
    refine comp_pure _ _ (iSeq_s (sVar_ok rfl)) (by simp; omega) fun d acc hd => ?_
    obtain ⟨i, rfl⟩ := ints_get hd
    exact ⟨_, rfl, sT_ok (sBin_ok (sVar_ok rfl) (sBin_ok (d := .int (10 ^ 18)) (sC_ok _) (sC_ok _) rfl rfl (by simp [iopC, powOk])) rfl rfl rfl), fun _ => sVar_ok rfl⟩
  rw [List.map_id'] at g1
  generalize hG : (ns.map Dv.int).filter isGt = G at g1
  have hg : ∀ x ∈ G, ∃ i : Int, x = .int i ∧ 0 ≤ i := fun x hx => by
    rw [← hG, List.mem_filter] at hx
    obtain ⟨i, rfl⟩ := ints_get hx.1
    have := hx.2
    simp only [isGt, decide_eq_true_eq] at this
    exact ⟨i, rfl, by omega⟩
  obtain ⟨en', m', l1, ⟨s, o5, rfl⟩, rfl⟩ := loop_nx (G := tgN 5) (body := gSet 4 (sBin oMod (sUn oInt (sBin oAddP (sBin oMulP (sVar 4) (sC (.int 48271))) (sVar 5))) (sC (.int 2147483647)))) (xs := cs.map Dv.int) (fun i en S => (∃ s o5, en = [some (.d (.scr ns)), some (.d (.int k)), some (.d (.lst (cs.map Dv.int))), some (.o m.length), some (.d (.int s)), o5]) ∧ S = m ++ [.lst G])
    (fun i d en S hd hI => by
      obtain ⟨⟨s, o5, rfl⟩, rfl⟩ := hI
      obtain ⟨c, rfl⟩ := ints_get (List.mem_of_getElem? hd)
      exact ⟨_, rfl, _, _, .inl (gSet_ok (sBin_ok (sUn_ok (sBin_ok (sBin_ok (sVar_ok rfl) (sC_ok _) rfl rfl (oMulP_i _ _ (by simp [mulOk]))) (sVar_ok rfl) rfl rfl rfl) rfl rfl) (sC_ok _) rfl rfl rfl)), ⟨_, _, rfl⟩, rfl⟩) (en := [some (.d (.scr ns)), some (.d (.int k)), some (.d (.lst (cs.map Dv.int))), some (.o m.length), some (.d (.int (91 + k))), none]) (m := m ++ [.lst G]) ⟨⟨_, _, rfl⟩, rfl⟩
  have rvG : ∀ x, rv (m ++ [.lst G] ++ [x]) (.o m.length) = some (.lst G) := fun x => by simp [rv]
  obtain ⟨L, hL, eL⟩ : ∃ L : Int, 0 ≤ L ∧ sIf (sT (sBin oLt (sVar 1) (sUn oLen (sVar 3)))) (sBin oIx (sVar 3) (sVar 1)) (sC (.int 0)) [some (.d (.scr ns)), some (.d (.int k)), some (.d (.lst (cs.map Dv.int))), some (.o m.length), some (.d (.int s)), o5] (m ++ [.lst G] ++ [.dic []]) = .ok (.d (.int L)) (m ++ [.lst G] ++ [.dic []]) := by
    have t : sT (sBin oLt (sVar 1) (sUn oLen (sVar 3))) [some (.d (.scr ns)), some (.d (.int k)), some (.d (.lst (cs.map Dv.int))), some (.o m.length), some (.d (.int s)), o5] (m ++ [.lst G] ++ [.dic []]) = .ok (decide ((k : Int) < G.length)) (m ++ [.lst G] ++ [.dic []]) := sT_ok (sBin_ok (sVar_ok rfl) (sUn_ok (sVar_ok rfl) (rvG _) rfl) rfl rfl rfl)
    by_cases hk : k < G.length
    · obtain ⟨i, hi, h0⟩ := hg G[k] (List.getElem_mem _)
      refine ⟨i, h0, ?_⟩
      rw [if_ok t, decide_eq_true (by omega)]
      exact sBin_ok (sVar_ok rfl) (sVar_ok rfl) (rvG _) rfl (by rw [← hi]; exact oIx_l (by omega) (by simp [hk]))
    · refine ⟨0, by omega, ?_⟩
      rw [if_ok t, decide_eq_false (by omega)]
      rfl
  refine ⟨.dic (dk L s (cs ++ [61 * (k : Int) + 17]) 0), fn_dic (y := .lst G) rfl ?_, ⟨L, s, cs ++ [61 * (k : Int) + 17], 0, get_push _ _, hL, by simp, by simp; omega, by omega, by omega⟩⟩
  have cl := cut_len (ns.map Dv.int) (some (k : Int)) none
  have cl2 := cut_len (ns.map Dv.int) none (some (k : Int))
  simp only [List.length_map] at cl cl2
  refine (gSeq_ok (gSet_ok (x := .d (.lst (cs.map Dv.int))) (sBin_ok (slL_ok (sVar_ok rfl) (oYes_ok (sVar_ok rfl)) rfl) (slL_ok (sVar_ok rfl) rfl (oYes_ok (sVar_ok rfl))) rfl rfl (by rw [cat_l (by omega), hcs])))).trans ?_
  refine (gSeq_ok (gNew_ok g1)).trans ((gSeq_ok (gSet_ok (sBin_ok (sC_ok _) (sVar_ok rfl) rfl rfl rfl))).trans ((gSeq_ok ((gFor_ok (iSeq_d (sVar_ok rfl))).trans l1)).trans (gRet_ok ?_)))
  have ca : sBin oAddP (sVar 2) (sF (fLst (lCons (sBin oAddP (sBin oMulP (sC (.int 61)) (sVar 1)) (sC (.int 17))) lNil))) [some (.d (.scr ns)), some (.d (.int k)), some (.d (.lst (cs.map Dv.int))), some (.o m.length), some (.d (.int s)), o5] (m ++ [.lst G] ++ [.dic []]) = .ok (.d (.lst ((cs ++ [61 * (k : Int) + 17]).map Dv.int))) (m ++ [.lst G] ++ [.dic []]) := by
    rw [List.map_append]
    exact sBin_ok (sVar_ok rfl) (sF_ok (lst_ok (lCons_ok (sBin_ok (sBin_ok (sC_ok _) (sVar_ok rfl) rfl rfl (oMulP_i _ _ (by simp [mulOk]))) (sC_ok _) rfl rfl rfl) lNil_ok) rfl rfl)) rfl rfl (cat_l (by simp; omega))
  have al := lCons_ok eL (lCons_ok (sVar_ok (i := 4) (en := [some (.d (.scr ns)), some (.d (.int k)), some (.d (.lst (cs.map Dv.int))), some (.o m.length), some (.d (.int s)), o5]) (m := m ++ [.lst G] ++ [.dic []]) (x := .d (.int s)) rfl) (lCons_ok ca (lCons_ok (sC_ok (.int 0)) lNil_ok)))
  have gd : (m ++ [So.lst G] ++ [So.dic []])[(m ++ [So.lst G]).length]? = some (.dic []) := get_push _ _
  have gs : (m ++ [So.lst G] ++ [So.dic []]).set (m ++ [So.lst G]).length (.dic (dk L s (cs ++ [61 * (k : Int) + 17]) 0)) = m ++ [.lst G] ++ [.dic (dk L s (cs ++ [61 * (k : Int) + 17]) 0)] := by simp
  have km : kMerge [] ((["left", "seed", "cells", "spot"] : List Str).zip [.int L, .int s, .lst ((cs ++ [61 * (k : Int) + 17]).map Dv.int), .int 0]) = dk L s (cs ++ [61 * (k : Int) + 17]) 0 := rfl
  have ln : (m ++ [So.lst G]).length = m.length + 1 := by simp
  rw [ln] at gd gs
  unfold sDisp
  rw [al]
  simp only [Rs.bind, frzL, frz_d, gd, km, gs, ln]
theorem like_call {fa fb : Sem1} {en : En} {m : Store} {d : Dv} {x y : Sv} (ha : fa en m = .ok x m) (hb : fb en m = .ok y m) (hx : x = .d d) (hy : y = .d d) (h : showOk d = true) : sCall f__law_like (lCons fa (lCons fb lNil)) en m = .ok (.d (.bl true)) m := by
  subst hx; subst hy
  exact sCall_ok (lCons_ok ha (lCons_ok hb lNil_ok)) (like_ok h)
end EvH
end

section
set_option Elab.async false
set_option linter.all false
set_option maxRecDepth 100000
set_option maxHeartbeats 2000000
/-! SB: data small enough for repr, its numbers below 10 ^ 90 -/
namespace EvH
open PySem PySem.Spec PyProof.Rows L2 EvL
theorem shown_int90 {i : Int} (h : i.natAbs < 10 ^ 90) : (PyData.shown (.int i)).length ≤ 91 := by
  have e := int_text_length_le10 (k := 90) (by decide) h
  show (Str.ofString (toString i)).length ≤ 91
  rw [PySem.ofString_length]; exact e
structure Sb (w p : Nat) (d : Dv) : Prop where
  fl : flat d = true
  can : (cv d).canLay0 = true
  sh : (cv d).intsShort 91 = true
  sw : (cv d).showable = true
  wt : (cv d).weight ≤ w
  dp : (cv d).depth ≤ p
theorem Sb.mono {w p w' p' : Nat} {d : Dv} (h : Sb w p d) (hw : w ≤ w') (hp : p ≤ p') : Sb w' p' d := ⟨h.fl, h.can, h.sh, h.sw, Nat.le_trans h.wt hw, Nat.le_trans h.dp hp⟩
theorem Sb.ok {w p : Nat} {d : Dv} (h : Sb w p d) (hw : w ≤ 10000) (hp : p ≤ 60) : showOk d = true := by
  have h1 := PyData.shown_le 91 (by decide) (cv d) (PyData.leavesShort_of_canLay0 91 _ h.can h.sh)
  have h2 := h.wt
  have h3 := h.dp
  have h4 := PyData.hasDict_of_canLay _ h.can
  unfold showOk good SeqAt.shaped
  rw [h.fl, h.can, h.sw, h4]
  simp
  omega
theorem Sb.non : Sb 0 0 .non := ⟨rfl, rfl, rfl, rfl, Nat.le_refl _, Nat.le_refl _⟩
theorem Sb.bl (b : Bool) : Sb 0 0 (.bl b) := ⟨rfl, rfl, rfl, rfl, Nat.le_refl _, Nat.le_refl _⟩
theorem Sb.int {i : Int} (h : i.natAbs < 10 ^ 90) : Sb 300 0 (.int i) := by
  have hl : i.natAbs.log2 < 299 := by
    by_cases z : i.natAbs = 0
    · rw [z]; decide
    · exact (Nat.log2_lt z).mpr (Nat.lt_trans h (by decide))
  refine ⟨rfl, rfl, ?_, ?_, ?_, Nat.le_refl _⟩
  · show decide ((PyData.shown (.int i)).length ≤ 91) = true
    exact decide_eq_true (shown_int90 h)
  · show decide (i.natAbs.log2 < 1920) = true
    exact decide_eq_true (by omega)
  · show (if i == 0 then 0 else i.natAbs.log2 + 1) ≤ 300
    split <;> omega
theorem Sb.str {z : Str} (h : PyData.strOk z = true) : Sb z.cps.size 0 (.str z) := ⟨rfl, h, rfl, rfl, Nat.le_refl _, Nat.le_refl _⟩
theorem sbL {w p : Nat} : ∀ {xs : List Dv}, (∀ x ∈ xs, Sb w p x) → flatL xs = true ∧ PyData.canLayAll0 (cvL xs) = true ∧ PyData.intsShortAll 91 (cvL xs) = true ∧ PyData.showableAll (cvL xs) = true ∧ PyData.weightAll (cvL xs) ≤ xs.length * (w + 1) ∧ PyData.depthAll (cvL xs) ≤ p
  | [], _ => ⟨rfl, rfl, rfl, rfl, by simp [cvL, PyData.weightAll], Nat.zero_le _⟩
  | x :: xs, h => by
    obtain ⟨a1, a2, a3, a4, a5, a6⟩ := sbL fun y hy => h y (List.mem_cons_of_mem _ hy)
    have hx := h x List.mem_cons_self
    refine ⟨?_, ?_, ?_, ?_, ?_, ?_⟩
    · unfold flatL; rw [hx.fl, a1]; rfl
    · unfold cvL PyData.canLayAll0; rw [hx.can, a2]; rfl
    · unfold cvL PyData.intsShortAll; rw [hx.sh, a3]; rfl
    · unfold cvL PyData.showableAll; rw [hx.sw, a4]; rfl
    · unfold cvL PyData.weightAll
      have := hx.wt
      rw [List.length_cons, Nat.succ_mul]
      omega
    · unfold cvL PyData.depthAll
      have := hx.dp
      omega
theorem Sb.tup {w p n : Nat} {xs : List Dv} (h : ∀ x ∈ xs, Sb w p x) (hn : xs.length ≤ n) : Sb (n * (w + 1)) (p + 1) (.tup xs) := by
  obtain ⟨a1, a2, a3, a4, a5, a6⟩ := sbL h
  refine ⟨by unfold flat; exact a1, by unfold cv PyData.canLay0; exact a2, by unfold cv PyData.intsShort; exact a3, by unfold cv PyData.showable; exact a4, ?_, by unfold cv PyData.depth; omega⟩
  unfold cv PyData.weight
  exact Nat.le_trans a5 (Nat.mul_le_mul_right _ hn)
theorem Sb.lst {w p n : Nat} {xs : List Dv} (h : ∀ x ∈ xs, Sb w p x) (hn : xs.length ≤ n) : Sb (n * (w + 1)) (p + 1) (.lst xs) := by
  obtain ⟨a1, a2, a3, a4, a5, a6⟩ := sbL h
  refine ⟨by unfold flat; exact a1, by unfold cv PyData.canLay0; exact a2, by unfold cv PyData.intsShort; exact a3, by unfold cv PyData.showable; exact a4, ?_, by unfold cv PyData.depth; omega⟩
  unfold cv PyData.weight
  exact Nat.le_trans a5 (Nat.mul_le_mul_right _ hn)
theorem Sb.ty {w p : Nat} {d : Dv} (h : Sb w p d) : (tyName d).isSome = true := by
  have := h.fl
  cases d with
  | fn n => simp [flat] at this
  | _ => rfl
end EvH
end

section
set_option Elab.async false
set_option linter.all false
set_option maxRecDepth 100000
set_option maxHeartbeats 4000000
/-! HG: small steps, for any law -/
namespace EvH
open PySem PySem.Spec PyProof.Rows L2 EvL
theorem am_cons {α : Type} {P : α → Prop} {x : α} {xs : List α} (h : P x) (h' : ∀ y ∈ xs, P y) : ∀ y ∈ x :: xs, P y := List.forall_mem_cons.mpr ⟨h, h'⟩
theorem am_nil {α : Type} {P : α → Prop} : ∀ y ∈ ([] : List α), P y := fun _ z => nomatch z
theorem m64 {x y : Int} (h : x.natAbs < 2 ^ 64) : mulOk x y = true := by simp only [mulOk, Bool.or_eq_true, decide_eq_true_eq]; exact .inl h
theorem m64' {x y : Int} (h : y.natAbs < 2 ^ 64) : mulOk x y = true := by simp only [mulOk, Bool.or_eq_true, decide_eq_true_eq]; exact .inr (.inl h)
section
variable {en : En} {m m1 m2 m3 : Store} {x y z : Int} {f g h : Sem1} {a b c d u v : Dv} {xs ys : List Dv}
theorem mul_i (h1 : f en m = .ok (.d (.int x)) m1) (h2 : g en m1 = .ok (.d (.int y)) m2) (hm : mulOk x y = true) : sBin oMulP f g en m = .ok (.d (.int (x * y))) m2 := sBin_ok h1 h2 rfl rfl (oMulP_i _ _ hm)
theorem add_i (h1 : f en m = .ok (.d (.int x)) m1) (h2 : g en m1 = .ok (.d (.int y)) m2) : sBin oAddP f g en m = .ok (.d (.int (x + y))) m2 := sBin_ok h1 h2 rfl rfl rfl
theorem sub_i (h1 : f en m = .ok (.d (.int x)) m1) (h2 : g en m1 = .ok (.d (.int y)) m2) : sBin oSub f g en m = .ok (.d (.int (x - y))) m2 := sBin_ok h1 h2 rfl rfl rfl
theorem neg_i (h1 : f en m = .ok (.d (.int x)) m1) : sUn oNeg f en m = .ok (.d (.int (-x))) m1 := sUn_ok h1 rfl rfl
theorem lt_i (h1 : f en m = .ok (.d (.int x)) m1) (h2 : g en m1 = .ok (.d (.int y)) m2) : sT (sBin oLt f g) en m = .ok (decide (x < y)) m2 := sT_ok (sBin_ok h1 h2 rfl rfl rfl)
theorem le_i (h1 : f en m = .ok (.d (.int x)) m1) (h2 : g en m1 = .ok (.d (.int y)) m2) : sT (sBin oLe f g) en m = .ok (decide (x ≤ y)) m2 := sT_ok (sBin_ok h1 h2 rfl rfl rfl)
theorem gt_i (h1 : f en m = .ok (.d (.int x)) m1) (h2 : g en m1 = .ok (.d (.int y)) m2) : sT (sBin oGt f g) en m = .ok (decide (y < x)) m2 := sT_ok (sBin_ok h1 h2 rfl rfl rfl)
theorem ge_i (h1 : f en m = .ok (.d (.int x)) m1) (h2 : g en m1 = .ok (.d (.int y)) m2) : sT (sBin oGe f g) en m = .ok (decide (y ≤ x)) m2 := sT_ok (sBin_ok h1 h2 rfl rfl rfl)
theorem eq_i (h1 : f en m = .ok (.d (.int x)) m1) (h2 : g en m1 = .ok (.d (.int y)) m2) : sT (sBin oEq f g) en m = .ok (decide (x = y)) m2 := sT_ok (sBin_ok h1 h2 rfl rfl (oEq_int _ _))
theorem ne_i (h1 : f en m = .ok (.d (.int x)) m1) (h2 : g en m1 = .ok (.d (.int y)) m2) : sT (sBin oNe f g) en m = .ok (!decide (x = y)) m2 := sT_ok (sBin_ok h1 h2 rfl rfl (oNe_int _ _))
theorem mod_i (h1 : f en m = .ok (.d (.int x)) m1) (h2 : g en m1 = .ok (.d (.int y)) m2) (hy : 0 < y) : sBin oMod f g en m = .ok (.d (.int (x % y))) m2 := by
  refine sBin_ok h1 h2 rfl rfl ?_
  have : modOk x y = true := by simp [modOk]; omega
  show (if modOk x y then some (Dv.int (x.fmod y)) else none) = _
  rw [if_pos this, fm hy]
theorem div_i (h1 : f en m = .ok (.d (.int x)) m1) (h2 : g en m1 = .ok (.d (.int y)) m2) (hy : 0 < y) (hy2 : y < 1000000) : sBin oDiv f g en m = .ok (.d (.int (x / y))) m2 := by
  refine sBin_ok h1 h2 rfl rfl ?_
  have : divOk x y = true := by simp only [divOk, Bool.and_eq_true, decide_eq_true_eq]; exact ⟨by omega, wide_lt60 (by omega)⟩
  show (if divOk x y then some (Dv.int (x.fdiv y)) else none) = _
  rw [if_pos this, fd hy]
theorem abs_i (h1 : f en m = .ok (.d (.int x)) m1) : sUn oAbs f en m = .ok (.d (.int ((x.natAbs : Nat) : Int))) m1 := by
  refine sUn_ok h1 rfl ?_
  simp only [oAbs]
  congr 2
  split <;> omega
theorem tup1 (h1 : f en m = .ok (.d a) m1) : sTup (lCons f lNil) en m = .ok (.d (.tup [a])) m1 := tup_ok (lCons_ok h1 lNil_ok) rfl rfl
theorem tup2 (h1 : f en m = .ok (.d a) m1) (h2 : g en m1 = .ok (.d b) m2) : sTup (lCons f (lCons g lNil)) en m = .ok (.d (.tup [a, b])) m2 := tup_ok (lCons_ok h1 (lCons_ok h2 lNil_ok)) rfl rfl
theorem tup3 (h1 : f en m = .ok (.d a) m1) (h2 : g en m1 = .ok (.d b) m2) (h3 : h en m2 = .ok (.d c) m3) : sTup (lCons f (lCons g (lCons h lNil))) en m = .ok (.d (.tup [a, b, c])) m3 := tup_ok (lCons_ok h1 (lCons_ok h2 (lCons_ok h3 lNil_ok))) rfl rfl
theorem lst1 (h1 : f en m = .ok (.d a) m1) : sF (fLst (lCons f lNil)) en m = .ok (.d (.lst [a])) m1 := sF_ok (lst_ok (lCons_ok h1 lNil_ok) rfl rfl)
theorem lst0 : sF (fLst lNil) en m = .ok (.d (.lst [])) m := sF_ok (lst_ok lNil_ok rfl rfl)
theorem call1 {p : Fs} {w : Sv} {r : Rs Sv} (h1 : f en m = .ok w m1) (hp : p [w] m1 = r) : sCall p (lCons f lNil) en m = r := by
  unfold sCall
  rw [lCons_ok h1 lNil_ok]
  exact hp
theorem call2 {p : Fs} {w w2 : Sv} {r : Rs Sv} (h1 : f en m = .ok w m1) (h2 : g en m1 = .ok w2 m2) (hp : p [w, w2] m2 = r) : sCall p (lCons f (lCons g lNil)) en m = r := by
  unfold sCall
  rw [lCons_ok h1 (lCons_ok h2 lNil_ok)]
  exact hp
theorem call3 {p : Fs} {w w2 w3 : Sv} {r : Rs Sv} (h1 : f en m = .ok w m1) (h2 : g en m1 = .ok w2 m2) (h3 : h en m2 = .ok w3 m3) (hp : p [w, w2, w3] m3 = r) : sCall p (lCons f (lCons g (lCons h lNil))) en m = r := by
  unfold sCall
  rw [lCons_ok h1 (lCons_ok h2 (lCons_ok h3 lNil_ok))]
  exact hp
theorem atI_n {k : Int} (h0 : 0 ≤ k) (h : xs[k.toNat]? = some d) : atI xs k = some d := by
  have hl := (List.getElem?_eq_some_iff.mp h).1
  unfold atI
  have e : ixN xs.length k = some k.toNat := by
    unfold ixN
    rw [if_pos h0, if_pos (by omega)]
  rw [e]
  exact h
theorem atI_m {k : Int} (h0 : k < 0) (h1 : 0 ≤ k + xs.length) (h : xs[(k + xs.length).toNat]? = some d) : atI xs k = some d := by
  unfold atI
  have e : ixN xs.length k = some (k + xs.length).toNat := by
    unfold ixN
    rw [if_neg (by omega)]
    first | rw [if_pos (by omega)] | skip
  rw [e]
  exact h
theorem ix_t (h1 : f en m = .ok (.d (.tup xs)) m1) (h2 : g en m1 = .ok (.d (.int x)) m2) (ha : atI xs x = some d) : sBin oIx f g en m = .ok (.d d) m2 := sBin_ok h1 h2 rfl rfl ha
theorem ix_l (h1 : f en m = .ok (.d (.lst xs)) m1) (h2 : g en m1 = .ok (.d (.int x)) m2) (ha : atI xs x = some d) : sBin oIx f g en m = .ok (.d d) m2 := sBin_ok h1 h2 rfl rfl ha
theorem ix_o {k : Nat} (h1 : f en m = .ok (.o k) m1) (h2 : g en m1 = .ok (.d (.int x)) m2) (hk : m2[k]? = some (.lst xs)) (ha : atI xs x = some d) : sBin oIx f g en m = .ok (.d d) m2 := sBin_ok h1 h2 (rv_lst hk) rfl ha
theorem len_t (h1 : f en m = .ok (.d (.tup xs)) m1) : sUn oLen f en m = .ok (.d (.int xs.length)) m1 := sUn_ok h1 rfl (by simp [oLen])
theorem len_l (h1 : f en m = .ok (.d (.lst xs)) m1) : sUn oLen f en m = .ok (.d (.int xs.length)) m1 := sUn_ok h1 rfl (by simp [oLen])
end
def ty (d : Dv) : Bool := (tyName d).isSome
theorem is_t {f : Sem1} {en : En} {m m1 : Store} {d : Dv} (T : String) (h : ty d = true) (h1 : f en m = .ok (.d d) m1) : sT (sUn (oIs T) f) en m = .ok (isTy T d) m1 := by
  refine sT_ok (sUn_ok h1 rfl ?_)
  unfold oIs
  cases hd : tyName d with
  | none => rw [ty, hd] at h; cases h
  | some n => rfl
theorem chain_ii {o1 o2 : Dv → Dv → Option Dv} {fa fb fc : Sem1} {en : En} {m m1 m2 : Store} {x y z : Dv} {k1 k2 : Bool} (ha : fa en m = .ok (.d x) m1) (hb : fb en m1 = .ok (.d y) m2) (hc : fc en m2 = .ok (.d z) m2) (h1 : o1 x y = some (.bl k1)) (h2 : o2 y z = some (.bl k2)) : sChain o1 o2 fa fb fc en m = .ok (.d (.bl (k1 && k2))) m2 := by
  unfold sChain
  cases k1 <;> simp [Rs.bind, ha, hb, hc, rv_d, h1, isB, h2]
theorem sAnd_b {f g : Sem1} {en : En} {m m1 : Store} {b c : Bool} (h : f en m = .ok (.d (.bl b)) m1) (h2 : b = true → g en m1 = .ok (.d (.bl c)) m1) : sAnd f g en m = .ok (.d (.bl (b && c))) m1 := by
  cases b with
  | false => rw [sAnd_f h]; rfl
  | true => rw [sAnd_t h, h2 rfl]; rfl
theorem bAnd_b {f g : SemB} {en : En} {m m1 : Store} {b c : Bool} (h : f en m = .ok b m1) (h2 : b = true → g en m1 = .ok c m1) : bAnd f g en m = .ok (b && c) m1 := by
  cases b with
  | false => rw [bAnd_f h]; rfl
  | true => rw [bAnd_t h, h2 rfl]; rfl
theorem bOr_b {f g : SemB} {en : En} {m m1 : Store} {b c : Bool} (h : f en m = .ok b m1) (h2 : b = false → g en m1 = .ok c m1) : bOr f g en m = .ok (b || c) m1 := by
  cases b with
  | false => rw [bOr_f h, h2 rfl]; rfl
  | true => rw [bOr_t h]; rfl
theorem gif_b {t : SemB} {g1 : SemS} {en : En} {m m1 : Store} {b : Bool} (h : t en m = .ok b m1) (hb : b = false) : gIf t g1 gNext en m = .nx en m1 := by
  subst hb
  exact (gIf_f h).trans rfl
theorem gif_c {t : SemB} {g1 g2 : SemS} {en : En} {m m1 : Store} {b : Bool} (h : t en m = .ok b m1) (hb : b = true) : gIf t g1 g2 en m = g1 en m1 := by
  subst hb
  exact gIf_t h
theorem iSeq_c {f : Sem1} {en : En} {m m' : Store} {xs : List Dv} (h : f en m = .ok (.d (.tup xs)) m') : iSeq f en m = .ok xs m' := iSeq_t h
/-- enumerate, by places -/
theorem numb_eq (xs : List Dv) : numb xs = (List.range xs.length).map fun k => Dv.tup [.int (k : Nat), xs.getD k .non] := by
  unfold numb
  refine List.ext_getElem (by simp) fun i h1 h2 => ?_
  have hx : i < xs.length := by simpa using h2
  simp [List.getD_eq_getElem?_getD, hx]
theorem iEnum_t {f : Sem1} {en : En} {m m' : Store} {xs : List Dv} (h : f en m = .ok (.d (.tup xs)) m') : iEnumS f en m = .ok (numb xs) m' := by simp [iEnumS, Rs.bind, h, frz_d, items]
theorem iEnum_l {f : Sem1} {en : En} {m m' : Store} {xs : List Dv} (h : f en m = .ok (.d (.lst xs)) m') : iEnumS f en m = .ok (numb xs) m' := by simp [iEnumS, Rs.bind, h, frz_d, items]
theorem rng_map (n : Nat) : rng 0 n = (List.range n).map fun k => Dv.int (k : Nat) := by
  rw [rng_nat]
/-- the first of those that are asked for -/
theorem filt_nil {n : Nat} {p : Nat → Bool} (h : (List.range n).filter p = []) : ∀ i, i < n → p i = false := fun i hi => by
  have := List.filter_eq_nil_iff.mp h i (List.mem_range.mpr hi)
  simpa using this
theorem filt_first : ∀ {n : Nat} {p : Nat → Bool} {k : Nat} {r : List Nat}, (List.range n).filter p = k :: r → k < n ∧ p k = true ∧ ∀ i, i < k → p i = false
  | 0, p, k, r, h => by simp at h
  | n + 1, p, k, r, h => by
    rw [List.range_succ, List.filter_append] at h
    cases e : (List.range n).filter p with
    | nil =>
      rw [e, List.nil_append] at h
      have h0 := filt_nil e
      by_cases hp : p n = true
      · simp [hp] at h
        obtain ⟨rfl, _⟩ := h
        exact ⟨by omega, hp, h0⟩
      · simp [hp] at h
    | cons j s =>
      rw [e, List.cons_append] at h
      have : j = k := by simp at h; exact h.1
      subst this
      obtain ⟨a, b, c⟩ := filt_first e
      exact ⟨by omega, b, c⟩
theorem map_filter_range (n : Nat) (g : Nat → Dv) (b : Dv → Bool) (v : Dv → Dv) : (((List.range n).map g).filter b).map v = ((List.range n).filter fun k => b (g k)).map fun k => v (g k) := by
  rw [List.filter_map, List.map_map]
  rfl
end EvH
end

section
/-! RA: rounds of pairs, each one and the next of determinant one: their numbers add up to three times the length less twelve times the turns -/
set_option linter.all false
set_option maxHeartbeats 1000000
namespace RdP
abbrev P := Int × Int
def det (u v : P) : Int := u.1 * v.2 - u.2 * v.1
def past (u v : P) : Int := if u.2 < 0 ∧ 0 ≤ v.2 then 1 else 0
def tri (u v w : P) : Int := 3 - det u w
/-- each one and the next -/
def chain : List P → Prop
  | [] => True
  | [_] => True
  | a :: b :: r => det a b = 1 ∧ chain (b :: r)
def S3 : List P → Int
  | a :: b :: c :: r => tri a b c + S3 (b :: c :: r)
  | _ => 0
def T : List P → Int
  | a :: b :: r => past a b + T (b :: r)
  | _ => 0
theorem chain_app (p : List P) (u : P) (q : List P) : chain (p ++ u :: q) ↔ chain (p ++ [u]) ∧ chain (u :: q) := by
  induction p with
  | nil => simp [chain]
  | cons a p ih =>
    cases p with
    | nil => simp [chain]
    | cons b p =>
      show (det a b = 1 ∧ chain ((b :: p) ++ u :: q)) ↔ (det a b = 1 ∧ chain ((b :: p) ++ [u])) ∧ _
      rw [ih, and_assoc]
theorem T_app (p : List P) (u : P) (q : List P) : T (p ++ u :: q) = T (p ++ [u]) + T (u :: q) := by
  induction p with
  | nil => simp [T]
  | cons a p ih =>
    cases p with
    | nil => simp [T]
    | cons b p =>
      show past a b + T ((b :: p) ++ u :: q) = past a b + T ((b :: p) ++ [u]) + _
      rw [ih]; omega
theorem S3_app (p : List P) (u v : P) (q : List P) : S3 (p ++ u :: v :: q) = S3 (p ++ [u, v]) + S3 (u :: v :: q) := by
  induction p with
  | nil => simp [S3]
  | cons a p ih =>
    cases p with
    | nil => simp [S3]
    | cons b p =>
      cases p with
      | nil => simp [S3]; omega
      | cons c p =>
        show tri a b c + S3 ((b :: c :: p) ++ u :: v :: q) = tri a b c + S3 ((b :: c :: p) ++ [u, v]) + _
        rw [ih]; omega
/-- a closed one -/
def Cl (L : List P) : Prop := chain (L ++ L.take 1)
def F (L : List P) : Int := S3 (L ++ L.take 2) - 12 * T (L ++ L.take 1)
theorem cl_rot1 (v m0 : P) (M : List P) : Cl (v :: m0 :: M) ↔ Cl (m0 :: M ++ [v]) := by
  unfold Cl
  show chain (v :: m0 :: (M ++ [v])) ↔ chain (m0 :: M ++ [v] ++ [m0])
  have e := chain_app (m0 :: M) v [m0]
  have e2 : m0 :: M ++ [v] ++ [m0] = (m0 :: M) ++ v :: [m0] := by simp
  rw [e2, e]
  simp only [chain, List.cons_append, and_true]
  exact and_comm
theorem F_rot1 (v m0 m1 : P) (M : List P) : F (v :: m0 :: m1 :: M) = F (m0 :: m1 :: M ++ [v]) := by
  unfold F
  have a1 : (v :: m0 :: m1 :: M) ++ (v :: m0 :: m1 :: M).take 2 = v :: ((m0 :: m1 :: M) ++ [v, m0]) := by simp
  have a2 : (v :: m0 :: m1 :: M) ++ (v :: m0 :: m1 :: M).take 1 = v :: ((m0 :: m1 :: M) ++ [v]) := by simp
  have b1 : (m0 :: m1 :: M ++ [v]) ++ (m0 :: m1 :: M ++ [v]).take 2 = (m0 :: m1 :: M) ++ v :: m0 :: [m1] := by simp
  have b2 : (m0 :: m1 :: M ++ [v]) ++ (m0 :: m1 :: M ++ [v]).take 1 = (m0 :: m1 :: M) ++ v :: [m0] := by simp
  rw [a1, a2, b1, b2, S3_app, T_app]
  have c1 : S3 (v :: ((m0 :: m1 :: M) ++ [v, m0])) = tri v m0 m1 + S3 ((m0 :: m1 :: M) ++ [v, m0]) := rfl
  have c2 : T (v :: ((m0 :: m1 :: M) ++ [v])) = past v m0 + T ((m0 :: m1 :: M) ++ [v]) := rfl
  rw [c1, c2]
  simp only [S3, T]
  omega
theorem rot : ∀ (A B : List P), 3 ≤ (A ++ B).length → (Cl (A ++ B) ↔ Cl (B ++ A)) ∧ F (A ++ B) = F (B ++ A)
  | [], B, _ => by simp
  | v :: A, B, h => by
    have l : 2 ≤ (A ++ B).length := by simp at h ⊢; omega
    match e : A ++ B, l with
    | m0 :: m1 :: M, _ =>
      have e1 : (v :: A) ++ B = v :: m0 :: m1 :: M := by rw [List.cons_append, e]
      have e2 : m0 :: m1 :: M ++ [v] = A ++ (B ++ [v]) := by rw [← e, List.append_assoc]
      obtain ⟨r1, r2⟩ := rot A (B ++ [v]) (by simp at h ⊢; omega)
      have e3 : B ++ [v] ++ A = B ++ v :: A := by simp
      rw [e1, cl_rot1 v m0 (m1 :: M), F_rot1, e2, r1, r2, e3]
      exact ⟨Iff.rfl, rfl⟩
/-- the middle one of three is the sum of its neighbours -/
theorem past_mid (u w : P) : past u (u.1 + w.1, u.2 + w.2) + past (u.1 + w.1, u.2 + w.2) w = past u w := by
  unfold past
  dsimp only
  split <;> split <;> split <;> omega
theorem drop_mid {u w : P} {M : List P} (hM : M ≠ []) (h : Cl (u :: (u.1 + w.1, u.2 + w.2) :: w :: M)) : Cl (u :: w :: M) ∧ F (u :: (u.1 + w.1, u.2 + w.2) :: w :: M) = F (u :: w :: M) := by
  generalize hv : (u.1 + w.1, u.2 + w.2) = v at h ⊢
  have v1 : v.1 = u.1 + w.1 := by rw [← hv]
  have v2 : v.2 = u.2 + w.2 := by rw [← hv]
  obtain ⟨M', z, rfl⟩ : ∃ M' z, M = M' ++ [z] := ⟨M.dropLast, M.getLast hM, (List.dropLast_concat_getLast hM).symm⟩
  have hc : det u v = 1 ∧ det v w = 1 ∧ chain (w :: (M' ++ [z] ++ [u])) := h
  obtain ⟨d1, d2, d3⟩ := hc
  have d0 : det u w = 1 := by unfold det at *; rw [v1, v2] at d1; grind
  refine ⟨⟨d0, d3⟩, ?_⟩
  have dz : det z u = 1 := by
    have : w :: (M' ++ [z] ++ [u]) = (w :: M') ++ z :: [u] := by simp
    rw [this, chain_app] at d3
    exact d3.2.1
  unfold F
  have a1 : (u :: v :: w :: (M' ++ [z])) ++ (u :: v :: w :: (M' ++ [z])).take 2 = u :: v :: ((w :: M') ++ z :: u :: [v]) := by simp
  have a2 : (u :: v :: w :: (M' ++ [z])) ++ (u :: v :: w :: (M' ++ [z])).take 1 = u :: v :: ((w :: M') ++ z :: [u]) := by simp
  have b1 : (u :: w :: (M' ++ [z])) ++ (u :: w :: (M' ++ [z])).take 2 = u :: ((w :: M') ++ z :: u :: [w]) := by simp
  have b2 : (u :: w :: (M' ++ [z])) ++ (u :: w :: (M' ++ [z])).take 1 = u :: ((w :: M') ++ z :: [u]) := by simp
  rw [a1, a2, b1, b2]
  have p := past_mid u w
  rw [hv] at p
  have t1 : T (u :: v :: ((w :: M') ++ z :: [u])) = past u v + (past v w + T ((w :: M') ++ z :: [u])) := rfl
  have t2 : T (u :: ((w :: M') ++ z :: [u])) = past u w + T ((w :: M') ++ z :: [u]) := rfl
  -- the triples
  obtain ⟨x, R, hx⟩ : ∃ x R, M' ++ z :: u :: [v] = x :: R ∧ (∃ R', M' ++ z :: u :: [w] = x :: R') := by
    cases M' with
    | nil => exact ⟨z, _, rfl, _, rfl⟩
    | cons a M' => exact ⟨a, _, rfl, _, rfl⟩
  obtain ⟨hx, R', hx'⟩ := hx
  have dx : det w x = 1 := by
    have e : M' ++ [z] ++ [u] = M' ++ z :: [u] := by simp
    cases M' with
    | nil =>
      simp at hx
      rw [← hx.1]
      exact d3.1
    | cons a M' =>
      simp at hx
      rw [← hx.1]
      exact d3.1
  have s1 : S3 (u :: v :: ((w :: M') ++ z :: u :: [v])) = tri u v w + (tri v w x + S3 ((w :: M') ++ z :: u :: [v])) := by
    rw [List.cons_append, hx]
    rfl
  have s2 : S3 (u :: ((w :: M') ++ z :: u :: [w])) = tri u w x + S3 ((w :: M') ++ z :: u :: [w]) := by
    rw [List.cons_append, hx']
    rfl
  rw [s1, s2, t1, t2, S3_app (w :: M') z u [v], S3_app (w :: M') z u [w]]
  simp only [S3]
  unfold tri det at *
  rw [v1, v2]
  grind
theorem sq0 (x : Int) : 0 ≤ x * x := by
  rcases Int.le_total 0 x with h | h
  · exact Int.mul_nonneg h h
  · exact Int.mul_nonneg_of_nonpos_of_nonpos h h
def N (v : P) : Nat := (v.1 * v.1 + v.2 * v.2).toNat
theorem N_eq (v : P) : ((N v : Nat) : Int) = v.1 * v.1 + v.2 * v.2 := by
  unfold N
  have := sq0 v.1
  have := sq0 v.2
  omega
/-- neighbours of one size are least -/
theorem N_ne {u v : P} (h : det u v = 1) (e : N u = N v) : N v = 1 := by
  have h1 := N_eq u
  have h2 := N_eq v
  have e2 : ((N u : Nat) : Int) = (N v : Nat) := by rw [e]
  generalize hm : ((N v : Nat) : Int) = m at *
  rw [e2] at h1
  -- m * m = dot * dot + 1
  have key : m * m = (u.1 * v.1 + u.2 * v.2) * (u.1 * v.1 + u.2 * v.2) + 1 := by
    unfold det at h
    grind
  generalize (u.1 * v.1 + u.2 * v.2) = d at key
  have m0 : 0 ≤ m := by omega
  have : (m - d) * (m + d) = 1 := by grind
  have hd : m - d = 1 ∨ m - d = -1 := by
    have := congrArg Int.natAbs this
    rw [Int.natAbs_mul] at this
    have := Nat.dvd_one.mp ⟨_, this.symm⟩
    omega
  have : m + d = m - d := by
    rcases hd with q | q <;> rw [q] at this ⊢ <;> omega
  have : d = 0 := by omega
  subst this
  omega
theorem sq_lt {a : Int} {m n : Nat} (h : a * a * m < 4 * n) (hm : n ≤ m) (h0 : 0 < n): a = 0 ∨ a = 1 ∨ a = -1 := by
  apply Classical.byContradiction
  intro z
  have : 2 ≤ a ∨ a ≤ -2 := by omega
  have h4 : 4 ≤ a * a := by
    rcases this with q | q
    · exact Int.mul_le_mul q q (by omega) (by omega)
    · have : 2 * 2 ≤ (-a) * (-a) := Int.mul_le_mul (by omega) (by omega) (by omega) (by omega)
      rw [Int.neg_mul_neg] at this
      omega
  have : 4 * (m : Int) ≤ a * a * m := Int.mul_le_mul_of_nonneg_right h4 (by omega)
  omega

def wt : List P → Nat
  | [] => 0
  | v :: r => 4 ^ N v + wt r
theorem wt_app : ∀ a b : List P, wt (a ++ b) = wt a + wt b
  | [], b => by simp [wt]
  | v :: a, b => by simp only [List.cons_append, wt, wt_app a b]; omega
theorem pow_lt {a b : Nat} (h : a < b) : 4 * 4 ^ a ≤ 4 ^ b := by
  have : 4 ^ (a + 1) ≤ 4 ^ b := Nat.pow_le_pow_right (by decide) h
  rw [Nat.pow_succ] at this
  omega
/-- pairs of size 1 -/
def idx (v : P) : Int := if v.1 = 1 then 0 else if v.2 = 1 then 1 else if v.1 = -1 then 2 else 3
theorem N_one {v : P} (h : N v = 1) : v = (1, 0) ∨ v = (0, 1) ∨ v = (-1, 0) ∨ v = (0, -1) := by
  have e := N_eq v
  rw [h] at e
  obtain ⟨x, y⟩ := v
  dsimp only at e
  have hx : x * x ≤ 1 := by have := sq0 y; omega
  have hy : y * y ≤ 1 := by have := sq0 x; omega
  have bd : ∀ z : Int, z * z ≤ 1 → z = 0 ∨ z = 1 ∨ z = -1 := fun z hz => by
    apply Classical.byContradiction
    intro q
    have : 2 ≤ z ∨ z ≤ -2 := by omega
    rcases this with q | q
    · have : 2 * 2 ≤ z * z := Int.mul_le_mul q q (by omega) (by omega)
      omega
    · have : 2 * 2 ≤ (-z) * (-z) := Int.mul_le_mul (by omega) (by omega) (by omega) (by omega)
      rw [Int.neg_mul_neg] at this
      omega
  rcases bd x hx with rfl | rfl | rfl <;> rcases bd y hy with rfl | rfl | rfl <;> simp at e ⊢
theorem one_step {u v : P} (hu : N u = 1) (hv : N v = 1) (h : det u v = 1) : idx v - idx u + 4 * past u v = 1 := by
  rcases N_one hu with rfl | rfl | rfl | rfl <;> rcases N_one hv with rfl | rfl | rfl | rfl <;> first | decide | (simp [det] at h)
theorem one_tri {u v w : P} (hu : N u = 1) (hv : N v = 1) (hw : N w = 1) (h : det u v = 1) (h' : det v w = 1) : tri u v w = 3 := by
  rcases N_one hu with rfl | rfl | rfl | rfl <;> rcases N_one hv with rfl | rfl | rfl | rfl <;> first | (simp [det] at h; done) | (rcases N_one hw with rfl | rfl | rfl | rfl <;> first | decide | (simp [det] at h'; done))
theorem one_T : ∀ (p : List P) (u z : P), (∀ v ∈ u :: (p ++ [z]), N v = 1) → chain (u :: (p ++ [z])) → idx z - idx u + 4 * T (u :: (p ++ [z])) = p.length + 1
  | [], u, z, h, c => by
    have := one_step (h u (by simp)) (h z (by simp)) c.1
    simp [T]
    omega
  | a :: p, u, z, h, c => by
    have i := one_T p a z (fun v hv => h v (List.mem_cons_of_mem _ hv)) c.2
    have s := one_step (h u (by simp)) (h a (by simp)) c.1
    have e : T (u :: (a :: p ++ [z])) = past u a + T (a :: (p ++ [z])) := rfl
    rw [e]
    simp at i ⊢
    omega
theorem one_S : ∀ (p : List P) (u v : P), (∀ x ∈ u :: v :: p, N x = 1) → chain (u :: v :: p) → S3 (u :: v :: p) = 3 * p.length
  | [], u, v, h, c => by simp [S3]
  | a :: p, u, v, h, c => by
    have i := one_S p v a (fun x hx => h x (List.mem_cons_of_mem _ hx)) c.2
    have s := one_tri (h u (by simp)) (h v (by simp)) (h a (by simp)) c.1 c.2.1
    have e : S3 (u :: v :: a :: p) = tri u v a + S3 (v :: a :: p) := rfl
    rw [e, i, s]
    simp
    omega
theorem base {L : List P} (hl : 3 ≤ L.length) (h : ∀ v ∈ L, N v = 1) (c : Cl L) : F L = 0 := by
  match L, hl with
  | u :: v :: w :: M, _ =>
    have c1 : chain (u :: ((v :: w :: M) ++ [u])) := c
    have dv : det u v = 1 := c1.1
    have t := one_T (v :: w :: M) u u (fun x hx => h x (by simp at hx ⊢; rcases hx with q | q | q | q | q <;> simp [q])) c1
    have c2 : chain (u :: v :: ((w :: M) ++ u :: [v])) := by
      have : u :: v :: ((w :: M) ++ u :: [v]) = (u :: v :: w :: M) ++ u :: [v] := rfl
      rw [this, chain_app]
      exact ⟨c, dv, trivial⟩
    have s := one_S ((w :: M) ++ u :: [v]) u v (fun x hx => h x (by simp at hx ⊢; rcases hx with q | q | q | q | q | q <;> simp [q])) c2
    unfold F
    have e1 : (u :: v :: w :: M) ++ (u :: v :: w :: M).take 2 = u :: v :: ((w :: M) ++ u :: [v]) := rfl
    have e2 : (u :: v :: w :: M) ++ (u :: v :: w :: M).take 1 = u :: ((v :: w :: M) ++ [u]) := rfl
    rw [e1, e2, s]
    simp at t ⊢
    omega
/-- one step down -/
theorem F_head {u v w : P} {M : List P} (c : Cl (u :: v :: w :: M)) (hv : 1 < N v) (mx : ∀ x ∈ u :: v :: w :: M, N x ≤ N v) : ∃ L', Cl L' ∧ F (u :: v :: w :: M) = F L' ∧ wt L' < wt (u :: v :: w :: M) ∧ 3 ≤ L'.length := by
  have du : det u v = 1 := c.1
  have dw : det v w = 1 := c.2.1
  have sum1 : u.1 + w.1 = det u w * v.1 := by unfold det at *; grind
  have sum2 : u.2 + w.2 = det u w * v.2 := by unfold det at *; grind
  have nu : N u < N v := by
    have := mx u (by simp)
    have : N u ≠ N v := fun z => by have := N_ne du z; omega
    omega
  have nw : N w < N v := by
    have := mx w (by simp)
    have : N w ≠ N v := fun z => by have := N_ne dw z.symm; omega
    omega
  have eu := N_eq u
  have ev := N_eq v
  have ew := N_eq w
  have ha : det u w = 0 ∨ det u w = 1 ∨ det u w = -1 := by
    refine sq_lt (m := N v) (n := N v) ?_ (Nat.le_refl _) (by omega)
    rw [ev]
    have q : det u w * det u w * (v.1 * v.1 + v.2 * v.2) = (u.1 + w.1) * (u.1 + w.1) + (u.2 + w.2) * (u.2 + w.2) := by rw [sum1, sum2]; grind
    rw [q]
    have s1 := sq0 (u.1 - w.1)
    have s2 := sq0 (u.2 - w.2)
    have : (u.1 + w.1) * (u.1 + w.1) + (u.2 + w.2) * (u.2 + w.2) + ((u.1 - w.1) * (u.1 - w.1) + (u.2 - w.2) * (u.2 - w.2)) = 2 * (u.1 * u.1 + u.2 * u.2) + 2 * (w.1 * w.1 + w.2 * w.2) := by grind
    omega
  rcases ha with a0 | a1 | am
  · -- w = -u
    rw [a0] at sum1 sum2
    have w1 : w.1 = -u.1 := by omega
    have w2 : w.2 = -u.2 := by omega
    have dot : (u.1 * v.1 + u.2 * v.2) ≠ 0 := fun z => by
      have k : (u.1 * u.1 + u.2 * u.2) * (v.1 * v.1 + v.2 * v.2) = 1 := by unfold det at du; grind
      rw [← eu, ← ev] at k
      have k2 : N u * N v = 1 := by exact_mod_cast k
      have := Nat.dvd_one.mp ⟨_, (Nat.mul_comm (N u) (N v) ▸ k2).symm⟩
      omega
    have kk : (u.1 * v.1 + u.2 * v.2) * (u.1 * v.1 + u.2 * v.2) + 1 = (u.1 * u.1 + u.2 * u.2) * (v.1 * v.1 + v.2 * v.2) := by unfold det at du; grind
    have big : (N u : Int) * N u < (u.1 * v.1 + u.2 * v.2) * (u.1 * v.1 + u.2 * v.2) + 1 := by
      rw [kk, ← eu, ← ev]
      have hu0 : 0 < N u := by
        apply Classical.byContradiction
        intro z
        have : N u = 0 := by omega
        rw [this] at eu
        rw [← eu] at kk
        have := sq0 (u.1 * v.1 + u.2 * v.2)
        omega
      exact Int.mul_lt_mul_of_pos_left (by omega) (by omega)
    by_cases hd : 0 < u.1 * v.1 + u.2 * v.2
    · -- v - u between v and w
      have q1 : N (v.1 + w.1, v.2 + w.2) < N v := by
        have e := N_eq (v.1 + w.1, v.2 + w.2)
        dsimp only at e
        have e3 : (v.1 + w.1) * (v.1 + w.1) + (v.2 + w.2) * (v.2 + w.2) = (v.1 * v.1 + v.2 * v.2) + (u.1 * u.1 + u.2 * u.2) - 2 * (u.1 * v.1 + u.2 * v.2) := by rw [w1, w2]; grind
        rw [e3, ← eu, ← ev] at e
        generalize (u.1 * v.1 + u.2 * v.2) = d at *
        have : (N u : Int) ≤ d := by
          apply Classical.byContradiction
          intro z
          have : d * d ≤ (N u : Int) * d := Int.mul_le_mul_of_nonneg_right (by omega) (by omega)
          have : (N u : Int) * d ≤ N u * N u := Int.mul_le_mul_of_nonneg_left (by omega) (by omega)
          have : (N u : Int) * d + N u ≤ N u * N u := by
            have h5 : (N u : Int) * (d + 1) ≤ N u * N u := Int.mul_le_mul_of_nonneg_left (by omega) (by omega)
            rw [Int.mul_add, Int.mul_one] at h5
            exact h5
          have : d * d + d ≤ (N u : Int) * d := by
            have h5 : (d + 1) * d ≤ (N u : Int) * d := Int.mul_le_mul_of_nonneg_right (by omega) (by omega)
            rw [Int.add_mul, Int.one_mul] at h5
            exact h5
          omega
        omega
      -- loop: v, v + w, w, M, u
      have cr : Cl (v :: w :: (M ++ [u])) := (cl_rot1 u v (w :: M)).mp c
      have c2 : Cl (v :: (v.1 + w.1, v.2 + w.2) :: w :: (M ++ [u])) := by
        obtain ⟨z1, z2⟩ := cr
        exact ⟨by unfold det at *; dsimp only; grind, by unfold det at *; dsimp only; grind, z2⟩
      obtain ⟨_, f1⟩ := drop_mid (by simp) c2
      -- rotate: u, v, q, w, M
      have c3 : Cl (u :: v :: (v.1 + w.1, v.2 + w.2) :: w :: M) := (cl_rot1 u v _).mpr c2
      have f2 : F (u :: v :: (v.1 + w.1, v.2 + w.2) :: w :: M) = F (v :: (v.1 + w.1, v.2 + w.2) :: w :: (M ++ [u])) := F_rot1 u v _ _
      have f3 : F (u :: v :: w :: M) = F (v :: w :: (M ++ [u])) := F_rot1 u v w M
      have ve : v = (u.1 + (v.1 + w.1), u.2 + (v.2 + w.2)) := Prod.ext (by show v.1 = u.1 + (v.1 + w.1); omega) (by show v.2 = u.2 + (v.2 + w.2); omega)
      have c4 : Cl (u :: (u.1 + (v.1 + w.1, v.2 + w.2).1, u.2 + (v.1 + w.1, v.2 + w.2).2) :: (v.1 + w.1, v.2 + w.2) :: w :: M) := by
        dsimp only
        rw [← ve]
        exact c3
      obtain ⟨c5, f4⟩ := drop_mid (by simp) c4
      refine ⟨_, c5, ?_, ?_, by simp⟩
      · rw [f3, ← f1, ← f2, ← f4]
        dsimp only
        rw [← ve]
      · have := pow_lt q1
        have : 0 < 4 ^ N (v.1 + w.1, v.2 + w.2) := Nat.pow_pos (by decide)
        simp only [wt]
        omega
    · have hd : u.1 * v.1 + u.2 * v.2 < 0 := by omega
      have q1 : N (u.1 + v.1, u.2 + v.2) < N v := by
        have e := N_eq (u.1 + v.1, u.2 + v.2)
        dsimp only at e
        have e3 : (u.1 + v.1) * (u.1 + v.1) + (u.2 + v.2) * (u.2 + v.2) = (v.1 * v.1 + v.2 * v.2) + (u.1 * u.1 + u.2 * u.2) + 2 * (u.1 * v.1 + u.2 * v.2) := by grind
        rw [e3, ← eu, ← ev] at e
        generalize hdd : -(u.1 * v.1 + u.2 * v.2) = d at *
        have hs : (u.1 * v.1 + u.2 * v.2) * (u.1 * v.1 + u.2 * v.2) = d * d := by rw [← hdd]; grind
        rw [hs] at big
        have : (N u : Int) ≤ d := by
          apply Classical.byContradiction
          intro z
          have : (N u : Int) * d + N u ≤ N u * N u := by
            have h5 : (N u : Int) * (d + 1) ≤ N u * N u := Int.mul_le_mul_of_nonneg_left (by omega) (by omega)
            rw [Int.mul_add, Int.mul_one] at h5
            exact h5
          have : d * d + d ≤ (N u : Int) * d := by
            have h5 : (d + 1) * d ≤ (N u : Int) * d := Int.mul_le_mul_of_nonneg_right (by omega) (by omega)
            rw [Int.add_mul, Int.one_mul] at h5
            exact h5
          omega
        omega
      -- u, u + v, v, w, M
      have c2 : Cl (u :: (u.1 + v.1, u.2 + v.2) :: v :: w :: M) := by
        obtain ⟨z1, z2⟩ := c
        exact ⟨by unfold det at *; dsimp only; grind, by unfold det at *; dsimp only; grind, z2⟩
      obtain ⟨_, f1⟩ := drop_mid (by simp) c2
      have c3 : Cl ((u.1 + v.1, u.2 + v.2) :: v :: w :: (M ++ [u])) := (cl_rot1 u _ _).mp c2
      have f2 : F (u :: (u.1 + v.1, u.2 + v.2) :: v :: w :: M) = F ((u.1 + v.1, u.2 + v.2) :: v :: w :: (M ++ [u])) := F_rot1 u _ _ _
      have ve : v = ((u.1 + v.1) + w.1, (u.2 + v.2) + w.2) := Prod.ext (by show v.1 = u.1 + v.1 + w.1; omega) (by show v.2 = u.2 + v.2 + w.2; omega)
      have c4 : Cl ((u.1 + v.1, u.2 + v.2) :: ((u.1 + v.1, u.2 + v.2).1 + w.1, (u.1 + v.1, u.2 + v.2).2 + w.2) :: w :: (M ++ [u])) := by
        dsimp only
        rw [← ve]
        exact c3
      obtain ⟨c5, f4⟩ := drop_mid (by simp) c4
      have c6 : Cl (u :: (u.1 + v.1, u.2 + v.2) :: w :: M) := (cl_rot1 u _ _).mpr c5
      have f5 : F (u :: (u.1 + v.1, u.2 + v.2) :: w :: M) = F ((u.1 + v.1, u.2 + v.2) :: w :: (M ++ [u])) := F_rot1 u _ _ _
      refine ⟨_, c6, ?_, ?_, by simp⟩
      · rw [← f1, f2, f5, ← f4]
        dsimp only
        rw [← ve]
      · have := pow_lt q1
        have : 0 < 4 ^ N (u.1 + v.1, u.2 + v.2) := Nat.pow_pos (by decide)
        simp only [wt]
        omega
  · rw [a1] at sum1 sum2
    have ve : (u.1 + w.1, u.2 + w.2) = v := Prod.ext (by show u.1 + w.1 = v.1; omega) (by show u.2 + w.2 = v.2; omega)
    have hM : M ≠ [] := fun z => by
      subst z
      have d3 : det w u = 1 := c.2.2.1
      have : det u w = 1 := a1
      unfold det at *
      grind
    rw [← ve] at c ⊢
    obtain ⟨c5, f4⟩ := drop_mid hM c
    have : 0 < 4 ^ N (u.1 + w.1, u.2 + w.2) := Nat.pow_pos (by decide)
    refine ⟨_, c5, f4, by simp only [wt]; omega, ?_⟩
    cases M with
    | nil => exact absurd rfl hM
    | cons _ _ => simp
  · rw [am] at sum1 sum2
    have p1 : u.1 + v.1 = -w.1 := by omega
    have p2 : u.2 + v.2 = -w.2 := by omega
    have q1 : v.1 + w.1 = -u.1 := by omega
    have q2 : v.2 + w.2 = -u.2 := by omega
    -- u, p, v, w, M
    have c2 : Cl (u :: (u.1 + v.1, u.2 + v.2) :: v :: w :: M) := by
      obtain ⟨z1, z2⟩ := c
      exact ⟨by unfold det at *; dsimp only; grind, by unfold det at *; dsimp only; grind, z2⟩
    obtain ⟨_, f1⟩ := drop_mid (by simp) c2
    generalize hp : (u.1 + v.1, u.2 + v.2) = p at c2 f1
    have hp1 : p.1 = u.1 + v.1 := by rw [← hp]
    have hp2 : p.2 = u.2 + v.2 := by rw [← hp]
    have np : N p = N w := by
      have e1 := N_eq p
      rw [hp1, hp2, p1, p2, Int.neg_mul_neg, Int.neg_mul_neg, ← ew] at e1
      omega
    have c3 : Cl (p :: v :: w :: (M ++ [u])) := (cl_rot1 u _ _).mp c2
    have f2 : F (u :: p :: v :: w :: M) = F (p :: v :: w :: (M ++ [u])) := F_rot1 u _ _ _
    have c4 : Cl (v :: w :: (M ++ [u] ++ [p])) := (cl_rot1 p _ _).mp c3
    have f3 : F (p :: v :: w :: (M ++ [u])) = F (v :: w :: (M ++ [u] ++ [p])) := F_rot1 p _ _ _
    have c5 : Cl (v :: (v.1 + w.1, v.2 + w.2) :: w :: (M ++ [u] ++ [p])) := by
      obtain ⟨z1, z2⟩ := c4
      exact ⟨by unfold det at *; dsimp only; grind, by unfold det at *; dsimp only; grind, z2⟩
    obtain ⟨_, f4⟩ := drop_mid (by simp) c5
    generalize hq : (v.1 + w.1, v.2 + w.2) = q at c5 f4
    have hq1 : q.1 = v.1 + w.1 := by rw [← hq]
    have hq2 : q.2 = v.2 + w.2 := by rw [← hq]
    have nq : N q = N u := by
      have e1 := N_eq q
      rw [hq1, hq2, q1, q2, Int.neg_mul_neg, Int.neg_mul_neg, ← eu] at e1
      omega
    have c6 : Cl (p :: v :: q :: w :: (M ++ [u])) := (cl_rot1 p v _).mpr c5
    have f5 : F (p :: v :: q :: w :: (M ++ [u])) = F (v :: q :: w :: (M ++ [u] ++ [p])) := F_rot1 p v _ _
    have ve : v = (p.1 + q.1, p.2 + q.2) := Prod.ext (by show v.1 = p.1 + q.1; omega) (by show v.2 = p.2 + q.2; omega)
    have c7 : Cl (p :: (p.1 + q.1, p.2 + q.2) :: q :: w :: (M ++ [u])) := by rw [← ve]; exact c6
    obtain ⟨c8, f6⟩ := drop_mid (by simp) c7
    have c9 : Cl (u :: p :: q :: w :: M) := (cl_rot1 u _ _).mpr c8
    have f7 : F (u :: p :: q :: w :: M) = F (p :: q :: w :: (M ++ [u])) := F_rot1 u _ _ _
    refine ⟨_, c9, ?_, ?_, by simp⟩
    · rw [← f1, f2, f3, ← f4, ← f5, f7, ← f6, ← ve]
    · have k1 := pow_lt nu
      have k2 := pow_lt nw
      have : 0 < 4 ^ N u := Nat.pow_pos (by decide)
      simp only [wt]
      rw [np, nq]
      omega
theorem max_in : ∀ (L : List P), L ≠ [] → ∃ v ∈ L, ∀ x ∈ L, N x ≤ N v
  | [v], _ => ⟨v, by simp, by simp⟩
  | u :: v :: r, _ => by
    obtain ⟨z, hz, hm⟩ := max_in (v :: r) (by simp)
    by_cases h : N u ≤ N z
    · exact ⟨z, List.mem_cons_of_mem _ hz, fun x hx => by
        rcases List.mem_cons.mp hx with rfl | hx
        · exact h
        · exact hm x hx⟩
    · exact ⟨u, by simp, fun x hx => by
        rcases List.mem_cons.mp hx with rfl | hx
        · exact Nat.le_refl _
        · have := hm x hx; omega⟩
theorem N_pos {u v : P} (h : det u v = 1) : 0 < N v := by
  apply Classical.byContradiction
  intro z
  have e := N_eq v
  have : N v = 0 := by omega
  rw [this] at e
  have s1 := sq0 v.1
  have s2 := sq0 v.2
  have k : (v.1 * u.2 - v.2 * u.1) * (v.1 * u.2 - v.2 * u.1) ≤ (v.1 * v.1 + v.2 * v.2) * (u.1 * u.1 + u.2 * u.2) := by
    have s3 := sq0 (v.1 * u.1 + v.2 * u.2)
    have : (v.1 * v.1 + v.2 * v.2) * (u.1 * u.1 + u.2 * u.2) = (v.1 * u.2 - v.2 * u.1) * (v.1 * u.2 - v.2 * u.1) + (v.1 * u.1 + v.2 * u.2) * (v.1 * u.1 + v.2 * u.2) := by grind
    omega
  rw [← e] at k
  have : v.1 * u.2 - v.2 * u.1 = -1 := by unfold det at h; grind
  rw [this] at k
  omega
/-- the numbers of a closed round and its turns -/
theorem main : ∀ (n : Nat) (L : List P), wt L ≤ n → 3 ≤ L.length → Cl L → F L = 0
  | n, L, hn, hl, c => by
    obtain ⟨v, hv, mx⟩ := max_in L (by intro z; rw [z] at hl; simp at hl)
    obtain ⟨A, B, rfl⟩ := List.append_of_mem hv
    obtain ⟨r1, r2⟩ := rot A (v :: B) (by simpa using hl)
    have c1 := r1.mp c
    -- v :: B ++ A = v :: (C ++ [u])
    obtain ⟨C, u, hC⟩ : ∃ C u, B ++ A = C ++ [u] := by
      have : B ++ A ≠ [] := fun z => by
        have := congrArg List.length z
        rw [List.length_append, List.length_nil] at this
        rw [List.length_append, List.length_cons] at hl
        omega
      exact ⟨_, _, (List.dropLast_concat_getLast this).symm⟩
    have lC : 1 ≤ C.length := by
      have := congrArg List.length hC
      rw [List.length_append, List.length_append] at this
      rw [List.length_append, List.length_cons] at hl
      simp only [List.length_cons, List.length_nil] at this
      omega
    match C, lC with
    | w :: M, _ =>
      have e1 : v :: B ++ A = v :: w :: (M ++ [u]) := by rw [List.cons_append, hC]; rfl
      have mx2 : ∀ x ∈ u :: v :: w :: M, N x ≤ N v := fun x hx => mx x (by
        have : x ∈ v :: B ++ A := by
          rw [e1]
          simp at hx ⊢
          rcases hx with q | q | q | q <;> simp [q]
        simp at this ⊢
        rcases this with q | q | q <;> simp [q])
      rw [e1] at c1 r2
      have c2 : Cl (u :: v :: w :: M) := (cl_rot1 u v (w :: M)).mpr c1
      have f2 : F (u :: v :: w :: M) = F (v :: w :: (M ++ [u])) := F_rot1 u v w M
      rw [r2, ← f2]
      by_cases h1 : 1 < N v
      · obtain ⟨L', c3, f3, w3, l3⟩ := F_head c2 h1 mx2
        rw [f3]
        have ww : wt (u :: v :: w :: M) = wt (A ++ v :: B) := by
          have := congrArg wt e1
          simp only [wt, wt_app, List.cons_append] at this ⊢
          omega
        match n, hn with
        | 0, hn => omega
        | n + 1, hn => exact main n L' (by omega) l3 c3
      · refine base (by simp) (fun x hx => ?_) c2
        have := mx2 x hx
        have : 0 < N x := by
          -- x has one ahead of it
          obtain ⟨X, Y, e⟩ := List.append_of_mem hx
          rw [e] at c2
          cases X with
          | nil =>
            have c3 : chain (x :: Y ++ [x]) := c2
            by_cases hY : Y = []
            · subst hY
              exact N_pos c3.1
            · obtain ⟨Y, z, rfl⟩ : ∃ Y' z, Y = Y' ++ [z] := ⟨_, _, (List.dropLast_concat_getLast hY).symm⟩
              have : x :: (Y ++ [z]) ++ [x] = (x :: Y) ++ z :: [x] := by simp
              rw [this, chain_app] at c3
              exact N_pos c3.2.1
          | cons a X =>
            have c3 : chain (a :: X ++ x :: Y ++ [a]) := c2
            have l : a :: X ≠ [] := by simp
            rw [← List.dropLast_concat_getLast l] at c3
            have : (a :: X).dropLast ++ [(a :: X).getLast l] ++ x :: Y ++ [a] = (a :: X).dropLast ++ (a :: X).getLast l :: (x :: Y ++ [a]) := by simp
            rw [this, chain_app] at c3
            exact N_pos c3.2.1
        omega
/-! quarters of the plane -/
def qv (v : P) : Int := if 0 < v.1 ∧ 0 ≤ v.2 then 0 else if v.1 ≤ 0 ∧ 0 < v.2 then 1 else if v.1 < 0 then 2 else 3
theorem sg (a b : Int) : (a = 0 → a * b = 0) ∧ (b = 0 → a * b = 0) ∧ (0 < a → 0 < b → 0 < a * b) ∧ (a < 0 → b < 0 → 0 < a * b) ∧ (0 < a → b < 0 → a * b < 0) ∧ (a < 0 → 0 < b → a * b < 0) :=
  ⟨fun h => by rw [h, Int.zero_mul], fun h => by rw [h, Int.mul_zero], Int.mul_pos, fun h h' => Int.mul_pos_of_neg_of_neg h h', fun h h' => Int.mul_neg_of_pos_of_neg h h', fun h h' => Int.mul_neg_of_neg_of_pos h h'⟩
theorem quart {u v : P} (h : det u v = 1) : 0 ≤ qv v - qv u + 4 * past u v ∧ qv v - qv u + 4 * past u v ≤ 3 := by
  unfold det at h
  obtain ⟨a, b⟩ := u
  obtain ⟨c, d⟩ := v
  dsimp only at h
  obtain ⟨p1, p2, p3, p4, p5, p6⟩ := sg a d
  obtain ⟨q1, q2, q3, q4, q5, q6⟩ := sg b c
  generalize a * d = p at *
  generalize b * c = q at *
  unfold qv past
  dsimp only
  rcases Int.lt_trichotomy a 0 with ha | ha | ha <;> rcases Int.lt_trichotomy b 0 with hb | hb | hb <;> rcases Int.lt_trichotomy c 0 with hc | hc | hc <;> rcases Int.lt_trichotomy d 0 with hd | hd | hd <;>
    simp only [ha, hb, hc, hd, forall_const, true_implies] at p1 p2 p3 p4 p5 p6 q1 q2 q3 q4 q5 q6 <;> first | omega | (repeat split) <;> omega
/-- how a quarter is counted on -/
def ql (u v : P) : Int := (qv v - qv u) - 4 * ((qv v - qv u) / 4)
theorem ql_eq {u v : P} (h : det u v = 1) : ql u v = qv v - qv u + 4 * past u v := by
  obtain ⟨h1, h2⟩ := quart h
  unfold ql
  unfold past at *
  split at h1 <;> omega
end RdP
end

section
/-! RB: rounds by places -/
set_option linter.all false
set_option maxHeartbeats 1000000
namespace RdP
def at_ (p : List P) (k : Nat) : P := p.getD k (0, 0)
theorem at_s (a : P) (p : List P) (k : Nat) : at_ (a :: p) (k + 1) = at_ p k := by simp [at_]
theorem at_0 (a : P) (p : List P) : at_ (a :: p) 0 = a := by simp [at_]
theorem sum_succ (f : Nat → Int) (n : Nat) : ((List.range (n + 1)).map f).sum = f 0 + ((List.range n).map fun k => f (k + 1)).sum := by
  rw [List.range_succ_eq_map, List.map_cons, List.sum_cons, List.map_map]
  rfl
theorem S3_range : ∀ p : List P, S3 p = ((List.range (p.length - 2)).map fun k => tri (at_ p k) (at_ p (k + 1)) (at_ p (k + 2))).sum
  | [] => rfl
  | [_] => rfl
  | [_, _] => rfl
  | a :: b :: c :: r => by
    have i := S3_range (b :: c :: r)
    have e : (a :: b :: c :: r).length - 2 = ((b :: c :: r).length - 2) + 1 := by simp
    rw [e, sum_succ]
    show tri a b c + S3 (b :: c :: r) = _
    rw [i]
    rfl
theorem T_range : ∀ p : List P, T p = ((List.range (p.length - 1)).map fun k => past (at_ p k) (at_ p (k + 1))).sum
  | [] => rfl
  | [_] => rfl
  | a :: b :: r => by
    have i := T_range (b :: r)
    have e : (a :: b :: r).length - 1 = ((b :: r).length - 1) + 1 := by simp
    rw [e, sum_succ]
    show past a b + T (b :: r) = _
    rw [i]
    rfl
theorem chain_range : ∀ p : List P, (∀ k, k + 1 < p.length → det (at_ p k) (at_ p (k + 1)) = 1) → chain p
  | [], _ => trivial
  | [_], _ => trivial
  | a :: b :: r, h => ⟨h 0 (by simp), chain_range (b :: r) fun k hk => h (k + 1) (by simp at hk ⊢; omega)⟩
theorem chain_at : ∀ (p : List P), chain p → ∀ k, k + 1 < p.length → det (at_ p k) (at_ p (k + 1)) = 1
  | [], _, k, hk => by simp at hk
  | [_], _, k, hk => by simp at hk
  | a :: b :: r, c, 0, hk => c.1
  | a :: b :: r, c, k + 1, hk => chain_at (b :: r) c.2 k (by simp at hk ⊢; omega)
/-- the last one, all, the first one -/
def ring (L : List P) : List P := at_ L (L.length - 1) :: (L ++ [at_ L 0])
def V (L : List P) (k : Nat) : P := at_ (ring L) k
theorem V0 (L : List P) : V L 0 = at_ L (L.length - 1) := at_0 _ _
theorem Vk {L : List P} {k : Nat} (h : k < L.length) : V L (k + 1) = at_ L k := by
  unfold V ring
  rw [at_s]
  simp [at_, List.getD_eq_getElem?_getD, List.getElem?_append_left h]
theorem Vn {L : List P} : V L (L.length + 1) = at_ L 0 := by
  unfold V ring
  rw [at_s]
  simp [at_, List.getD_eq_getElem?_getD]
/-- right rounds -/
def Rt (L : List P) : Prop := 3 ≤ L.length ∧ ∀ k, k < L.length → det (V L (k + 1)) (V L (k + 2)) = 1
def num (L : List P) (k : Nat) : Int := det (V L k) (V L (k + 2))
def turn (L : List P) : Int := ((List.range L.length).map fun k => past (V L (k + 1)) (V L (k + 2))).sum
theorem Rt.V_last {L : List P} (h : Rt L) : V L (L.length) = V L 0 := by
  obtain ⟨h1, _⟩ := h
  obtain ⟨n, hn⟩ : ∃ n, L.length = n + 1 := ⟨L.length - 1, by omega⟩
  rw [V0, hn, Vk (by omega)]
  rfl
theorem Rt.V_first {L : List P} (h : Rt L) : V L (L.length + 1) = V L 1 := by
  obtain ⟨h1, _⟩ := h
  rw [Vn, Vk (k := 0) (by omega)]
theorem Rt.det {L : List P} (h : Rt L) : ∀ k, k ≤ L.length → det (V L k) (V L (k + 1)) = 1 := fun k hk => by
  cases k with
  | zero =>
    obtain ⟨n, hn⟩ : ∃ n, L.length = n + 1 := ⟨L.length - 1, by have := h.1; omega⟩
    have := h.2 n (by omega)
    rw [← hn, h.V_last, show n + 2 = L.length + 1 by omega, h.V_first] at this
    exact this
  | succ k => exact h.2 k (by omega)
theorem sum_congr {f g : Nat → Int} {n : Nat} (h : ∀ k, k < n → f k = g k) : ((List.range n).map f).sum = ((List.range n).map g).sum := by
  congr 1
  exact List.map_congr_left fun k hk => h k (List.mem_range.mp hk)
theorem sum_last (f : Nat → Int) (n : Nat) : ((List.range (n + 1)).map f).sum = ((List.range n).map f).sum + f n := by
  rw [List.range_succ, List.map_append, List.sum_append]
  simp
theorem sum_add (f g : Nat → Int) (n : Nat) : ((List.range n).map fun k => f k + g k).sum = ((List.range n).map f).sum + ((List.range n).map g).sum := by
  induction n with
  | zero => rfl
  | succ n ih => rw [sum_last, sum_last, sum_last, ih]; omega
theorem sum_c (c : Int) (n : Nat) : ((List.range n).map fun _ => c).sum = n * c := by
  induction n with
  | zero => simp
  | succ n ih => rw [sum_last, ih]; grind
/-- turns, as the law counts them -/
theorem Rt.turn2 {L : List P} (h : Rt L) : turn L = ((List.range L.length).map fun k => past (V L k) (V L (k + 1))).sum := by
  unfold turn
  obtain ⟨n, hn⟩ : ∃ n, L.length = n + 1 := ⟨L.length - 1, by have := h.1; omega⟩
  rw [hn, sum_last, sum_succ]
  have e1 : V L (n + 1) = V L 0 := by rw [← hn]; exact h.V_last
  have e2 : V L (n + 2) = V L 1 := by rw [show n + 2 = L.length + 1 by omega]; exact h.V_first
  rw [e1, e2]
  show ((List.range n).map fun k => past (V L (k + 1)) (V L (k + 2))).sum + past (V L 0) (V L 1) = past (V L 0) (V L 1) + ((List.range n).map fun k => past (V L (k + 1)) (V L (k + 2))).sum
  omega
/-- the numbers -/
theorem Rt.nums {L : List P} (h : Rt L) : ((List.range L.length).map (num L)).sum = 3 * L.length - 12 * turn L := by
  have hl := h.1
  obtain ⟨M, z, rfl⟩ : ∃ M z, L = M ++ [z] := ⟨_, _, (List.dropLast_concat_getLast (by intro e; rw [e] at hl; simp at hl)).symm⟩
  match M, hl with
  | m0 :: m1 :: M, hl =>
    have er : ring (m0 :: m1 :: M ++ [z]) = z :: (m0 :: m1 :: M ++ [z] ++ [m0]) := by
      unfold ring
      congr 1
      simp [at_, List.getD_eq_getElem?_getD]
    have e2 : z :: (m0 :: m1 :: M ++ [z] ++ [m0]) = (z :: m0 :: m1 :: M) ++ (z :: m0 :: m1 :: M).take 2 := by simp
    have c : chain (ring (m0 :: m1 :: M ++ [z])) := chain_range _ fun k hk => h.det k (by unfold ring at hk; simp at hk ⊢; omega)
    have cl : Cl (z :: m0 :: m1 :: M) := by
      rw [er] at c
      have e3 : z :: (m0 :: m1 :: M ++ [z] ++ [m0]) = (z :: m0 :: m1 :: M) ++ z :: [m0] := by simp
      rw [e3, chain_app] at c
      exact c.1
    have m := main _ (z :: m0 :: m1 :: M) (Nat.le_refl _) (by simp) cl
    unfold F at m
    rw [← e2, ← er, S3_range] at m
    have e4 : T ((z :: m0 :: m1 :: M) ++ (z :: m0 :: m1 :: M).take 1) = turn (m0 :: m1 :: M ++ [z]) := by
      rw [h.turn2, T_range]
      have l1 : ((z :: m0 :: m1 :: M) ++ (z :: m0 :: m1 :: M).take 1).length - 1 = (m0 :: m1 :: M ++ [z]).length := by simp
      rw [l1]
      refine sum_congr fun k hk => ?_
      have q : ∀ j, j ≤ (m0 :: m1 :: M ++ [z]).length → at_ ((z :: m0 :: m1 :: M) ++ (z :: m0 :: m1 :: M).take 1) j = V (m0 :: m1 :: M ++ [z]) j := fun j hj => by
        unfold V
        rw [er]
        have e5 : z :: (m0 :: m1 :: M ++ [z] ++ [m0]) = ((z :: m0 :: m1 :: M) ++ (z :: m0 :: m1 :: M).take 1) ++ [m0] := by simp
        rw [e5]
        unfold at_
        have e7 : (((z :: m0 :: m1 :: M) ++ (z :: m0 :: m1 :: M).take 1) ++ [m0])[j]? = ((z :: m0 :: m1 :: M) ++ (z :: m0 :: m1 :: M).take 1)[j]? := List.getElem?_append_left (by simp at hj ⊢; omega)
        rw [List.getD_eq_getElem?_getD, List.getD_eq_getElem?_getD, e7]
      rw [q k (by omega), q (k + 1) (by omega)]
    rw [e4] at m
    have l2 : (ring (m0 :: m1 :: M ++ [z])).length - 2 = (m0 :: m1 :: M ++ [z]).length := by unfold ring; simp
    rw [l2] at m
    have e6 : ((List.range (m0 :: m1 :: M ++ [z]).length).map fun k => tri (at_ (ring (m0 :: m1 :: M ++ [z])) k) (at_ (ring (m0 :: m1 :: M ++ [z])) (k + 1)) (at_ (ring (m0 :: m1 :: M ++ [z])) (k + 2))).sum + ((List.range (m0 :: m1 :: M ++ [z]).length).map (num (m0 :: m1 :: M ++ [z]))).sum = 3 * (m0 :: m1 :: M ++ [z]).length := by
      rw [← sum_add]
      have := sum_c 3 (m0 :: m1 :: M ++ [z]).length
      rw [show ((List.range (m0 :: m1 :: M ++ [z]).length).map fun k => tri (at_ (ring (m0 :: m1 :: M ++ [z])) k) (at_ (ring (m0 :: m1 :: M ++ [z])) (k + 1)) (at_ (ring (m0 :: m1 :: M ++ [z])) (k + 2)) + num (m0 :: m1 :: M ++ [z]) k) = (List.range (m0 :: m1 :: M ++ [z]).length).map fun _ => (3 : Int) from List.map_congr_left fun k _ => by unfold tri num V; omega]
      rw [this]
      omega
    omega
/-- a pair so many times is the sum of its neighbours -/
theorem Rt.mid {L : List P} (h : Rt L) {k : Nat} (hk : k < L.length) : num L k * (V L (k + 1)).1 = (V L k).1 + (V L (k + 2)).1 ∧ num L k * (V L (k + 1)).2 = (V L k).2 + (V L (k + 2)).2 := by
  have h1 := h.det k (by omega)
  have h2 := h.det (k + 1) (by omega)
  unfold num
  rw [show k + 1 + 1 = k + 2 from rfl] at h2
  generalize V L k = a at *
  generalize V L (k + 1) = b at *
  generalize V L (k + 2) = c at *
  unfold RdP.det at *
  constructor <;> grind
/-- quarters, as the law counts them -/
theorem Rt.quarters {L : List P} (h : Rt L) : ((List.range L.length).map fun k => ql (V L k) (V L (k + 1))).sum = 4 * turn L := by
  rw [h.turn2]
  have e : ∀ n, n ≤ L.length → ((List.range n).map fun k => ql (V L k) (V L (k + 1))).sum = qv (V L n) - qv (V L 0) + 4 * ((List.range n).map fun k => past (V L k) (V L (k + 1))).sum := by
    intro n
    induction n with
    | zero => intro _; simp
    | succ n ih =>
      intro hn
      rw [sum_last, sum_last, ih (by omega), ql_eq (h.det n (by omega))]
      omega
  rw [e _ (Nat.le_refl _), h.V_last]
  omega
end RdP
end

section
set_option Elab.async false
set_option linter.all false
set_option maxRecDepth 100000
set_option maxHeartbeats 4000000
/-! RC: what is a round, as the program and as the law tell it -/
namespace EvH
open PySem PySem.Spec PyProof.Rows L2 EvL
theorem ints_flat : ∀ l : List Int, flatL (l.map .int) = true ∧ PyData.canLayAll0 (cvL (l.map .int)) = true ∧ PyData.depthAll (cvL (l.map .int)) ≤ 0
  | [] => ⟨rfl, rfl, Nat.le_refl _⟩
  | x :: l => by
    obtain ⟨a, b, c⟩ := ints_flat l
    refine ⟨?_, ?_, ?_⟩
    · rw [List.map_cons]; unfold flatL; rw [a]; rfl
    · rw [List.map_cons]; unfold cvL PyData.canLayAll0; rw [b]; rfl
    · rw [List.map_cons]; unfold cvL PyData.depthAll
      have : (cv (.int x)).depth = 0 := rfl
      omega
theorem good_ints (l : List Int) : good (.lst (l.map .int)) = true := by
  obtain ⟨a, b, c⟩ := ints_flat l
  unfold good SeqAt.shaped flat cv
  unfold PyData.canLay0 PyData.depth
  rw [a, b]
  simp
  omega
theorem eqv_nil (l : List Int) : PyData.eqv (cv (.lst (l.map .int))) (cv (.lst [])) = l.isEmpty := by
  cases l with
  | nil => rfl
  | cons x l =>
    rw [List.map_cons]
    unfold cv cvL
    first | rfl | simp [PyData.eqv]
theorem eq_nil (l : List Int) : oEq (.lst (l.map .int)) (.lst []) = some (.bl l.isEmpty) := by
  unfold oEq
  rw [good_ints, show good (.lst []) = true from rfl, eqv_nil]
  rfl
theorem ne_nil (l : List Int) : oNe (.lst (l.map .int)) (.lst []) = some (.bl (!l.isEmpty)) := by
  unfold oNe
  rw [good_ints, show good (.lst []) = true from rfl, eqv_nil]
  rfl
/-- plain values -/
def plA : Dv → Bool
  | .non => true
  | .bl _ => true
  | .int _ => true
  | .str _ => true
  | .tup xs => plL xs
  | .lst xs => plL xs
  | .dic kvs => kvs.isEmpty
  | .fn _ => false
  | .scr _ => false
where plL : List Dv → Bool
  | [] => true
  | x :: xs => plA x && plL xs
theorem plL_iff : ∀ {xs : List Dv}, plA.plL xs = true ↔ ∀ x ∈ xs, plA x = true
  | [] => by simp [plA.plL]
  | x :: xs => by
    unfold plA.plL
    rw [Bool.and_eq_true, plL_iff (xs := xs)]
    simp
theorem plA_ty {d : Dv} (h : plA d = true) : ty d = true := by
  cases d <;> first | rfl | (simp [plA] at h)
end EvH
namespace K59
open PySem PySem.Spec PyProof.Rows L2 EvL EvH RdP
abbrev pt (v : P) : Dv := .tup [.int v.1, .int v.2]
def isI : Dv → Bool
  | .int _ => true
  | _ => false
theorem v_is_integer {d : Dv} (h : ty d = true) (m : Store) : f_is_integer [.d d] m = .ok (.d (.bl (isI d))) m := by
  cases d <;> first | exact fin_d rfl rfl | (simp [ty, tyName] at h; done)
/-- an integer from one to another -/
def fromD (lo hi : Int) : Dv → Bool
  | .int i => decide (lo ≤ i) && decide (i ≤ hi)
  | _ => false
theorem v_is_from {d : Dv} {lo hi : Int} (h : ty d = true) (m : Store) : f_is_from [.d d, .d (.int lo), .d (.int hi)] m = .ok (.d (.bl (fromD lo hi d))) m := by
  have e := call1 (en := start0 3 [.d d, .d (.int lo), .d (.int hi)]) (m1 := m) (p := f_is_integer) (sVar_ok (i := 0) (m := m) rfl) (v_is_integer h m)
  cases d with
  | int i => exact fin_d rfl (gRet_ok ((sAnd_t e).trans (chain_ii (sVar_ok rfl) (sVar_ok rfl) (sVar_ok rfl) rfl rfl)))
  | _ => exact fin_d rfl (gRet_ok (sAnd_f e))
def isPr : Dv → Bool
  | .tup [x, y] => fromD (-1000) 1000 x && fromD (-1000) 1000 y
  | _ => false
abbrev pairT : SemB := bOr (bNot (sT (sUn (oIs "tuple") (sVar 0)))) (sT (sBin oNe (sUn oLen (sVar 0)) (sC (.int 2))))
theorem v_is_pair {d : Dv} (h : plA d = true) (m : Store) : f_is_pair [.d d] m = .ok (.d (.bl (isPr d))) m := by
  have no : isPr d = false → pairT [some (.d d), none] m = .ok true m → f_is_pair [.d d] m = .ok (.d (.bl (isPr d))) m := fun h0 t => by
    rw [h0]
    exact fin_d rfl (gSeq_rt ((gIf_t t).trans (gRet_ok (sC_ok _))))
  have ht := is_t (en := [some (.d d), none]) (m := m) (m1 := m) "tuple" (plA_ty h) (sVar_ok (i := 0) rfl)
  by_cases h1 : isTy "tuple" d = true
  · obtain ⟨xs, rfl⟩ : ∃ xs, d = .tup xs := by
      cases d <;> first | exact ⟨_, rfl⟩ | (simp [isTy, tyName, isTyN] at h1)
    rw [h1] at ht
    have t2 := ne_i (en := [some (.d (.tup xs)), none]) (len_t (m := m) (sVar_ok (i := 0) rfl)) (sC_ok (.int 2))
    have pl := plL_iff.mp (show plA.plL xs = true by simpa [plA] using h)
    match xs, pl with
    | [x, y], pl =>
      have a : sUn oAll (sF (fComp (iSeq (sVar 0)) (tgN 1) bYes (sCall f_is_from (lCons (sVar 1) (lCons (sBin oSub (sC (.int 0)) (sC (.int 1000))) (lCons (sC (.int 1000)) lNil)))) [1])) [some (.d (.tup [x, y])), none] m = .ok (.d (.bl (isPr (.tup [x, y])))) m := by
        have e : fComp (iSeq (sVar 0)) (tgN 1) bYes (sCall f_is_from (lCons (sVar 1) (lCons (sBin oSub (sC (.int 0)) (sC (.int 1000))) (lCons (sC (.int 1000)) lNil)))) [1] [some (.d (.tup [x, y])), none] m = .ok (([x, y].filter fun _ => true).map fun z => .bl (fromD (-1000) 1000 z)) m :=
          comp_pure (fun _ => true) _ (iSeq_t (sVar_ok rfl)) (by simp) fun z acc hz => ⟨_, rfl, rfl, fun _ => call3 (sVar_ok rfl) (sub_i (sC_ok _) (sC_ok _)) (sC_ok _) (v_is_from (plA_ty (pl z hz)) _)⟩
        refine sUn_ok (sF_ok e) rfl ?_
        show oAll (.lst [.bl (fromD (-1000) 1000 x), .bl (fromD (-1000) 1000 y)]) = _
        show _ = some (Dv.bl (fromD (-1000) 1000 x && fromD (-1000) 1000 y))
        generalize fromD (-1000) 1000 x = p
        generalize fromD (-1000) 1000 y = q
        cases p <;> cases q <;> rfl
      refine fin_d rfl ((gSeq_ok (gif_b ((bOr_f (bNot_ok ht)).trans t2) rfl)).trans (gRet_ok a))
    | [], _ => exact no rfl ((bOr_f (bNot_ok ht)).trans (t2.trans rfl))
    | [_], _ => exact no rfl ((bOr_f (bNot_ok ht)).trans (t2.trans rfl))
    | _ :: _ :: _ :: r, _ =>
      refine no rfl ((bOr_f (bNot_ok ht)).trans (t2.trans ?_))
      rw [decide_eq_false (by simp; omega)]
      rfl
  · have hf : isTy "tuple" d = false := by simpa using h1
    rw [hf] at ht
    refine no ?_ (bOr_t (bNot_ok ht))
    cases d <;> first | rfl | (simp [isTy, tyName, isTyN] at h1; done)
theorem v_det {u v : P} (h1 : u.1.natAbs < 2 ^ 60) (h2 : u.2.natAbs < 2 ^ 60) (m : Store) : f_determinant [.d (pt u), .d (pt v)] m = .ok (.d (.int (det u v))) m := by
  have a : ∀ (i j : Int) (x : Int), atI [.int u.1, .int u.2] i = some (Dv.int x) → True := fun _ _ _ _ => trivial
  refine fin_d rfl (gRet_ok (sub_i (mul_i (ix_t (sVar_ok rfl) (sC_ok _) rfl) (ix_t (sVar_ok rfl) (sC_ok _) rfl) (m64 (by omega))) (mul_i (ix_t (sVar_ok rfl) (sC_ok _) rfl) (ix_t (sVar_ok rfl) (sC_ok _) rfl) (m64 (by omega)))))
theorem v_of_two {u v : P} (h1 : u.1.natAbs < 2 ^ 60) (h2 : u.2.natAbs < 2 ^ 60) (m : Store) : f__law_of_two [.d (pt u), .d (pt v)] m = .ok (.d (.int (det u v))) m := by
  refine fin_d rfl (gRet_ok (sub_i (mul_i (ix_t (sVar_ok rfl) (sC_ok _) rfl) (ix_t (sVar_ok rfl) (sC_ok _) rfl) (m64 (by omega))) (mul_i (ix_t (sVar_ok rfl) (sC_ok _) rfl) (ix_t (sVar_ok rfl) (sC_ok _) rfl) (m64 (by omega)))))
/-- pairs small enough -/
def Small (L : List P) : Prop := ∀ v ∈ L, v.1.natAbs ≤ 1000 ∧ v.2.natAbs ≤ 1000
abbrev en_ (L : List P) : Dv := .tup (L.map pt)
theorem pt_at {L : List P} {k : Nat} (h : k < L.length) : (L.map pt)[k]? = some (pt (at_ L k)) := by
  rw [List.getElem?_map, List.getElem?_eq_getElem h]
  simp [at_, List.getD_eq_getElem?_getD, h]
theorem Small.at_ {L : List P} (h : Small L) (k : Nat) : (at_ L k).1.natAbs ≤ 1000 ∧ (at_ L k).2.natAbs ≤ 1000 := by
  by_cases hk : k < L.length
  · have : RdP.at_ L k = L[k] := by simp [RdP.at_, List.getD_eq_getElem?_getD, hk]
    rw [this]
    exact h _ (List.getElem_mem _)
  · have : RdP.at_ L k = (0, 0) := by simp [RdP.at_, List.getD_eq_getElem?_getD, hk]
    rw [this]
    decide
theorem Small.V {L : List P} (h : Small L) (k : Nat) : (V L k).1.natAbs ≤ 1000 ∧ (V L k).2.natAbs ≤ 1000 := by
  by_cases h0 : k = 0
  · subst h0
    rw [V0]
    exact h.at_ _
  · obtain ⟨j, rfl⟩ : ∃ j, k = j + 1 := ⟨k - 1, by omega⟩
    by_cases hj : j < L.length
    · rw [Vk hj]; exact h.at_ _
    · by_cases hn : j = L.length
      · subst hn; rw [Vn]; exact h.at_ _
      · have : RdP.V L (j + 1) = (0, 0) := by
          unfold RdP.V ring
          rw [at_s]
          have hl : ¬ j < (L ++ [RdP.at_ L 0]).length := by simp; omega
          simp only [RdP.at_, List.getD_eq_getElem?_getD]
          rw [List.getElem?_eq_none (by simp; omega)]
          rfl
        rw [this]
        decide
/-- all but the first, then the first -/
theorem next_list {L : List P} (h : 1 ≤ L.length) : pairs (L.map pt) (EvL.cutD (L.map pt) (some 1) none ++ EvL.cutD (L.map pt) none (some 1)) = (List.range L.length).map fun k => Dv.tup [pt (V L (k + 1)), pt (V L (k + 2))] := by
  have e1 : EvL.cutD (L.map pt) (some 1) none ++ EvL.cutD (L.map pt) none (some 1) = (L.drop 1 ++ L.take 1).map pt := by
    have a : HT.sIx (L.map pt).length 0 (some (1 : Int)) = 1 := by simp [HT.sIx]; omega
    have b : HT.sIx (L.map pt).length (L.map pt).length (some (1 : Int)) = 1 := by simp [HT.sIx]; omega
    unfold EvL.cutD
    rw [a, b]
    simp only [HT.sIx]
    rw [List.map_append, List.map_drop, List.map_take]
    congr 1
    · rw [List.take_of_length_le (by simp)]
  rw [e1]
  unfold pairs
  refine List.ext_getElem (by simp; omega) fun i h1 h2 => ?_
  have hi : i < L.length := by simpa using h2
  simp only [List.getElem_zipWith, List.getElem_map, List.getElem_range]
  have a1 : L[i] = V L (i + 1) := by
    rw [Vk hi]
    simp [at_, List.getD_eq_getElem?_getD, hi]
  have a2 : (L.drop 1 ++ L.take 1)[i]'(by simp; omega) = V L (i + 2) := by
    by_cases hl : i + 1 < L.length
    · rw [Vk hl, List.getElem_append_left (by simp; omega)]
      simp [at_, List.getD_eq_getElem?_getD, hl, Nat.add_comm]
    · have : i + 2 = L.length + 1 := by omega
      rw [this, Vn, List.getElem_append_right (by simp; omega)]
      have z : i - (L.drop 1).length = 0 := by simp; omega
      simp only [z, List.getElem_take]
      simp [at_, List.getD_eq_getElem?_getD, (show 0 < L.length by omega)]
  rw [a1, a2]
theorem v_next {L : List P} (h : 1 ≤ L.length) (h2 : L.length ≤ 60) (m : Store) : f_next_pairs [.d (en_ L)] m = .ok (.d (.lst ((List.range L.length).map fun k => Dv.tup [pt (V L (k + 1)), pt (V L (k + 2))]))) m := by
  have l1 : (EvL.cutD (L.map pt) (some 1) none ++ EvL.cutD (L.map pt) none (some 1)).length = (L.map pt).length := by
    have a : HT.sIx (L.map pt).length 0 (some (1 : Int)) = 1 := by simp [HT.sIx]; omega
    have b : HT.sIx (L.map pt).length (L.map pt).length (some (1 : Int)) = 1 := by simp [HT.sIx]; omega
    unfold EvL.cutD
    rw [a, b]
    simp [HT.sIx]
    omega
  have e : fZip2 (sVar 0) (sBin oAddP (sSlP (sVar 0) (oYes (sC (.int 1))) oNo) (sSlP (sVar 0) oNo (oYes (sC (.int 1))))) (start0 1 [.d (en_ L)]) m = .ok ((List.range L.length).map fun k => Dv.tup [pt (V L (k + 1)), pt (V L (k + 2))]) m := by
    have s := sBin_ok (op := oAddP) (slT_ok (sVar_ok (i := 0) (en := start0 1 [.d (en_ L)]) (m := m) (x := .d (en_ L)) rfl) (oYes_ok (sC_ok (.int 1))) (oh := oNo) rfl) (slT_ok (sVar_ok (i := 0) (x := .d (en_ L)) rfl) (ol := oNo) rfl (oYes_ok (sC_ok (.int 1)))) rfl rfl (cat_t (by
      have := cut_len (L.map pt) (some (1 : Int)) none
      have := cut_len (L.map pt) none (some (1 : Int))
      simp at *
      omega))
    unfold fZip2
    rw [sVar_ok (x := .d (en_ L)) rfl]
    show ((sBin oAddP _ _ _ m).bind fun y m2 => _) = _
    rw [s]
    show (if decide ((L.map pt).length = (EvL.cutD (L.map pt) (some 1) none ++ EvL.cutD (L.map pt) none (some 1)).length) && decide (1 ≤ (L.map pt).length) && decide ((L.map pt).length ≤ 1000) then Rs.ok (pairs (L.map pt) (EvL.cutD (L.map pt) (some 1) none ++ EvL.cutD (L.map pt) none (some 1))) m else .no) = _
    rw [l1, next_list h, decide_eq_true rfl, decide_eq_true (by simpa using h), decide_eq_true (by simp; omega)]
    rfl
  exact fin_d rfl (gRet_ok (sF_ok e))
end K59
end

section
set_option Elab.async false
set_option linter.all false
set_option maxRecDepth 100000
set_option maxHeartbeats 4000000
/-! RD: the first wrong thing, by the program and by the law -/
namespace K59
open PySem PySem.Spec PyProof.Rows L2 EvL EvH RdP
def toP : Dv → P
  | .tup [.int a, .int b] => (a, b)
  | _ => (0, 0)
def ks (xs : List Dv) : List Nat := (List.range xs.length).filter fun k => !isPr (xs.getD k .non)
def js (L : List P) : List Nat := (List.range L.length).filter fun k => !decide (det (V L (k + 1)) (V L (k + 2)) = 1)
def hdD : List Nat → Dv
  | k :: _ => .tup [.int (k : Nat)]
  | [] => .non
/-- the path of the first wrong thing, None if there is none -/
def flt : Dv → Dv
  | .tup xs => if 3 ≤ xs.length ∧ xs.length ≤ 60 then (match ks xs with
    | k :: _ => .tup [.int (k : Nat)]
    | [] => hdD (js (xs.map toP))) else .tup []
  | _ => .tup []
theorem flt_t (xs : List Dv) : flt (.tup xs) = if 3 ≤ xs.length ∧ xs.length ≤ 60 then (match ks xs with
    | k :: _ => .tup [.int (k : Nat)]
    | [] => hdD (js (xs.map toP))) else .tup [] := rfl
theorem isPr_pt {d : Dv} (h : isPr d = true) : d = pt (toP d) ∧ (toP d).1.natAbs ≤ 1000 ∧ (toP d).2.natAbs ≤ 1000 := by
  unfold isPr at h
  split at h
  · rename_i x y
    cases x <;> cases y <;> simp [fromD] at h
    refine ⟨rfl, ?_, ?_⟩ <;> simp only [toP] <;> omega
  · cases h
theorem toP_pt (v : P) : toP (pt v) = v := rfl
theorem all_pt {xs : List Dv} (h : ks xs = []) : xs = (xs.map toP).map pt ∧ Small (xs.map toP) := by
  have a := filt_nil h
  have b : ∀ x ∈ xs, isPr x = true := fun x hx => by
    obtain ⟨i, hi, e⟩ := List.mem_iff_getElem.mp hx
    have := a i hi
    rw [List.getD_eq_getElem?_getD, List.getElem?_eq_getElem hi] at this
    simp at this
    rw [← e]
    exact this
  constructor
  · rw [List.map_map]
    have : xs.map (pt ∘ toP) = xs.map id := List.map_congr_left fun x hx => (isPr_pt (b x hx)).1.symm
    rw [this, List.map_id]
  · intro v hv
    obtain ⟨x, hx, rfl⟩ := List.mem_map.mp hv
    exact (isPr_pt (b x hx)).2
theorem ints_map (l : List Nat) : l.map (fun k => Dv.int (k : Nat)) = (l.map fun k : Nat => (k : Int)).map .int := by
  rw [List.map_map]; rfl
abbrev e6 (d : Dv) (o1 o2 o3 o4 o5 : Option Sv) : En := [some (.d d), o1, o2, o3, o4, o5]
abbrev fT : SemB := bOr (bNot (sT (sUn (oIs "tuple") (sVar 0)))) (bNot (sT (sChain oLe oLe (sC (.int 3)) (sUn oLen (sVar 0)) (sC (.int 60)))))
theorem fT_no {d : Dv} (h : plA d = true) (hn : isTy "tuple" d = false) (r : List (Option Sv)) (m : Store) : fT (some (.d d) :: r) m = .ok true m := by
  have ht := is_t (en := some (.d d) :: r) (m := m) (m1 := m) "tuple" (plA_ty h) (sVar_ok (i := 0) rfl)
  rw [hn] at ht
  exact bOr_t (bNot_ok ht)
theorem fT_t (xs : List Dv) (r : List (Option Sv)) (m : Store) : fT (some (.d (.tup xs)) :: r) m = .ok (!decide (3 ≤ xs.length ∧ xs.length ≤ 60)) m := by
  have ht := is_t (en := some (.d (.tup xs)) :: r) (m := m) (m1 := m) (d := .tup xs) "tuple" rfl (sVar_ok (i := 0) rfl)
  have c := chain_ii (o1 := oLe) (o2 := oLe) (en := some (.d (.tup xs)) :: r) (sC_ok (m := m) (.int 3)) (len_t (xs := xs) (sVar_ok (i := 0) rfl)) (sC_ok (.int 60)) rfl rfl
  have e := (bOr_f (bNot_ok ht)).trans (bNot_ok (sT_ok c))
  rw [show (decide (3 ≤ xs.length ∧ xs.length ≤ 60)) = (decide ((3 : Int) ≤ (xs.length : Int)) && decide ((xs.length : Int) ≤ 60)) by
    rw [Bool.eq_iff_iff]; simp; omega]
  exact e
theorem not_tup {d : Dv} (h : isTy "tuple" d = false) : flt d = .tup [] := by
  cases d <;> first | rfl | (simp [isTy, tyName, isTyN] at h; done)
theorem is_tup {d : Dv} (h : isTy "tuple" d = true) : ∃ xs, d = .tup xs := by
  cases d <;> first | exact ⟨_, rfl⟩ | (simp [isTy, tyName, isTyN] at h; done)
/-- the places of what is no pair -/
theorem comp_ks {xs : List Dv} (pl : ∀ x ∈ xs, plA x = true) (hx : xs.length ≤ 60) (o1 o2 o3 o4 o5 : Option Sv) (m : Store) : fComp (iEnumS (sVar 0)) (tgTup 2 (tgCons (tgN 2) (tgCons (tgN 3) tgNil))) (bNot (sT (sCall f_is_pair (lCons (sVar 3) lNil)))) (sVar 2) [2, 3] (e6 (.tup xs) o1 o2 o3 o4 o5) m = .ok ((ks xs).map fun k => .int (k : Nat)) m := by
  have e := comp_pure (vs := [2, 3]) (G := tgTup 2 (tgCons (tgN 2) (tgCons (tgN 3) tgNil))) (t := bNot (sT (sCall f_is_pair (lCons (sVar 3) lNil)))) (f := sVar 2) (fun x => match x with | .tup [_, x] => !isPr x | _ => false) (fun x => match x with | .tup [i, _] => i | _ => .non) (iEnum_t (sVar_ok (i := 0) (en := e6 (.tup xs) o1 o2 o3 o4 o5) (m := m) (x := .d (.tup xs)) rfl)) (by rw [numb_eq]; simp; omega) (fun d acc hd => by
    rw [numb_eq] at hd
    obtain ⟨k, hk, rfl⟩ := List.mem_map.mp hd
    have hk := List.mem_range.mp hk
    have px : plA (xs.getD k .non) = true := by
      rw [List.getD_eq_getElem?_getD, List.getElem?_eq_getElem hk]
      exact pl _ (List.getElem_mem _)
    exact ⟨_, rfl, bNot_ok (sT_ok (call1 (sVar_ok rfl) (v_is_pair px _))), fun _ => sVar_ok rfl⟩)
  rw [e, numb_eq, map_filter_range]
  rfl
/-- the places of pairs whose next one doesn't go on -/
theorem comp_js {L : List P} (sm : Small L) (h1 : 1 ≤ L.length) (h2 : L.length ≤ 60) (o1 o2 o3 o4 o5 : Option Sv) (m : Store) : fComp (iEnumS (sCall f_next_pairs (lCons (sVar 0) lNil))) (tgTup 2 (tgCons (tgN 2) (tgCons (tgTup 2 (tgCons (tgN 4) (tgCons (tgN 5) tgNil))) tgNil))) (sT (sBin oNe (sCall f_determinant (lCons (sVar 4) (lCons (sVar 5) lNil))) (sC (.int 1)))) (sVar 2) [2, 4, 5] (e6 (en_ L) o1 o2 o3 o4 o5) m = .ok ((js L).map fun k => .int (k : Nat)) m := by
  have c : sCall f_next_pairs (lCons (sVar 0) lNil) (e6 (en_ L) o1 o2 o3 o4 o5) m = .ok (.d (.lst ((List.range L.length).map fun k => Dv.tup [pt (V L (k + 1)), pt (V L (k + 2))]))) m := call1 (sVar_ok rfl) (v_next h1 h2 m)
  have ln : ((List.range L.length).map fun k => Dv.tup [pt (V L (k + 1)), pt (V L (k + 2))]).length = L.length := by simp
  have gd : ∀ k, k < L.length → ((List.range L.length).map fun k => Dv.tup [pt (V L (k + 1)), pt (V L (k + 2))]).getD k .non = Dv.tup [pt (V L (k + 1)), pt (V L (k + 2))] := fun k hk => by simp [List.getD_eq_getElem?_getD, hk]
  have e := comp_pure (vs := [2, 4, 5]) (G := tgTup 2 (tgCons (tgN 2) (tgCons (tgTup 2 (tgCons (tgN 4) (tgCons (tgN 5) tgNil))) tgNil))) (t := sT (sBin oNe (sCall f_determinant (lCons (sVar 4) (lCons (sVar 5) lNil))) (sC (.int 1)))) (f := sVar 2) (fun x => match x with | .tup [_, .tup [x, y]] => !decide (det (toP x) (toP y) = 1) | _ => false) (fun x => match x with | .tup [i, _] => i | _ => .non) (iEnum_l c) (by rw [numb_eq, ln]; simp; omega) (fun d acc hd => by
    rw [numb_eq, ln] at hd
    obtain ⟨k, hk, rfl⟩ := List.mem_map.mp hd
    have hk := List.mem_range.mp hk
    rw [gd k hk]
    have s1 := sm.V (k + 1)
    exact ⟨_, rfl, ne_i (call2 (sVar_ok rfl) (sVar_ok rfl) (v_det (by omega) (by omega) _)) (sC_ok _), fun _ => sVar_ok rfl⟩)
  rw [e, numb_eq, map_filter_range, ln]
  unfold js
  congr 1
  rw [show (fun k : Nat => match (Dv.tup [.int (k : Nat), ((List.range L.length).map fun k => Dv.tup [pt (V L (k + 1)), pt (V L (k + 2))]).getD k .non]) with | .tup [i, _] => i | _ => .non) = fun k : Nat => Dv.int (k : Nat) from rfl]
  congr 1
  refine List.filter_congr fun k hk => ?_
  rw [gd k (List.mem_range.mp hk)]
  rfl
theorem ret_ok {xs : List Nat} {i k : Nat} {en : En} {m : Store} (h : en[i]? = some (some (.o k))) (hk : m[k]? = some (.lst (xs.map fun k => .int (k : Nat)))) : sIf (sT (sBin oNe (sVar i) (sF (fLst lNil)))) (sTup (lCons (sBin oIx (sVar i) (sC (.int 0))) lNil)) (sC .non) en m = .ok (.d (hdD xs)) m := by
  have t : sT (sBin oNe (sVar i) (sF (fLst lNil))) en m = .ok (!xs.isEmpty) m := by
    have q := ne_nil (xs.map fun k : Nat => (k : Int))
    rw [← ints_map] at q
    have := sT_ok (b := !(xs.map fun k : Nat => (k : Int)).isEmpty) (sBin_ok (op := oNe) (sVar_ok h) (lst0 (en := en) (m := m)) (rv_lst hk) rfl q)
    rw [this]
    cases xs <;> rfl
  rw [if_ok t]
  cases xs with
  | nil => rfl
  | cons k xs =>
    refine tup1 (ix_o (sVar_ok h) (sC_ok _) hk ?_)
    exact atI_n (by decide) rfl
theorem p_fault {d : Dv} (h : plA d = true) (m : Store) : f_round_fault [.d d] m = .ok (.d (flt d)) m := by
  by_cases h1 : isTy "tuple" d = true
  · obtain ⟨xs, rfl⟩ := is_tup h1
    have t := fT_t xs [none, none, none, none, none] m
    have pl := plL_iff.mp (show plA.plL xs = true by simpa [plA] using h)
    by_cases hl : 3 ≤ xs.length ∧ xs.length ≤ 60
    · rw [decide_eq_true hl] at t
      have c1 := comp_ks pl hl.2 none none none none none m
      have s2 := get_push m (.lst ((ks xs).map fun k => Dv.int (k : Nat)))
      have t2 : sT (sBin oEq (sVar 1) (sF (fLst lNil))) (e6 (.tup xs) (some (.o m.length)) none none none none) (m ++ [.lst ((ks xs).map fun k => Dv.int (k : Nat))]) = .ok (ks xs).isEmpty (m ++ [.lst ((ks xs).map fun k => Dv.int (k : Nat))]) := by
        have q := eq_nil ((ks xs).map fun k : Nat => (k : Int))
        rw [← ints_map] at q
        have := sT_ok (b := ((ks xs).map fun k : Nat => (k : Int)).isEmpty) (sBin_ok (op := oEq) (en := e6 (.tup xs) (some (.o m.length)) none none none none) (sVar_ok (i := 1) rfl) lst0 (rv_lst s2) rfl q)
        rw [this]
        cases ks xs <;> rfl
      have go : ∀ r, flt (.tup xs) = r → (∃ S, g_round_fault (start0 6 [.d (.tup xs)]) m = .rt (.d r) S ∧ S.take m.length = m) → f_round_fault [.d (.tup xs)] m = .ok (.d (flt (.tup xs))) m := fun r hr ⟨S, e, tk⟩ => by
        rw [hr]
        exact (fn_d (ns := 6) (np := 1) (ws := [.d (.tup xs)]) rfl e).trans (by rw [tk])
      cases hk : ks xs with
      | cons k r =>
        rw [hk] at c1 s2 t2
        refine go (.tup [.int (k : Nat)]) (by rw [flt_t, if_pos hl, hk]) ⟨m ++ [.lst ((k :: r).map fun k => Dv.int (k : Nat))], ?_, take_app _ _⟩
        refine (gSeq_ok (gif_b t rfl)).trans ((gSeq_ok (gNew_ok c1)).trans ((gSeq_ok (gif_b t2 rfl)).trans (gRet_ok ?_)))
        exact ret_ok (xs := k :: r) rfl s2
      | nil =>
        rw [hk] at c1 s2 t2
        obtain ⟨ex, sm⟩ := all_pt hk
        have hl1 : (xs.map toP).length = xs.length := by simp
        have c2 := comp_js sm (by omega) (by omega) (some (.o m.length)) none none none none (m ++ [.lst (([] : List Nat).map fun k => Dv.int (k : Nat))])
        rw [show en_ (xs.map toP) = .tup xs by unfold en_; rw [← ex]] at c2
        have s3 := get_push (m ++ [So.lst (([] : List Nat).map fun k => Dv.int (k : Nat))]) (.lst ((js (xs.map toP)).map fun k => Dv.int (k : Nat)))
        refine go (hdD (js (xs.map toP))) (by rw [flt_t, if_pos hl, hk]) ⟨m ++ [.lst (([] : List Nat).map fun k => Dv.int (k : Nat))] ++ [.lst ((js (xs.map toP)).map fun k => Dv.int (k : Nat))], ?_, by rw [List.append_assoc]; exact take_app _ _⟩
        refine (gSeq_ok (gif_b t rfl)).trans ((gSeq_ok (gNew_ok c1)).trans ((gSeq_ok ((gif_c t2 rfl).trans (gNew_ok c2))).trans (gRet_ok ?_)))
        exact ret_ok (en := e6 (.tup xs) (some (.o (m ++ [So.lst (([] : List Nat).map fun k => Dv.int (k : Nat))]).length)) none none none none) (i := 1) (k := (m ++ [So.lst (([] : List Nat).map fun k => Dv.int (k : Nat))]).length) (xs := js (xs.map toP)) rfl s3
    · rw [decide_eq_false hl] at t
      have : flt (.tup xs) = .tup [] := by rw [flt_t, if_neg hl]
      rw [this]
      exact fin_d rfl (gSeq_rt ((gif_c t rfl).trans (gRet_ok (tup_ok lNil_ok rfl rfl))))
  · have hf : isTy "tuple" d = false := by simpa using h1
    rw [not_tup hf]
    exact fin_d rfl (gSeq_rt ((gif_c (fT_no h hf _ m) rfl).trans (gRet_ok (tup_ok lNil_ok rfl rfl))))
/-! the law's -/
abbrev e5 (d : Dv) (o1 o2 o3 o4 : Option Sv) : En := [some (.d d), o1, o2, o3, o4]
abbrev lB : SemS := gSeq (gIf (bOr (bNot (sT (sUn (oIs "tuple") (sVar 2)))) (sT (sBin oNe (sUn oLen (sVar 2)) (sC (.int 2))))) (gRet (sTup (lCons (sVar 1) lNil))) gNext) (gIf (sT (sBin oNe (sF (fComp (iSeq (sVar 2)) (tgN 4) (bOr (bNot (sT (sUn (oIs "int") (sVar 4)))) (bOr (sT (sUn (oIs "bool") (sVar 4))) (sT (sBin oGt (sUn oAbs (sVar 4)) (sC (.int 1000)))))) (sC (.int 1)) [4])) (sF (fLst lNil)))) (gRet (sTup (lCons (sVar 1) lNil))) gNext)
theorem lB_int {x : Dv} (h : ty x = true) {en : En} (h4 : en[4]? = some (some (.d x))) (m : Store) : bOr (bNot (sT (sUn (oIs "int") (sVar 4)))) (bOr (sT (sUn (oIs "bool") (sVar 4))) (sT (sBin oGt (sUn oAbs (sVar 4)) (sC (.int 1000))))) en m = .ok (!fromD (-1000) 1000 x) m := by
  have t1 := is_t (en := en) (m := m) (m1 := m) "int" h (sVar_ok (i := 4) h4)
  have t2 := is_t (en := en) (m := m) (m1 := m) "bool" h (sVar_ok (i := 4) h4)
  cases x with
  | int i =>
    have t3 := gt_i (abs_i (sVar_ok (m := m) h4)) (sC_ok (.int 1000))
    refine (bOr_f (bNot_ok t1)).trans ((bOr_f t2).trans (t3.trans ?_))
    congr 1
    rw [Bool.eq_iff_iff]
    simp [fromD]
    omega
  | bl b => exact (bOr_f (bNot_ok t1)).trans (bOr_t t2)
  | _ => first | exact bOr_t (bNot_ok t1) | (simp [ty, tyName] at h; done)
theorem lB_ok {d x : Dv} {k : Int} (h : plA x = true) (o3 o4 : Option Sv) (m : Store) : lB (e5 d (some (.d (.int k))) (some (.d x)) o3 o4) m = if isPr x = true then .nx (e5 d (some (.d (.int k))) (some (.d x)) o3 o4) m else .rt (.d (.tup [.int k])) m := by
  have out : gRet (sTup (lCons (sVar 1) lNil)) (e5 d (some (.d (.int k))) (some (.d x)) o3 o4) m = .rt (.d (.tup [.int k])) m := gRet_ok (tup1 (sVar_ok rfl))
  have ht := is_t (en := e5 d (some (.d (.int k))) (some (.d x)) o3 o4) (m := m) (m1 := m) "tuple" (plA_ty h) (sVar_ok (i := 2) rfl)
  by_cases h1 : isTy "tuple" x = true
  · obtain ⟨xs, rfl⟩ := is_tup h1
    rw [h1] at ht
    have t2 := ne_i (en := e5 d (some (.d (.int k))) (some (.d (.tup xs))) o3 o4) (len_t (m := m) (sVar_ok (i := 2) rfl)) (sC_ok (.int 2))
    have pl := plL_iff.mp (show plA.plL xs = true by simpa [plA] using h)
    match xs, pl with
    | [x, y], pl =>
      have e : fComp (iSeq (sVar 2)) (tgN 4) (bOr (bNot (sT (sUn (oIs "int") (sVar 4)))) (bOr (sT (sUn (oIs "bool") (sVar 4))) (sT (sBin oGt (sUn oAbs (sVar 4)) (sC (.int 1000)))))) (sC (.int 1)) [4] (e5 d (some (.d (.int k))) (some (.d (.tup [x, y]))) o3 o4) m = .ok (([x, y].filter fun z => !fromD (-1000) 1000 z).map fun _ => .int 1) m :=
        comp_pure (fun z => !fromD (-1000) 1000 z) _ (iSeq_t (sVar_ok rfl)) (by simp) fun z acc hz => ⟨_, rfl, lB_int (plA_ty (pl z hz)) rfl _, fun _ => sC_ok _⟩
      have t3 : sT (sBin oNe (sF (fComp (iSeq (sVar 2)) (tgN 4) (bOr (bNot (sT (sUn (oIs "int") (sVar 4)))) (bOr (sT (sUn (oIs "bool") (sVar 4))) (sT (sBin oGt (sUn oAbs (sVar 4)) (sC (.int 1000)))))) (sC (.int 1)) [4])) (sF (fLst lNil))) (e5 d (some (.d (.int k))) (some (.d (.tup [x, y]))) o3 o4) m = .ok (!isPr (.tup [x, y])) m := by
        have q : ∀ l : List Dv, oNe (.lst (l.map fun _ => .int 1)) (.lst []) = some (.bl (!l.isEmpty)) := fun l => by
          have := ne_nil (l.map fun _ => 1)
          rw [List.map_map] at this
          rw [show (l.map fun _ => Dv.int 1) = l.map (Dv.int ∘ fun _ => 1) from rfl, this]
          cases l <;> rfl
        have := sT_ok (sBin_ok (op := oNe) (sF_ok e) lst0 rfl rfl (q _))
        rw [this]
        congr 1
        show (!([x, y].filter fun z => !fromD (-1000) 1000 z).isEmpty) = !(fromD (-1000) 1000 x && fromD (-1000) 1000 y)
        simp only [List.filter_cons, List.filter_nil]
        cases fromD (-1000) 1000 x <;> cases fromD (-1000) 1000 y <;> rfl
      refine (gSeq_ok (gif_b ((bOr_f (bNot_ok ht)).trans t2) rfl)).trans ?_
      cases hp : isPr (.tup [x, y]) with
      | true => rw [if_pos rfl]; exact gif_b t3 (by rw [hp]; rfl)
      | false => rw [if_neg Bool.false_ne_true]; exact (gif_c t3 (by rw [hp]; rfl)).trans out
    | [], _ => rw [if_neg (by decide)]; exact gSeq_rt ((gif_c ((bOr_f (bNot_ok ht)).trans t2) rfl).trans out)
    | [_], _ => rw [if_neg (by simp [isPr])]; exact gSeq_rt ((gif_c ((bOr_f (bNot_ok ht)).trans t2) rfl).trans out)
    | _ :: _ :: _ :: r, _ =>
      rw [if_neg (by simp [isPr])]
      refine gSeq_rt ((gif_c ((bOr_f (bNot_ok ht)).trans t2) ?_).trans out)
      rw [decide_eq_false (by simp; omega)]
      rfl
  · have hf : isTy "tuple" x = false := by simpa using h1
    rw [hf] at ht
    have hp : isPr x = false := by cases x <;> first | rfl | (simp [isTy, tyName, isTyN] at hf; done)
    rw [if_neg (by rw [hp]; exact Bool.false_ne_true)]
    exact gSeq_rt ((gif_c (bOr_t (bNot_ok ht)) rfl).trans out)
theorem comp_js2 {L : List P} (sm : Small L) (h1 : 1 ≤ L.length) (h2 : L.length ≤ 60) (o1 o2 o3 o4 : Option Sv) (m : Store) : fComp (iRange1 (sUn oLen (sVar 0))) (tgN 1) (sT (sBin oNe (sCall f__law_of_two (lCons (sBin oIx (sVar 0) (sVar 1)) (lCons (sBin oIx (sVar 0) (sBin oSub (sBin oAddP (sVar 1) (sC (.int 1))) (sUn oLen (sVar 0)))) lNil))) (sC (.int 1)))) (sVar 1) [1] (e5 (en_ L) o1 o2 o3 o4) m = .ok ((js L).map fun k => .int (k : Nat)) m := by
  have ln : (L.map pt).length = L.length := by simp
  have lt := len_t (en := e5 (en_ L) o1 o2 o3 o4) (m := m) (sVar_ok (i := 0) (x := .d (en_ L)) rfl)
  have r := iRange1_ok lt (by omega) (by rw [ln]; omega)
  rw [ln, rng_map] at r
  have e := comp_pure (vs := [1]) (G := tgN 1) (t := sT (sBin oNe (sCall f__law_of_two (lCons (sBin oIx (sVar 0) (sVar 1)) (lCons (sBin oIx (sVar 0) (sBin oSub (sBin oAddP (sVar 1) (sC (.int 1))) (sUn oLen (sVar 0)))) lNil))) (sC (.int 1)))) (f := sVar 1) (fun x => match x with | .int k => !decide (det (V L (k.toNat + 1)) (V L (k.toNat + 2)) = 1) | _ => false) (fun x => x) r (by simp; omega) (fun d acc hd => by
    obtain ⟨k, hk, rfl⟩ := List.mem_map.mp hd
    have hk := List.mem_range.mp hk
    have s1 := sm.V (k + 1)
    have a1 : atI (L.map pt) (k : Int) = some (pt (V L (k + 1))) := by
      rw [Vk hk]
      exact atI_n (by omega) (by rw [show ((k : Int)).toNat = k by omega]; exact pt_at hk)
    have a2 : atI (L.map pt) ((k : Int) + 1 - ((L.map pt).length : Nat)) = some (pt (V L (k + 2))) := by
      by_cases hl : k + 1 < L.length
      · rw [Vk hl]
        exact atI_m (by rw [ln]; omega) (by rw [ln]; omega) (by rw [show ((k : Int) + 1 - ((L.map pt).length : Nat) + ((L.map pt).length : Nat)).toNat = k + 1 by omega]; exact pt_at hl)
      · rw [show k + 2 = L.length + 1 by omega, Vn]
        exact atI_n (by rw [ln]; omega) (by rw [show ((k : Int) + 1 - ((L.map pt).length : Nat)).toNat = 0 by rw [ln]; omega]; exact pt_at (by omega))
    exact ⟨e5 (en_ L) (some (.d (.int k))) o2 o3 o4, rfl, ne_i (call2 (ix_t (xs := L.map pt) (sVar_ok (i := 0) rfl) (sVar_ok (i := 1) rfl) a1) (ix_t (xs := L.map pt) (sVar_ok (i := 0) rfl) (sub_i (add_i (sVar_ok (i := 1) rfl) (sC_ok _)) (len_t (sVar_ok (i := 0) rfl))) a2) (v_of_two (by omega) (by omega) _)) (sC_ok _), fun _ => sVar_ok rfl⟩)
  rw [e, map_filter_range]
  rfl
theorem l_fault {d : Dv} (h : plA d = true) (m : Store) : f__law_fault [.d d] m = .ok (.d (flt d)) m := by
  by_cases h1 : isTy "tuple" d = true
  · obtain ⟨xs, rfl⟩ := is_tup h1
    have t := fT_t xs [none, none, none, none] m
    have pl := plL_iff.mp (show plA.plL xs = true by simpa [plA] using h)
    by_cases hl : 3 ≤ xs.length ∧ xs.length ≤ 60
    · rw [decide_eq_true hl] at t
      have en0 := iEnum_t (en := e5 (.tup xs) none none none none) (m := m) (sVar_ok (i := 0) (x := .d (.tup xs)) rfl)
      have nb : ∀ i y, (numb xs)[i]? = some y → i < xs.length ∧ y = .tup [.int (i : Nat), xs.getD i .non] := fun i y hy => by
        rw [numb_eq, List.getElem?_map] at hy
        cases hr : (List.range xs.length)[i]? with
        | none => rw [hr] at hy; cases hy
        | some j =>
          rw [hr] at hy
          obtain ⟨a, b⟩ := List.getElem?_eq_some_iff.mp hr
          simp at a b
          subst b
          cases hy
          exact ⟨a, rfl⟩
      have pd : ∀ i, i < xs.length → plA (xs.getD i .non) = true := fun i hi => by
        rw [List.getD_eq_getElem?_getD, List.getElem?_eq_getElem hi]
        exact pl _ (List.getElem_mem _)
      cases hk : ks xs with
      | cons k r =>
        obtain ⟨k1, k2, k3⟩ := filt_first hk
        rcases loop_inv (G := tgTup 2 (tgCons (tgN 1) (tgCons (tgN 2) tgNil))) (body := lB) (xs := numb xs) (fun i en S => (∃ o1 o2, en = e5 (.tup xs) o1 o2 none none) ∧ S = m ∧ i ≤ k) (fun v S => v = .d (.tup [.int (k : Nat)]) ∧ S = m) (fun i y en S hy ⟨⟨o1, o2, hen⟩, hS, hi⟩ => by
          subst hen; subst hS
          obtain ⟨hx, rfl⟩ := nb i y hy
          have b := lB_ok (d := .tup xs) (k := (i : Nat)) (pd i hx) none none S
          refine ⟨_, rfl, ?_⟩
          by_cases hik : i = k
          · subst hik
            rw [if_neg (by simpa using k2)] at b
            exact .inr ⟨_, _, b, rfl, rfl⟩
          · have := k3 i (by omega)
            rw [if_pos (by simpa using this)] at b
            exact .inl ⟨_, _, .inl b, ⟨_, _, rfl⟩, rfl, by omega⟩) (en := e5 (.tup xs) none none none none) (m := m) ⟨⟨_, _, rfl⟩, rfl, by omega⟩ with ⟨_, _, _, _, _, hz⟩ | ⟨v, S, el, rfl, rfl⟩
        · exfalso
          rw [numb_eq] at hz
          simp at hz
          omega
        · rw [flt_t, if_pos hl, hk]
          exact fin_d rfl ((gSeq_ok (gif_b t rfl)).trans (gSeq_rt ((gFor_ok en0).trans el)))
      | nil =>
        obtain ⟨ex, sm⟩ := all_pt hk
        have k3 := filt_nil hk
        obtain ⟨en', S, el, ⟨o1, o2, rfl⟩, rfl⟩ := loop_nx (G := tgTup 2 (tgCons (tgN 1) (tgCons (tgN 2) tgNil))) (body := lB) (xs := numb xs) (fun i en S => (∃ o1 o2, en = e5 (.tup xs) o1 o2 none none) ∧ S = m) (fun i y en S hy ⟨⟨o1, o2, hen⟩, hS⟩ => by
          subst hen; subst hS
          obtain ⟨hx, rfl⟩ := nb i y hy
          have b := lB_ok (d := .tup xs) (k := (i : Nat)) (pd i hx) none none S
          have := k3 i hx
          rw [if_pos (by simpa using this)] at b
          exact ⟨_, rfl, _, _, .inl b, ⟨_, _, rfl⟩, rfl⟩) (en := e5 (.tup xs) none none none none) (m := m) ⟨⟨_, _, rfl⟩, rfl⟩
        have hl1 : (xs.map toP).length = xs.length := by simp
        have c2 := comp_js2 sm (by omega) (by omega) o1 o2 none none S
        rw [show en_ (xs.map toP) = .tup xs by unfold en_; rw [← ex]] at c2
        have s3 := get_push S (.lst ((js (xs.map toP)).map fun k => Dv.int (k : Nat)))
        rw [flt_t, if_pos hl, hk]
        have e : g__law_fault (start0 5 [.d (.tup xs)]) S = .rt (.d (hdD (js (xs.map toP)))) (S ++ [.lst ((js (xs.map toP)).map fun k => Dv.int (k : Nat))]) := by
          refine (gSeq_ok (gif_b t rfl)).trans ((gSeq_ok ((gFor_ok en0).trans el)).trans ((gSeq_ok (gNew_ok c2)).trans (gRet_ok ?_)))
          exact ret_ok (en := e5 (.tup xs) o1 o2 (some (.o S.length)) none) (i := 3) (k := S.length) (xs := js (xs.map toP)) rfl s3
        exact (fn_d (ns := 5) (np := 1) (ws := [.d (.tup xs)]) rfl e).trans (by rw [take_app])
    · rw [decide_eq_false hl] at t
      have : flt (.tup xs) = .tup [] := by rw [flt_t, if_neg hl]
      rw [this]
      exact fin_d rfl (gSeq_rt ((gif_c t rfl).trans (gRet_ok (tup_ok lNil_ok rfl rfl))))
  · have hf : isTy "tuple" d = false := by simpa using h1
    rw [not_tup hf]
    exact fin_d rfl (gSeq_rt ((gif_c (fT_no h hf _ m) rfl).trans (gRet_ok (tup_ok lNil_ok rfl rfl))))
/-- right rounds have no fault, and what has none is a right round -/
structure Rd (L : List P) : Prop where
  rt : Rt L
  hi : L.length ≤ 60
  sm : Small L
theorem js_nil {L : List P} (h : Rt L) : js L = [] := by
  unfold js
  rw [List.filter_eq_nil_iff]
  intro k hk
  have := h.2 k (List.mem_range.mp hk)
  simp [this]
theorem Rd.flt {L : List P} (h : Rd L) : flt (en_ L) = .non := by
  have k0 : ks (L.map pt) = [] := by
    unfold ks
    rw [List.filter_eq_nil_iff]
    intro k hk
    have hk : k < L.length := by simpa using List.mem_range.mp hk
    rw [List.getD_eq_getElem?_getD, pt_at hk]
    have := h.sm.at_ k
    simp [isPr, fromD]
    omega
  have e : (L.map pt).map toP = L := by
    rw [List.map_map]
    have : L.map (toP ∘ pt) = L.map id := List.map_congr_left fun x _ => rfl
    rw [this, List.map_id]
  show K59.flt (.tup (L.map pt)) = _
  rw [flt_t, if_pos ⟨by simpa using h.rt.1, by simpa using h.hi⟩, k0, e, js_nil h.rt]
  rfl
theorem flt_non {d : Dv} (h : flt d = .non) : ∃ L, d = en_ L ∧ Rd L := by
  cases d with
  | tup xs =>
    rw [flt_t] at h
    split at h
    · rename_i hl
      cases hk : ks xs with
      | cons k r => rw [hk] at h; cases h
      | nil =>
        rw [hk] at h
        obtain ⟨ex, sm⟩ := all_pt hk
        cases hj : js (xs.map toP) with
        | cons k r => rw [hj] at h; cases h
        | nil =>
          have a := filt_nil hj
          refine ⟨xs.map toP, by unfold en_; rw [← ex], ⟨⟨by simpa using hl.1, fun k hk => ?_⟩, by simpa using hl.2, sm⟩⟩
          simpa using a k hk
    · cases h
  | _ => cases h
theorem flt_cases (d : Dv) : flt d = .non ∨ flt d = .tup [] ∨ ∃ k : Nat, k < 60 ∧ flt d = .tup [.int k] := by
  cases d with
  | tup xs =>
    rw [flt_t]
    split
    · rename_i hl
      cases hk : ks xs with
      | cons k r => exact .inr (.inr ⟨k, by have := (filt_first hk).1; omega, rfl⟩)
      | nil =>
        cases hj : js (xs.map toP) with
        | cons k r => exact .inr (.inr ⟨k, by have := (filt_first hj).1; simp at this; omega, rfl⟩)
        | nil => exact .inl rfl
    · exact .inr (.inl rfl)
  | _ => exact .inr (.inl rfl)
end K59
end

section
set_option Elab.async false
set_option linter.all false
set_option maxRecDepth 100000
set_option maxHeartbeats 4000000
/-! RE: what is told of rounds -/
namespace K59
open PySem PySem.Spec PyProof.Rows L2 EvL EvH RdP
def isNon : Dv → Bool
  | .non => true
  | _ => false
theorem isNon_t {d : Dv} (h : isNon d = true) : d = .non := by
  cases d <;> first | rfl | cases h
theorem isNon_f {d : Dv} (h : d ≠ .non) : isNon d = false := by
  cases d <;> first | rfl | exact absurd rfl h
section
variable {d : Dv} {L : List P} {m : Store}
abbrev xL (d : Dv) : Ex := ⟨1, some ("path", flt d)⟩
abbrev needT : SemB := sT (sBin oNotN (sVar 1) (sC .non))
theorem show_flt (d : Dv) (h : flt d ≠ .non) : showX (flt d) = true ∧ flt d ≠ .non := by
  refine ⟨?_, h⟩
  rcases flt_cases d with e | e | ⟨k, hk, e⟩
  · exact absurd e h
  · rw [e]; decide +kernel
  · rw [e]
    have s : Sb 301 1 (.tup [.int k]) := (Sb.tup (n := 1) (w := 300) (p := 0) (am_cons (Sb.int (by omega)) am_nil) (by simp)).mono (by decide) (by decide)
    exact showX_of (s.ok (by decide) (by decide))
theorem p_need (h : plA d = true) (hn : flt d = .non) (m : Store) : f_need_round [.d d] m = .ok (.d d) m := by
  have e := call1 (en := start0 2 [.d d]) (m1 := m) (p := f_round_fault) (sVar_ok (i := 0) (m := m) rfl) (p_fault h m)
  rw [hn] at e
  have t : needT [some (.d d), some (.d .non)] m = .ok false m := sT_ok (sBin_ok (sVar_ok (x := .d .non) rfl) (sC_ok _) rfl rfl rfl)
  exact fin_d rfl ((gSeq_ok (gSet_ok e)).trans ((gSeq_ok (gif_b t rfl)).trans (gRet_ok (sVar_ok rfl))))
theorem notN {x : Dv} (h : x ≠ .non) : oNotN x .non = some (.bl true) := by
  cases x <;> first | rfl | exact absurd rfl h
theorem isN {x : Dv} (h : x ≠ .non) : oIsN x .non = some (.bl false) := by
  cases x <;> first | rfl | exact absurd rfl h
theorem p_need_bad (h : plA d = true) (hn : flt d ≠ .non) (m : Store) : f_need_round [.d d] m = .ex (xL d) m := by
  have e := call1 (en := start0 2 [.d d]) (m1 := m) (p := f_round_fault) (sVar_ok (i := 0) (m := m) rfl) (p_fault h m)
  have t : needT [some (.d d), some (.d (flt d))] m = .ok true m := sT_ok (sBin_ok (sVar_ok (x := .d (flt d)) rfl) (sC_ok _) rfl rfl (notN hn))
  refine fin_ex (en := [some (.d d), some (.d (flt d))]) rfl ((gSeq_ok (gSet_ok e)).trans (gSeq_ex ((gif_c t rfl).trans ?_)))
  unfold gRaise
  rw [sVar_ok (x := .d (flt d)) rfl]
  simp only [Rs.st, frz_d, (show_flt d hn).1, if_true]
theorem p_is (h : plA d = true) (m : Store) : f_is_round [.d d] m = .ok (.d (.bl (isNon (flt d)))) m := by
  have e := call1 (en := start0 1 [.d d]) (m1 := m) (p := f_round_fault) (sVar_ok (i := 0) (m := m) rfl) (p_fault h m)
  refine fin_d rfl (gRet_ok (sBin_ok e (sC_ok .non) rfl rfl ?_))
  by_cases hn : flt d = .non
  · rw [hn]; rfl
  · rw [isN hn, isNon_f hn]
theorem pl_en (L : List P) : plA (en_ L) = true := by
  show plA (.tup (L.map pt)) = true
  unfold plA
  rw [plL_iff]
  intro x hx
  obtain ⟨v, _, rfl⟩ := List.mem_map.mp hx
  rfl
theorem Rd.need (h : Rd L) (m : Store) : f_need_round [.d (en_ L)] m = .ok (.d (en_ L)) m := p_need (pl_en L) h.flt m
abbrev numsD (L : List P) : List Dv := (List.range L.length).map fun k => .int (num L k)
theorem small_num (h : Small L) (k : Nat) : (num L k).natAbs ≤ 2000000 := by
  have a := h.V k
  have b := h.V (k + 2)
  unfold num det
  have m1 : ∀ x y : Int, x.natAbs ≤ 1000 → y.natAbs ≤ 1000 → (x * y).natAbs ≤ 1000000 := fun x y hx hy => by
    rw [Int.natAbs_mul]
    exact Nat.le_trans (Nat.mul_le_mul hx hy) (by decide)
  have m2 := m1 _ _ a.1 b.2
  have m3 := m1 _ _ a.2 b.1
  omega
theorem at_before {k : Nat} (hk : k < L.length) : atI (L.map pt) ((k : Int) - 1) = some (pt (V L k)) := by
  have ln : (L.map pt).length = L.length := by simp
  cases k with
  | zero =>
    rw [V0]
    exact atI_m (by omega) (by rw [ln]; omega) (by rw [show (((0 : Nat) : Int) - 1 + ((L.map pt).length : Nat)).toNat = L.length - 1 by rw [ln]; omega]; exact pt_at (by omega))
  | succ j =>
    rw [Vk (by omega)]
    exact atI_n (by omega) (by rw [show (((j + 1 : Nat) : Int) - 1).toNat = j by omega]; exact pt_at (by omega))
theorem at_behind {k : Nat} (hk : k < L.length) : atI (L.map pt) (((k : Int) + 1) % (L.length : Int)) = some (pt (V L (k + 2))) := by
  by_cases hl : k + 1 < L.length
  · rw [Vk hl, Int.emod_eq_of_lt (by omega) (by omega)]
    exact atI_n (by omega) (by rw [show ((k : Int) + 1).toNat = k + 1 by omega]; exact pt_at hl)
  · rw [show k + 2 = L.length + 1 by omega, Vn, show ((k : Int) + 1) = (L.length : Int) by omega, Int.emod_self]
    exact atI_n (by omega) (pt_at (by omega))
theorem at_behind2 {k : Nat} (hk : k < L.length) : atI (L.map pt) ((k : Int) + 1 - (L.length : Int)) = some (pt (V L (k + 2))) := by
  have ln : (L.map pt).length = L.length := by simp
  by_cases hl : k + 1 < L.length
  · rw [Vk hl]
    exact atI_m (by omega) (by rw [ln]; omega) (by rw [show ((k : Int) + 1 - (L.length : Int) + ((L.map pt).length : Nat)).toNat = k + 1 by rw [ln]; omega]; exact pt_at hl)
  · rw [show k + 2 = L.length + 1 by omega, Vn]
    exact atI_n (by omega) (by rw [show ((k : Int) + 1 - (L.length : Int)).toNat = 0 by omega]; exact pt_at (by omega))
theorem at_here {k : Nat} (hk : k < L.length) : atI (L.map pt) (k : Int) = some (pt (V L (k + 1))) := by
  rw [Vk hk]
  exact atI_n (by omega) (by rw [show ((k : Int)).toNat = k by omega]; exact pt_at hk)
abbrev nB : SemS := (gSeq (gPar 4 5 (lCons (sBin oIx (sVar 0) (sBin oSub (sVar 2) (sC (.int 1)))) (lCons (sBin oIx (sVar 0) (sBin oMod (sBin oAddP (sVar 2) (sC (.int 1))) (sUn oLen (sVar 0)))) lNil))) (gApp 1 (sCall f_determinant (lCons (sVar 4) (lCons (sVar 5) lNil)))))
theorem p_numbers (h : Rd L) (m : Store) : f_numbers_in [.d (en_ L)] m = .ok (.d (.lst (numsD L))) m := by
  have hl := h.rt.1
  have hi := h.hi
  have ln : (L.map pt).length = L.length := by simp
  have en0 := iEnum_t (en := e6 (en_ L) (some (.o m.length)) none none none none) (m := m ++ [.lst []]) (sVar_ok (i := 0) (x := .d (en_ L)) rfl)
  obtain ⟨en', S, el, ⟨o2, o3, o4, o5, rfl⟩, rfl⟩ := loop_nx (G := tgTup 2 (tgCons (tgN 2) (tgCons (tgN 3) tgNil))) (body := nB) (xs := numb (L.map pt)) (fun i en S => (∃ o2 o3 o4 o5, en = e6 (en_ L) (some (.o m.length)) o2 o3 o4 o5) ∧ S = m ++ [.lst ((List.range i).map fun k => .int (num L k))]) (fun i y en S hy ⟨⟨o2, o3, o4, o5, hen⟩, hS⟩ => by
    subst hen; subst hS
    rw [numb_eq, ln, List.getElem?_map] at hy
    cases hr : (List.range L.length)[i]? with
    | none => rw [hr] at hy; cases hy
    | some j =>
      rw [hr] at hy
      obtain ⟨a, b⟩ := List.getElem?_eq_some_iff.mp hr
      simp at a b
      subst b
      cases hy
      have s1 := h.sm.V i
      have g := get_push m (.lst ((List.range i).map fun k => Dv.int (num L k)))
      refine ⟨e6 (en_ L) (some (.o m.length)) (some (.d (.int i))) (some (.d ((L.map pt).getD i .non))) o4 o5, rfl, _, _, .inl ((gSeq_ok (gPar_ok (lCons_ok (ix_t (xs := L.map pt) (sVar_ok (i := 0) rfl) (sub_i (sVar_ok (i := 2) rfl) (sC_ok _)) (at_before a)) (lCons_ok (ix_t (xs := L.map pt) (sVar_ok (i := 0) rfl) (mod_i (add_i (sVar_ok (i := 2) rfl) (sC_ok _)) (len_t (sVar_ok (i := 0) (x := .d (en_ L)) rfl)) (by rw [ln]; omega)) (by rw [ln]; exact at_behind a)) lNil_ok)))).trans (gApp_ok (k := m.length) rfl g (call2 (sVar_ok (i := 4) rfl) (sVar_ok (i := 5) rfl) (v_det (by omega) (by omega) _)) g (fits_le (by simp; omega)))), ⟨some (.d (.int i)), some (.d ((L.map pt).getD i .non)), some (.d (pt (V L i))), some (.d (pt (V L (i + 2)))), rfl⟩, ?_⟩
      rw [List.range_succ, List.map_append]
      simp [num]) (en := e6 (en_ L) (some (.o m.length)) none none none none) (m := m ++ [.lst []]) ⟨⟨_, _, _, _, rfl⟩, rfl⟩
  have lz : (numb (L.map pt)).length = L.length := by rw [numb_eq]; simp
  rw [lz] at el
  have e : g_numbers_in (start0 6 [.d (en_ L)]) m = .rt (.o m.length) (m ++ [.lst (numsD L)]) := by
    refine (gSeq_ok (gNew_ok (xs := []) (m1 := m) (lst_ok lNil_ok rfl rfl))).trans ((gSeq_ok ((gFor_ok en0).trans el)).trans (gRet_ok (sVar_ok rfl)))
  show fnS 6 1 g_numbers_in [.d (en_ L)] m = _
  unfold fnS
  rw [if_pos (show [Sv.d (en_ L)].length = 1 from rfl), e]
  simp only [fnEnd, if_neg (Nat.lt_irrefl _), get_push, take_app]
theorem p_round_numbers (h : Rd L) (m : Store) : f_round_numbers [.d (en_ L)] m = .ok (.d (.tup (numsD L))) m := by
  refine fin_d rfl (gRet_ok (sUn_ok (call1 (call1 (sVar_ok rfl) (h.need m)) (p_numbers h m)) rfl ?_))
  simp [oTuple, items]
theorem p_past (u v : P) (m : Store) : f_goes_past [.d (pt u), .d (pt v)] m = .ok (.d (.int (past u v))) m := by
  have t := bAnd_b (lt_i (en := start0 2 [.d (pt u), .d (pt v)]) (ix_t (m := m) (sVar_ok (i := 0) (x := .d (pt u)) rfl) (sC_ok (.int 1)) (d := .int u.2) rfl) (sC_ok (.int 0))) (fun _ => ge_i (ix_t (sVar_ok (i := 1) (x := .d (pt v)) rfl) (sC_ok (.int 1)) (d := .int v.2) rfl) (sC_ok (.int 0)))
  refine fin_d rfl (gRet_ok ?_)
  rw [if_ok t]
  unfold past
  by_cases h1 : u.2 < 0 <;> by_cases h2 : 0 ≤ v.2 <;> simp [h1, h2, sC]
theorem sum_D (l : List Int) : oSumP (.lst (l.map .int)) = some (.int l.sum) := by
  have : intsD (l.map .int) = some l := by
    induction l with
    | nil => rfl
    | cons x l ih => simp only [List.map_cons, intsD, ih, Option.map_some]
  unfold oSumP
  simp only [this]
  rfl
theorem p_turns (h : Rd L) (m : Store) : f_turns_of [.d (en_ L)] m = .ok (.d (.int (turn L))) m := by
  have hl := h.rt.1
  have hi := h.hi
  have c : sCall f_next_pairs (lCons (sCall f_need_round (lCons (sVar 0) lNil)) lNil) (start0 3 [.d (en_ L)]) m = .ok (.d (.lst ((List.range L.length).map fun k => Dv.tup [pt (V L (k + 1)), pt (V L (k + 2))]))) m := call1 (call1 (sVar_ok rfl) (h.need m)) (v_next (by omega) hi m)
  have e := comp_pure (vs := [1, 2]) (G := tgTup 2 (tgCons (tgN 1) (tgCons (tgN 2) tgNil))) (t := bYes) (f := sCall f_goes_past (lCons (sVar 1) (lCons (sVar 2) lNil))) (fun _ => true) (fun x => match x with | .tup [x, y] => .int (past (toP x) (toP y)) | _ => .non) (iSeq_d c) (by simp; omega) (fun d acc hd => by
    obtain ⟨k, hk, rfl⟩ := List.mem_map.mp hd
    exact ⟨_, rfl, rfl, fun _ => call2 (sVar_ok rfl) (sVar_ok rfl) (p_past _ _ _)⟩)
  rw [List.filter_eq_self.mpr fun _ _ => rfl, List.map_map] at e
  refine fin_d rfl (gRet_ok (sUn_ok (sF_ok e) rfl ?_))
  have := sum_D ((List.range L.length).map fun k => past (V L (k + 1)) (V L (k + 2)))
  rw [List.map_map] at this
  exact this
end
end K59
end

section
set_option Elab.async false
set_option linter.all false
set_option maxRecDepth 100000
set_option maxHeartbeats 4000000
/-! RF: what is heard, what is like; a right round is told right -/
namespace K59
open PySem PySem.Spec PyProof.Rows L2 EvL EvH RdP
/-- how a call comes out; the store stays -/
inductive Out where
  | d (x : Dv) | e (x : Ex)
def Out.rs (m : Store) : Out → Rs Sv
  | .d x => .ok (.d x) m
  | .e x => .ex x m
def told : Out → Option Dv
  | .d x => some (.lst [x])
  | .e ⟨1, some (f, d)⟩ => if f = "path" then some (.tup [.str "lot", d]) else none
  | .e ⟨0, some (f, d)⟩ => if f = "value" then some (.tup [.str "number", d]) else none
  | _ => none
theorem hd_ok {clo : Store → Rs Sv} {m : Store} {o : Out} {r : Dv} (h : clo m = o.rs m) (ht : told o = some r) : hdRun 2 g__law_heard clo m = .ok (.d r) m := by
  have ec : sClo clo (start0 2 [Sv.c]) m = o.rs m := h
  have fin : ∀ {y : Dv}, g__law_heard clo (start0 2 [Sv.c]) m = .rt (.d y) m → hdRun 2 g__law_heard clo m = .ok (.d y) m := fun e => by
    unfold hdRun
    rw [e]
    show Rs.ok _ (m.take m.length) = _
    rw [take_self]
  have go : ∀ x : Ex, o = .e x → gRet (sF (fLst (lCons (sClo clo) lNil))) (start0 2 [Sv.c]) m = .ex x (start0 2 [Sv.c]) m := fun x e => by
    subst e
    exact gRet_ex (sF_ex (fLst_ex (lCons_ex ec)))
  unfold told at ht
  split at ht
  · cases ht
    have b : gRet (sF (fLst (lCons (sClo clo) lNil))) (start0 2 [Sv.c]) m = .rt (.d (.lst [_])) m := gRet_ok (sF_ok (lst_ok (lCons_ok ec lNil_ok) rfl rfl))
    refine fin ?_
    unfold g__law_heard gTry
    rw [b]
  · split at ht
    · rename_i hf; subst hf; cases ht
      refine fin ?_
      unfold g__law_heard gTry
      rw [go _ rfl]
      rfl
    · cases ht
  · split at ht
    · rename_i hf; subst hf; cases ht
      refine fin ?_
      unfold g__law_heard gTry
      rw [go _ rfl]
      rfl
    · cases ht
  · cases ht
theorem heardB {lam : Sem1} {en : En} {m : Store} {o : Out} {r : Dv} (he : enFree en = true) (hm : m.all freeSo = true) (h : lam (dataEn en) m = o.rs m) (ht : told o = some r) (hr : lamFree r = true) : sHeardB 2 g__law_heard lam en m = .ok (.d r) m := by
  unfold sHeardB
  rw [he, hm]
  simp only [Bool.and_self, if_true]
  rw [hd_ok (clo := fun m2 => lam (dataEn en) m2) h ht]
  simp only [hr, hm, Bool.and_self, if_true]
/-! like -/
theorem like_k {d : Dv} {m : Store} (h : showOk d = true) : f__law_like [.d d, .d d] m = .ok (.d (.bl true)) m := by
  have hg : good d = true := by
    unfold showOk at h
    simp only [Bool.and_eq_true] at h
    exact h.1.1.1.1
  have he : PyData.eqv (cv d) (cv d) = true := by
    unfold good at hg
    rw [Bool.and_eq_true] at hg
    exact SeqAt.eqv_refl _ (SeqAt.canLay_of_shaped hg.2)
  have e1 : orO oEq oEqX d d = some (.bl true) := by
    have : oEq d d = some (.bl true) := by unfold oEq; rw [hg]; simp [he]
    unfold orO
    rw [this]
  have e2 : oRepr d = some (.str (cv d).shown) := by unfold oRepr; rw [if_pos h]
  have e3 : ∀ z : Str, oEqS (.str z) (.str z) = some (.bl true) := fun z => by simp [oEqS]
  have rp : ∀ i, (i = 0 ∨ i = 1) → sElse (sUn oRepr (sVar i)) (sUn oReprX (sVar i)) [some (.d d), some (.d d)] m = .ok (.d (.str (cv d).shown)) m := fun i hi => by
    have : sUn oRepr (sVar i) [some (.d d), some (.d d)] m = .ok (.d (.str (cv d).shown)) m := by
      rcases hi with rfl | rfl <;> exact sUn_ok (sVar_ok rfl) rfl e2
    unfold sElse
    rw [this]
  have h1 : sBin (orO oEq oEqX) (sVar 0) (sVar 1) [some (.d d), some (.d d)] m = .ok (.d (.bl true)) m := sBin_ok (sVar_ok rfl) (sVar_ok rfl) rfl rfl e1
  have h2 := sBin_ok (op := oEqS) (rp 0 (.inl rfl)) (rp 1 (.inr rfl)) rfl rfl (e3 _)
  exact fin_d rfl (gRet_ok ((sAnd_t h1).trans h2))
theorem like_call {fa fb : Sem1} {en : En} {m : Store} {d : Dv} (ha : fa en m = .ok (.d d) m) (hb : fb en m = .ok (.d d) m) (h : showOk d = true) : sCall f__law_like (lCons fa (lCons fb lNil)) en m = .ok (.d (.bl true)) m := sCall_ok (lCons_ok ha (lCons_ok hb lNil_ok)) (like_k h)
theorem repr_str {d e : Dv} (h : oRepr d = some e) : ∃ t, e = .str t := by
  unfold oRepr at h
  split at h
  · cases h; exact ⟨_, rfl⟩
  · cases h
theorem reprX_str {d e : Dv} (h : oReprX d = some e) : ∃ t, e = .str t := by
  unfold oReprX at h
  split at h
  · split at h
    · cases h; exact ⟨_, rfl⟩
    · cases h
  · cases h
theorem like_x {D : Dv} {m : Store} (h1 : orO oEq oEqX D D = some (.bl true)) (h2 : ((oRepr D).isSome || (oReprX D).isSome) = true) : f__law_like [.d D, .d D] m = .ok (.d (.bl true)) m := by
  have e3 : ∀ z : Str, oEqS (.str z) (.str z) = some (.bl true) := fun z => by simp [oEqS]
  obtain ⟨t, rp⟩ : ∃ t : Str, ∀ i, (i = 0 ∨ i = 1) → sElse (sUn oRepr (sVar i)) (sUn oReprX (sVar i)) [some (.d D), some (.d D)] m = .ok (.d (.str t)) m := by
    cases hr : oRepr D with
    | some e =>
      obtain ⟨t, rfl⟩ := repr_str hr
      refine ⟨t, fun i hi => ?_⟩
      have : sUn oRepr (sVar i) [some (.d D), some (.d D)] m = .ok (.d (.str t)) m := by
        rcases hi with rfl | rfl <;> exact sUn_ok (sVar_ok rfl) rfl hr
      unfold sElse
      rw [this]
    | none =>
      rw [hr] at h2
      cases hx : oReprX D with
      | none => rw [hx] at h2; cases h2
      | some e =>
        obtain ⟨t, rfl⟩ := reprX_str hx
        refine ⟨t, fun i hi => ?_⟩
        have h0 : sUn oRepr (sVar i) [some (.d D), some (.d D)] m = .no := by
          rcases hi with rfl | rfl <;> simp [sUn, sVar, Rs.bind, rv_d, hr]
        have : sUn oReprX (sVar i) [some (.d D), some (.d D)] m = .ok (.d (.str t)) m := by
          rcases hi with rfl | rfl <;> exact sUn_ok (sVar_ok rfl) rfl hx
        unfold sElse
        rw [h0]
        exact this
  have g1 : sBin (orO oEq oEqX) (sVar 0) (sVar 1) [some (.d D), some (.d D)] m = .ok (.d (.bl true)) m := sBin_ok (sVar_ok rfl) (sVar_ok rfl) rfl rfl h1
  have g2 := sBin_ok (op := oEqS) (rp 0 (.inl rfl)) (rp 1 (.inr rfl)) rfl rfl (e3 t)
  exact fin_d rfl (gRet_ok ((sAnd_t g1).trans g2))
mutual
def leafB : PyData → Bool
  | .int i => decide (i.natAbs < 10 ^ 41)
  | .list xs => leafBL xs
  | .tuple xs => leafBL xs
  | .dict kvs => kvs.isEmpty
  | x => x.leavesShort 42
def leafBL : List PyData → Bool
  | [] => true
  | x :: xs => leafB x && leafBL xs
end
mutual
theorem leafB_ok : ∀ d : PyData, leafB d = true → d.leavesShort 42 = true
  | .int i, h => by
    unfold leafB at h
    unfold PyData.leavesShort
    rw [decide_eq_true_eq] at h ⊢
    have e := int_text_length_le10 (k := 41) (by decide) h
    show (Str.ofString (toString i)).length ≤ 42
    rw [PySem.ofString_length]; exact e
  | .list xs, h => by
    unfold PyData.leavesShort
    exact leafBL_ok xs (by unfold leafB at h; exact h)
  | .tuple xs, h => by
    unfold PyData.leavesShort
    exact leafBL_ok xs (by unfold leafB at h; exact h)
  | .dict kvs, h => by
    unfold leafB at h
    rw [List.isEmpty_iff] at h
    subst h
    unfold PyData.leavesShort PyData.leavesShortKv
    rfl
  | .none, h => by unfold leafB at h; exact h
  | .bool b, h => by unfold leafB at h; exact h
  | .str x, h => by unfold leafB at h; exact h
theorem leafBL_ok : ∀ xs : List PyData, leafBL xs = true → PyData.leavesShortAll 42 xs = true
  | [], _ => by unfold PyData.leavesShortAll; rfl
  | x :: xs, h => by
    unfold leafBL at h
    rw [Bool.and_eq_true] at h
    unfold PyData.leavesShortAll
    rw [leafB_ok x h.1, leafBL_ok xs h.2]
    rfl
end
theorem reprX_some {x : Dv} {xs : List Dv} (h1 : (x :: xs).all shOk = true) (h2 : (PyData.list (cvL (x :: xs))).showable = true) (h3 : leafB (PyData.list (cvL (x :: xs))) = true) (h4 : (PyData.list (cvL (x :: xs))).weight ≤ 20000) (h5 : (PyData.list (cvL (x :: xs))).depth ≤ 60) : (oReprX (.lst (x :: xs))).isSome = true := by
  have h6 := PyData.shown_le 42 (by decide) _ (leafB_ok _ h3)
  unfold oReprX
  dsimp only
  rw [if_pos]
  · rfl
  · rw [h1, h2]
    simp only [Bool.and_self, Bool.true_and, Bool.and_eq_true, decide_eq_true_eq]
    exact ⟨by omega, h5⟩

theorem fnL_d {ns np : Nat} {g : SemS} {ws : List Sv} {m m1 : Store} {d : Dv} (hn : ws.length = np) (hg : g (start0 ns ws) m = .rt (.d d) m1) (hf : lamFree d = true) (hm : (m1.take m.length).all freeSo = true) : fnSL ns np g ws m = .ok (.d d) (m1.take m.length) := by
  unfold fnSL
  rw [if_pos hn, hg]
  dsimp only
  rw [hf, hm]
  rfl
theorem v_quarter (v : P) (m : Store) : f__law_quarter [.d (pt v)] m = .ok (.d (.int (qv v))) m := by
  have i0 : sBin oIx (sVar 0) (sC (.int 0)) (start0 1 [.d (pt v)]) m = .ok (.d (.int v.1)) m := ix_t (sVar_ok (i := 0) (x := .d (pt v)) rfl) (sC_ok (.int 0)) rfl
  have i1 : sBin oIx (sVar 0) (sC (.int 1)) (start0 1 [.d (pt v)]) m = .ok (.d (.int v.2)) m := ix_t (sVar_ok (i := 0) (x := .d (pt v)) rfl) (sC_ok (.int 1)) rfl
  have t1 := bAnd_b (gt_i i0 (sC_ok (.int 0))) (fun _ => ge_i i1 (sC_ok (.int 0)))
  have t2 := bAnd_b (le_i i0 (sC_ok (.int 0))) (fun _ => gt_i i1 (sC_ok (.int 0)))
  have t3 := lt_i i0 (sC_ok (.int 0))
  have e3 := if_ok (fa := sC (.int 2)) (fb := sC (.int 3)) t3
  unfold qv
  by_cases h1 : 0 < v.1 ∧ 0 ≤ v.2
  · rw [if_pos h1]
    exact fin_d rfl (gSeq_rt ((gif_c t1 (by simp [h1])).trans (gRet_ok (sC_ok _))))
  · rw [if_neg h1]
    have s1 : (decide (0 < v.1) && decide (0 ≤ v.2)) = false := by
      rw [Bool.eq_false_iff]; simpa using h1
    by_cases h2 : v.1 ≤ 0 ∧ 0 < v.2
    · rw [if_pos h2]
      exact fin_d rfl ((gSeq_ok (gif_b t1 s1)).trans (gSeq_rt ((gif_c t2 (by simp [h2])).trans (gRet_ok (sC_ok _)))))
    · rw [if_neg h2]
      have s2 : (decide (v.1 ≤ 0) && decide (0 < v.2)) = false := by
        rw [Bool.eq_false_iff]; simpa using h2
      refine fin_d rfl ((gSeq_ok (gif_b t1 s1)).trans ((gSeq_ok (gif_b t2 s2)).trans (gRet_ok (e3.trans ?_))))
      by_cases h3 : v.1 < 0
      · rw [if_pos h3, if_pos (by simpa using h3)]; rfl
      · rw [if_neg h3, if_neg (by simpa using h3)]; rfl
theorem sm_pt {v : P} (h : v.1.natAbs ≤ 1000000000 ∧ v.2.natAbs ≤ 1000000000) : Sm 84 1 (pt v) := (Sm.tup (n := 2) (w := 41) (p := 0) (am_cons (Sm.int (by omega)) (am_cons (Sm.int (by omega)) am_nil)) (by simp)).mono (by decide) (by decide)
theorem sm_en {L : List P} (h : Small L) (hl : L.length ≤ 60) : Sm 5100 2 (en_ L) := (Sm.tup (n := 60) (w := 84) (p := 1) (xs := L.map pt) (fun x hx => by
  obtain ⟨v, hv, rfl⟩ := List.mem_map.mp hx
  have := h v hv
  exact sm_pt (by omega)) (by simpa using hl)).mono (by decide) (by decide)
abbrev e9 (L : List P) (o3 o4 o5 o6 o7 o8 : Option Sv) : En := [some (.d (en_ L)), some (.d (.tup (numsD L))), some (.d (.int L.length)), o3, o4, o5, o6, o7, o8]
abbrev rB1 : SemS := (gSeq (gPar 4 5 (lCons (sBin oIx (sVar 0) (sBin oSub (sVar 3) (sC (.int 1)))) (lCons (sBin oIx (sVar 0) (sBin oSub (sBin oAddP (sVar 3) (sC (.int 1))) (sVar 2))) lNil))) (gIf (bNot (sT (sCall f__law_like (lCons (sUn oTuple (sF (fComp (iSeq (sBin oIx (sVar 0) (sVar 3))) (tgN 8) bYes (sBin oMulP (sBin oIx (sVar 1) (sVar 3)) (sVar 8)) [8]))) (lCons (sTup (lCons (sBin oAddP (sBin oIx (sVar 4) (sC (.int 0))) (sBin oIx (sVar 5) (sC (.int 0)))) (lCons (sBin oAddP (sBin oIx (sVar 4) (sC (.int 1))) (sBin oIx (sVar 5) (sC (.int 1)))) lNil))) lNil))))) (gRet (sC (.bl false))) gNext))
abbrev rB2 : SemS := (gSeq (gSet 7 (sBin oSub (sCall f__law_quarter (lCons (sBin oIx (sVar 0) (sVar 3)) lNil)) (sCall f__law_quarter (lCons (sBin oIx (sVar 0) (sBin oSub (sVar 3) (sC (.int 1)))) lNil)))) (gSet 6 (sBin oSub (sBin oAddP (sVar 6) (sVar 7)) (sBin oMulP (sC (.int 4)) (sBin oDiv (sVar 7) (sC (.int 4)))))))
theorem nums_at {L : List P} {k : Nat} (hk : k < L.length) : atI (numsD L) (k : Int) = some (.int (num L k)) := atI_n (by omega) (by simp [hk])
theorem rB1_ok {L : List P} (h : Rd L) {k : Nat} (hk : k < L.length) (o4 o5 o6 o7 o8 : Option Sv) (m : Store) : ∃ o4' o5', rB1 (e9 L (some (.d (.int k))) o4 o5 o6 o7 o8) m = .nx (e9 L (some (.d (.int k))) o4' o5' o6 o7 o8) m := by
  have s1 := h.sm.V k
  have s2 := h.sm.V (k + 1)
  have s3 := h.sm.V (k + 2)
  have sn := small_num h.sm k
  refine ⟨some (.d (pt (V L k))), some (.d (pt (V L (k + 2)))), ?_⟩
  have p := gPar_ok (i := 4) (j := 5) (en := e9 L (some (.d (.int k))) o4 o5 o6 o7 o8) (m := m) (lCons_ok (ix_t (xs := L.map pt) (sVar_ok (i := 0) rfl) (sub_i (sVar_ok (i := 3) rfl) (sC_ok (.int 1))) (at_before hk)) (lCons_ok (ix_t (xs := L.map pt) (sVar_ok (i := 0) rfl) (sub_i (add_i (sVar_ok (i := 3) rfl) (sC_ok (.int 1))) (sVar_ok (i := 2) rfl)) (at_behind2 hk)) lNil_ok))
  refine (gSeq_ok p).trans (gif_b (b := !true) (bNot_ok (sT_ok (like_call (d := .tup [.int ((V L k).1 + (V L (k + 2)).1), .int ((V L k).2 + (V L (k + 2)).2)]) ?_ ?_ ?_))) rfl)
  · have e : fComp (iSeq (sBin oIx (sVar 0) (sVar 3))) (tgN 8) bYes (sBin oMulP (sBin oIx (sVar 1) (sVar 3)) (sVar 8)) [8] (e9 L (some (.d (.int k))) (some (.d (pt (V L k)))) (some (.d (pt (V L (k + 2))))) o6 o7 o8) m = .ok (([Dv.int (V L (k + 1)).1, Dv.int (V L (k + 1)).2].filter fun _ => true).map fun z => match z with | .int i => .int (num L k * i) | _ => .non) m :=
      comp_pure (fun _ => true) _ (iSeq_t (ix_t (xs := L.map pt) (sVar_ok (i := 0) rfl) (sVar_ok (i := 3) rfl) (at_here hk))) (by simp) fun z acc hz => by
        have : ∃ i : Int, z = .int i := by
          simp at hz
          rcases hz with rfl | rfl <;> exact ⟨_, rfl⟩
        obtain ⟨i, rfl⟩ := this
        exact ⟨_, rfl, rfl, fun _ => mul_i (ix_t (xs := numsD L) (sVar_ok (i := 1) rfl) (sVar_ok (i := 3) rfl) (nums_at hk)) (sVar_ok rfl) (m64 (by omega))⟩
    obtain ⟨q1, q2⟩ := h.rt.mid hk
    rw [← q1, ← q2]
    exact sUn_ok (sF_ok e) rfl rfl
  · exact tup2 (add_i (ix_t (sVar_ok (i := 4) (x := .d (pt (V L k))) rfl) (sC_ok _) rfl) (ix_t (sVar_ok (i := 5) (x := .d (pt (V L (k + 2)))) rfl) (sC_ok _) rfl)) (add_i (ix_t (sVar_ok (i := 4) (x := .d (pt (V L k))) rfl) (sC_ok _) rfl) (ix_t (sVar_ok (i := 5) (x := .d (pt (V L (k + 2)))) rfl) (sC_ok _) rfl))
  · exact (sm_pt (v := ((V L k).1 + (V L (k + 2)).1, (V L k).2 + (V L (k + 2)).2)) (by simp only; omega)).ok (by decide) (by decide)
theorem rB2_ok {L : List P} (h : Rd L) {k : Nat} (hk : k < L.length) (o4 o5 o7 o8 : Option Sv) (q : Int) (m : Store) : ∃ o7', rB2 (e9 L (some (.d (.int k))) o4 o5 (some (.d (.int q))) o7 o8) m = .nx (e9 L (some (.d (.int k))) o4 o5 (some (.d (.int (q + ql (V L k) (V L (k + 1)))))) o7' o8) m := by
  refine ⟨some (.d (.int (qv (V L (k + 1)) - qv (V L k)))), ?_⟩
  have p := gSet_ok (i := 7) (en := e9 L (some (.d (.int k))) o4 o5 (some (.d (.int q))) o7 o8) (m := m) (sub_i (call1 (ix_t (xs := L.map pt) (sVar_ok (i := 0) rfl) (sVar_ok (i := 3) rfl) (at_here hk)) (v_quarter _ m)) (call1 (ix_t (xs := L.map pt) (sVar_ok (i := 0) rfl) (sub_i (sVar_ok (i := 3) rfl) (sC_ok (.int 1))) (at_before hk)) (v_quarter _ m)))
  refine (gSeq_ok p).trans ?_
  rw [show q + ql (V L k) (V L (k + 1)) = q + (qv (V L (k + 1)) - qv (V L k)) - 4 * ((qv (V L (k + 1)) - qv (V L k)) / 4) by unfold ql; omega]
  exact gSet_ok (i := 6) (sub_i (add_i (sVar_ok (i := 6) rfl) (sVar_ok (i := 7) rfl)) (mul_i (sC_ok (.int 4)) (div_i (sVar_ok (i := 7) rfl) (sC_ok (.int 4)) (by decide) (by decide)) (m64 (by decide))))
theorem v_right {L : List P} (h : Rd L) (m : Store) : f__law_right [.d (en_ L)] m = .ok (.d (.bl true)) m := by
  have hl := h.rt.1
  have hi := h.hi
  have ln : (L.map pt).length = L.length := by simp
  have lt : ∀ (en : En), en[0]? = some (some (.d (en_ L))) → sUn oLen (sVar 0) en m = .ok (.d (.int L.length)) m := fun en he => by
    have := len_t (m := m) (sVar_ok (i := 0) (x := .d (en_ L)) he)
    rw [ln] at this
    exact this
  have g1 := gAsg_ok (G := tgTup 2 (tgCons (tgN 1) (tgCons (tgN 2) tgNil))) (e1 := e9 L none none none none none none) (tup2 (call1 (en := start0 9 [.d (en_ L)]) (sVar_ok (i := 0) rfl) (p_round_numbers h m)) (lt _ rfl)) rfl
  have ht := is_t (en := e9 L none none none none none none) (m := m) (m1 := m) (d := .tup (numsD L)) "tuple" rfl (sVar_ok (i := 1) rfl)
  have nl : (numsD L).length = L.length := by simp
  have t2 := ne_i (en := e9 L none none none none none none) (len_t (m := m) (xs := numsD L) (sVar_ok (i := 1) rfl)) (sVar_ok (i := 2) rfl)
  rw [nl, decide_eq_true rfl] at t2
  have g2 := gif_b (g1 := gRet (sC (.bl false))) ((bOr_f (bNot_ok ht)).trans t2) rfl
  have rg : ∀ o3 o4 o5 o6 o7 o8, iRange1 (sVar 2) (e9 L o3 o4 o5 o6 o7 o8) m = .ok (rng 0 L.length) m := fun o3 o4 o5 o6 o7 o8 => iRange1_ok (sVar_ok (i := 2) rfl) (by omega) (by omega)
  obtain ⟨en1, S1, l1, ⟨o3, o4, o5, rfl⟩, rfl⟩ := loop_nx (G := tgN 3) (body := rB1) (xs := rng 0 L.length) (fun i en S => (∃ o3 o4 o5, en = e9 L o3 o4 o5 none none none) ∧ S = m) (fun i y en S hy ⟨⟨o3, o4, o5, hen⟩, hS⟩ => by
    subst hen; subst hS
    obtain ⟨rfl, hk⟩ := rng_get hy
    rw [Int.zero_add]
    obtain ⟨p4, p5, e⟩ := rB1_ok h (k := i) (by omega) o4 o5 none none none S
    exact ⟨_, rfl, _, _, .inl e, ⟨_, _, _, rfl⟩, rfl⟩) (en := e9 L none none none none none none) (m := m) ⟨⟨_, _, _, rfl⟩, rfl⟩
  obtain ⟨en2, S2, l2, ⟨p3, p7, rfl⟩, rfl⟩ := loop_nx (G := tgN 3) (body := rB2) (xs := rng 0 L.length) (fun i en S => (∃ o3 o7, en = e9 L o3 o4 o5 (some (.d (.int (((List.range i).map fun k => ql (V L k) (V L (k + 1))).sum)))) o7 none) ∧ S = S1) (fun i y en S hy ⟨⟨o3, o7, hen⟩, hS⟩ => by
    subst hen; subst hS
    obtain ⟨rfl, hk⟩ := rng_get hy
    rw [Int.zero_add]
    obtain ⟨p7, e⟩ := rB2_ok h (k := i) (by omega) o4 o5 o7 none ((List.range i).map fun k => ql (V L k) (V L (k + 1))).sum S
    rw [← sum_last] at e
    exact ⟨_, rfl, _, _, .inl e, ⟨_, _, rfl⟩, rfl⟩) (en := e9 L o3 o4 o5 (some (.d (.int 0))) none none) (m := S1) ⟨⟨_, _, rfl⟩, rfl⟩
  rw [rng_len, show ((L.length : Int) - 0).toNat = L.length by omega, h.rt.quarters] at l2
  have tb : (turn L).natAbs ≤ 1000 := by
    have : ∀ n : Nat, 0 ≤ ((List.range n).map fun k => past (V L (k + 1)) (V L (k + 2))).sum ∧ ((List.range n).map fun k => past (V L (k + 1)) (V L (k + 2))).sum ≤ n := fun n => by
      induction n with
      | zero => simp
      | succ n ih =>
        rw [sum_last]
        have : 0 ≤ past (V L (n + 1)) (V L (n + 2)) ∧ past (V L (n + 1)) (V L (n + 2)) ≤ 1 := by unfold past; split <;> decide
        omega
    have := this L.length
    unfold turn
    omega
  have q4 : ∀ o3 o4 o5 o7 o8 S, sBin oDiv (sVar 6) (sC (.int 4)) (e9 L o3 o4 o5 (some (.d (.int (4 * turn L)))) o7 o8) S = .ok (.d (.int (turn L))) S := fun o3 o4 o5 o7 o8 S => by
    have := div_i (en := e9 L o3 o4 o5 (some (.d (.int (4 * turn L)))) o7 o8) (m := S) (sVar_ok (i := 6) rfl) (sC_ok (.int 4)) (by decide) (by decide)
    rw [show 4 * turn L / 4 = turn L by omega] at this
    exact this
  have ff := p_is (pl_en L) S2
  rw [h.flt] at ff
  have g6 : gIf (bNot (sT (sCall f__law_like (lCons (sF (fLst (lCons (sCall f_need_round (lCons (sVar 0) lNil)) (lCons (sCall f_is_round (lCons (sVar 0) lNil)) (lCons (sCall f_turns_of (lCons (sVar 0) lNil)) lNil))))) (lCons (sF (fLst (lCons (sVar 0) (lCons (sC (.bl true)) (lCons (sBin oDiv (sVar 6) (sC (.int 4))) lNil))))) lNil))))) (gRet (sC (.bl false))) gNext (e9 L p3 o4 o5 (some (.d (.int (4 * turn L)))) p7 none) S2 = .nx (e9 L p3 o4 o5 (some (.d (.int (4 * turn L)))) p7 none) S2 := by
    refine gif_b (b := !true) (bNot_ok (sT_ok (like_call (d := .lst [en_ L, .bl true, .int (turn L)]) ?_ ?_ ?_))) rfl
    · exact sF_ok (lst_ok (lCons_ok (call1 (sVar_ok (i := 0) rfl) (h.need S2)) (lCons_ok (call1 (sVar_ok (i := 0) rfl) ff) (lCons_ok (call1 (sVar_ok (i := 0) rfl) (p_turns h S2)) lNil_ok))) rfl rfl)
    · exact sF_ok (lst_ok (lCons_ok (sVar_ok (i := 0) rfl) (lCons_ok (sC_ok _) (lCons_ok (q4 _ _ _ _ _ _) lNil_ok))) rfl rfl)
    · exact (Sm.lst (n := 3) (w := 5100) (p := 2) (am_cons (sm_en h.sm hi) (am_cons ((Sm.bl true).mono (by decide) (by decide)) (am_cons ((Sm.int (by omega)).mono (by decide) (by decide)) am_nil))) (by simp)).ok (by decide) (by decide)
  have r : gRet (sAnd (sBin oEq (sBin oSub (sVar 6) (sBin oMulP (sC (.int 4)) (sBin oDiv (sVar 6) (sC (.int 4))))) (sC (.int 0))) (sBin oEq (sUn oSumP (sVar 1)) (sBin oSub (sBin oMulP (sC (.int 3)) (sVar 2)) (sBin oMulP (sC (.int 3)) (sVar 6))))) (e9 L p3 o4 o5 (some (.d (.int (4 * turn L)))) p7 none) S2 = .rt (.d (.bl true)) S2 := by
    have a1 := sBin_ok (sub_i (en := e9 L p3 o4 o5 (some (.d (.int (4 * turn L)))) p7 none) (m := S2) (sVar_ok (i := 6) rfl) (mul_i (sC_ok (.int 4)) (q4 _ _ _ _ _ _) (m64 (by decide)))) (sC_ok (.int 0)) rfl rfl (oEq_int _ _)
    rw [show decide (4 * turn L - 4 * turn L = 0) = true by simp] at a1
    have sm1 : oSumP (.tup (numsD L)) = some (.int (3 * L.length - 12 * turn L)) := by
      have : intsD (numsD L) = some ((List.range L.length).map (num L)) := by
        have z : ∀ l : List Int, intsD (l.map .int) = some l := fun l => by
          induction l with
          | nil => rfl
          | cons x l ih => simp only [List.map_cons, intsD, ih, Option.map_some]
        have := z ((List.range L.length).map (num L))
        rw [List.map_map] at this
        exact this
      unfold oSumP
      simp only [this]
      show some (Dv.int ((List.range L.length).map (num L)).sum) = _
      rw [h.rt.nums]
    have a2 := sBin_ok (sUn_ok (en := e9 L p3 o4 o5 (some (.d (.int (4 * turn L)))) p7 none) (m := S2) (sVar_ok (i := 1) (x := .d (.tup (numsD L))) rfl) rfl sm1) (sub_i (mul_i (sC_ok (.int 3)) (sVar_ok (i := 2) rfl) (m64 (by decide))) (mul_i (sC_ok (.int 3)) (sVar_ok (i := 6) rfl) (m64 (by decide)))) rfl rfl (oEq_int _ _)
    rw [show decide (3 * (L.length : Int) - 12 * turn L = 3 * (L.length : Int) - 3 * (4 * turn L)) = true by simp; omega] at a2
    exact gRet_ok ((sAnd_t a1).trans a2)
  refine fin_d rfl ?_
  refine (gSeq_ok g1).trans ((gSeq_ok g2).trans ((gSeq_ok ((gFor_ok (rg _ _ _ _ _ _)).trans l1)).trans ((gSeq_ok (gSet_ok (sC_ok _))).trans ((gSeq_ok ((gFor_ok (rg _ _ _ _ _ _)).trans l2)).trans ((gSeq_ok g6).trans r)))))
end K59
end

section
/-! RG: rounds grown: a sum put between two neighbours, more rounds, another first, another basis -/
set_option linter.all false
set_option maxHeartbeats 1000000
namespace RdP
def adj (R : P → P → Prop) : List P → Prop
  | [] => True
  | [_] => True
  | a :: b :: r => R a b ∧ adj R (b :: r)
theorem adj_app {R : P → P → Prop} (p : List P) (u : P) (q : List P) : adj R (p ++ u :: q) ↔ adj R (p ++ [u]) ∧ adj R (u :: q) := by
  induction p with
  | nil => simp [adj]
  | cons a p ih =>
    cases p with
    | nil => simp [adj]
    | cons b p =>
      show (R a b ∧ adj R ((b :: p) ++ u :: q)) ↔ (R a b ∧ adj R ((b :: p) ++ [u])) ∧ _
      rw [ih, and_assoc]
theorem adj_mono {R S : P → P → Prop} (h : ∀ u v, R u v → S u v) : ∀ L : List P, adj R L → adj S L
  | [], _ => trivial
  | [_], _ => trivial
  | a :: b :: r, c => ⟨h _ _ c.1, adj_mono h (b :: r) c.2⟩
theorem adj_map {R S : P → P → Prop} {f : P → P} (h : ∀ u v, R u v → S (f u) (f v)) : ∀ L : List P, adj R L → adj S (L.map f)
  | [], _ => trivial
  | [_], _ => trivial
  | a :: b :: r, c => ⟨h _ _ c.1, adj_map h (b :: r) c.2⟩
def bd (a : Nat) (v : P) : Prop := v.1.natAbs ≤ a ∧ v.2.natAbs ≤ a
def Rs (s : Nat) (u v : P) : Prop := det u v = 1 ∧ (u.1 + v.1).natAbs ≤ s ∧ (u.2 + v.2).natAbs ≤ s
def D1 (u v : P) : Prop := det u v = 1
theorem adj_chain : ∀ L : List P, adj D1 L ↔ chain L
  | [] => Iff.rfl
  | [_] => Iff.rfl
  | a :: b :: r => by
    show D1 a b ∧ adj D1 (b :: r) ↔ det a b = 1 ∧ chain (b :: r)
    rw [adj_chain (b :: r)]
    rfl
structure Gr (a s : Nat) (L : List P) : Prop where
  ne : L ≠ []
  b : ∀ v ∈ L, bd a v
  ad : adj (Rs s) (L ++ [at_ L 0])
def mid (u w : P) : P := (u.1 + w.1, u.2 + w.2)
theorem split_at {L : List P} {k : Nat} (h : k < L.length) : L = L.take k ++ at_ L k :: L.drop (k + 1) := by
  have : at_ L k = L[k] := by simp [at_, List.getD_eq_getElem?_getD, h]
  rw [this]
  simp
theorem at0_mem {L : List P} (h : L ≠ []) : at_ L 0 ∈ L := by
  cases L with
  | nil => exact absurd rfl h
  | cons a L => simp [at_]
theorem Gr.raise {a s : Nat} {L : List P} (h : Gr a s L) (hs : a ≤ s) {k : Nat} (hk : k < L.length) : Gr s (a + s) (L.take (k + 1) ++ mid (at_ L k) (at_ (L ++ [at_ L 0]) (k + 1)) :: L.drop (k + 1)) := by
  obtain ⟨h1, h2, h3⟩ := h
  generalize hA : L.take k = A
  generalize hB : L.drop (k + 1) = B
  generalize hu : at_ L k = u
  have e := split_at hk
  rw [hA, hB, hu] at e
  have et : L.take (k + 1) = A ++ [u] := by
    have l : A.length = k := by rw [← hA]; simp; omega
    rw [e, ← l, List.take_append]
    simp
    exact List.take_of_length_le (by omega)
  have la : A.length = k := by rw [← hA]; simp; omega
  generalize hh : at_ L 0 = g at h3 ⊢
  have ew : ∃ w C, B ++ [g] = w :: C := by
    cases B with
    | nil => exact ⟨g, [], rfl⟩
    | cons x B => exact ⟨x, B ++ [g], rfl⟩
  obtain ⟨w, C, ew⟩ := ew
  have eX : L ++ [g] = A ++ u :: w :: C := by rw [e, List.append_assoc, List.cons_append, ew]
  have hw : at_ (L ++ [g]) (k + 1) = w := by
    rw [eX, ← la]
    simp [at_]
  rw [hw, et]
  rw [eX, adj_app A u (w :: C)] at h3
  obtain ⟨c1, c2, c3⟩ := h3
  have mu : bd a u := h2 u (by rw [e]; simp)
  have mg : g ∈ L := by rw [← hh]; exact at0_mem h1
  have mw : bd a w := h2 w (by
    have : w ∈ L ++ [g] := by rw [eX]; simp
    rcases List.mem_append.mp this with q | q
    · exact q
    · simp at q; rw [q]; exact mg)
  have up : ∀ u v, Rs s u v → Rs (a + s) u v := fun u v q => ⟨q.1, by have := q.2.1; omega, by have := q.2.2; omega⟩
  have r1 : Rs (a + s) u (mid u w) := by
    refine ⟨?_, ?_, ?_⟩
    · have := c2.1; unfold det mid at *; simp only; grind
    · have := c2.2.1; have := mu.1; unfold mid; simp only; omega
    · have := c2.2.2; have := mu.2; unfold mid; simp only; omega
  have r2 : Rs (a + s) (mid u w) w := by
    refine ⟨?_, ?_, ?_⟩
    · have := c2.1; unfold det mid at *; simp only; grind
    · have := c2.2.1; have := mw.1; unfold mid; simp only; omega
    · have := c2.2.2; have := mw.2; unfold mid; simp only; omega
  refine ⟨by simp, ?_, ?_⟩
  · intro v hv
    rw [List.append_assoc] at hv
    have : v ∈ L ∨ v = mid u w := by
      rw [e]
      simp at hv ⊢
      rcases hv with q | q | q | q
      · exact .inl (.inl q)
      · exact .inl (.inr (.inl q))
      · exact .inr q
      · exact .inl (.inr (.inr q))
    rcases this with q | q
    · have := h2 v q
      exact ⟨by have := this.1; omega, by have := this.2; omega⟩
    · rw [q]
      exact ⟨c2.2.1, c2.2.2⟩
  · have hg : at_ (A ++ [u] ++ mid u w :: B) 0 = g := by
      rw [← hh, e]
      cases A <;> simp [at_]
    rw [hg]
    have e3 : A ++ [u] ++ mid u w :: B ++ [g] = A ++ u :: (mid u w :: w :: C) := by simp [ew]
    rw [e3, adj_app]
    exact ⟨adj_mono up _ c1, r1, r2, adj_mono up _ c3⟩
theorem take1 {L : List P} (h : L ≠ []) : L.take 1 = [at_ L 0] := by
  cases L with
  | nil => exact absurd rfl h
  | cons a L => simp [at_]
theorem Gr.cl {a s : Nat} {L : List P} (h : Gr a s L) : Cl L := by
  unfold Cl
  rw [take1 h.ne, ← adj_chain]
  exact adj_mono (fun _ _ q => q.1) _ h.ad
theorem Cl.app {L M : List P} (hL : Cl L) (hM : Cl M) (h : L ≠ []) (e : L.take 1 = M.take 1) : Cl (L ++ M) := by
  unfold Cl at *
  cases L with
  | nil => exact absurd rfl h
  | cons a L =>
    cases M with
    | nil => simp at e
    | cons b M =>
      have : a = b := by simpa using e
      subst this
      have e2 : a :: L ++ a :: M ++ (a :: L ++ a :: M).take 1 = (a :: L) ++ a :: (M ++ [a]) := by simp
      rw [e2, chain_app]
      simp only [List.take_succ_cons, List.take_zero] at hL hM
      exact ⟨hL, hM⟩
def rep (L : List P) : Nat → List P
  | 0 => L
  | n + 1 => L ++ rep L n
theorem rep_ok {L : List P} (h : Cl L) (hn : L ≠ []) : ∀ n, Cl (rep L n) ∧ (rep L n).take 1 = L.take 1 ∧ rep L n ≠ [] ∧ (rep L n).length = (n + 1) * L.length ∧ (∀ v ∈ rep L n, v ∈ L)
  | 0 => ⟨h, rfl, hn, by simp [rep], fun v q => q⟩
  | n + 1 => by
    obtain ⟨a, b, c, d, e⟩ := rep_ok h hn n
    refine ⟨Cl.app h a hn b.symm, ?_, by simp [rep, hn], ?_, fun v q => ?_⟩
    · cases L with
      | nil => exact absurd rfl hn
      | cons x L => simp [rep]
    · show (L ++ rep L n).length = _
      rw [List.length_append, d, Nat.succ_mul (n + 1)]; omega
    · rcases List.mem_append.mp q with q | q
      · exact q
      · exact e v q
def lin (t l : P) (v : P) : P := (t.1 * v.1 + t.2 * v.2, l.1 * v.1 + l.2 * v.2)
theorem lin_det (t l u v : P) : det (lin t l u) (lin t l v) = det t l * det u v := by
  unfold det lin
  simp only
  grind
theorem Cl.lin {L : List P} (h : Cl L) {t l : P} (d : det t l = 1) : Cl (L.map (RdP.lin t l)) := by
  unfold Cl at *
  rw [← List.map_take, ← List.map_append, ← adj_chain]
  rw [← adj_chain] at h
  refine adj_map (fun u v q => ?_) _ h
  show RdP.det _ _ = 1
  rw [lin_det, d, q]
  rfl
theorem Cl.rt {L : List P} (h : Cl L) (hl : 3 ≤ L.length) : Rt L := by
  refine ⟨hl, fun k hk => ?_⟩
  have hn : L ≠ [] := fun z => by rw [z] at hl; simp at hl
  unfold Cl at h
  rw [take1 hn] at h
  have := chain_at _ h k (by simp; omega)
  have e : ∀ j, V L (j + 1) = at_ (L ++ [at_ L 0]) j := fun j => by unfold V ring; rw [at_s]
  rw [e k, e (k + 1)]
  exact this
theorem lin_bd {t l v : P} {a : Nat} (ht : bd 16 t) (hl : bd 16 l) (hv : bd a v) : bd (32 * a) (lin t l v) := by
  have m : ∀ x y : Int, x.natAbs ≤ 16 → y.natAbs ≤ a → (x * y).natAbs ≤ 16 * a := fun x y hx hy => by
    rw [Int.natAbs_mul]; exact Nat.mul_le_mul hx hy
  have a1 := m _ _ ht.1 hv.1
  have a2 := m _ _ ht.2 hv.2
  have a3 := m _ _ hl.1 hv.1
  have a4 := m _ _ hl.2 hv.2
  unfold lin bd
  simp only
  omega
/-- what is drawn -/
theorem grown {a s : Nat} {L : List P} (h : Gr a s L) (ha : a ≤ 31) (hl : 3 ≤ L.length) (hl2 : L.length ≤ 20) {n : Nat} (hn : n ≤ 2) {k : Nat} {t l : P} (ht : bd 16 t) (hl' : bd 16 l) (d : det t l = 1) : Rt (((rep L n).drop k ++ (rep L n).take k).map (lin t l)) ∧ (∀ v ∈ ((rep L n).drop k ++ (rep L n).take k).map (lin t l), bd 1000 v) ∧ (((rep L n).drop k ++ (rep L n).take k).map (lin t l)).length ≤ 60 := by
  obtain ⟨r1, r2, r3, r4, r5⟩ := rep_ok h.cl h.ne n
  generalize rep L n = M at *
  have lm : L.length ≤ M.length := by rw [r4, Nat.succ_mul]; omega
  have lm2 : M.length ≤ 60 := by
    rw [r4]
    exact Nat.le_trans (Nat.mul_le_mul (Nat.succ_le_succ hn) hl2) (by decide)
  have e : M = M.take k ++ M.drop k := by simp
  have ll : (M.drop k ++ M.take k).length = M.length := by rw [List.length_append, Nat.add_comm, ← List.length_append, ← e]
  have c : Cl (M.drop k ++ M.take k) := (rot (M.take k) (M.drop k) (by rw [← e]; omega)).1.mp (by rw [← e]; exact r1)
  refine ⟨(c.lin d).rt (by rw [List.length_map, ll]; omega), fun v hv => ?_, by rw [List.length_map, ll]; exact lm2⟩
  obtain ⟨u, hu, rfl⟩ := List.mem_map.mp hv
  have : u ∈ M := by
    rcases List.mem_append.mp hu with q | q
    · exact List.mem_of_mem_drop q
    · exact List.mem_of_mem_take q
  have b := lin_bd ht hl' (h.b u (r5 u this))
  exact ⟨by have := b.1; omega, by have := b.2; omega⟩
end RdP
end

section
set_option Elab.async false
set_option linter.all false
set_option maxRecDepth 100000
set_option maxHeartbeats 4000000
/-! RH: what is drawn: an order of two, a basis -/
namespace K59
open PySem PySem.Spec PyProof.Rows L2 EvL EvH RdP
theorem e_draw : K59.f__law_draw = EvH.f__law_draw := rfl
theorem e_of : K59.f__law_of = EvH.f__law_of := rfl
theorem e_begun : K59.f__law_begun = EvH.f__law_begun := rfl
theorem loop_go {G : Tgt} {body : SemS} {d : Dv} {ds : List Dv} {en e1 e2 : En} {m m2 : Store} (h1 : G (.d d) en m = some e1) (h2 : body e1 m = .nx e2 m2) : loop G body (d :: ds) en m = loop G body ds e2 m2 := by
  rw [show loop G body (d :: ds) en m = (match G (.d d) en m with
    | none => Sr.no
    | some en' => match body en' m with
      | .nx e2 m2 => loop G body ds e2 m2
      | .ct e2 m2 => loop G body ds e2 m2
      | .bk e2 m2 => .nx e2 m2
      | .rt y m2 => .rt y m2
      | .ex y e2 m2 => .ex y e2 m2
      | .no => .no) from rfl, h1]
  dsimp only
  rw [h2]
/-- a def's own store: the caller's and more; the draws stand -/
structure Lo (j : Nat) (m S : Store) (b : Int) : Prop where
  x : Xt j m S
  d : Dr S j b
section
variable {S T m : Store} {i j k : Nat} {b : Int} {en : En}
theorem Lo.push (h : Lo j m T b) (x : So) : Lo j m (T ++ [x]) b := ⟨h.x.push x, h.d.push x⟩
theorem Lo.put (h : Lo j m T b) (hj : j < m.length) (hk : m.length ≤ k) (x : So) : Lo j m (T.set k x) b := ⟨h.x.put hk x, h.d.put (by omega) x⟩
theorem Lo.mono {c : Int} (h : Lo j m T b) (hc : b ≤ c) : Lo j m T c := ⟨h.x, h.d.mono hc⟩
theorem l_draw {span : Int} {f : Sem1} (h : Lo j m T b) (hb : b < 1000000) (hs : 1 ≤ span) (hs2 : span < 1152921504606846976) (h0 : en[i]? = some (some (.o j))) (hf : f en T = .ok (.d (.int span)) T) : ∃ r T', sCall f__law_draw (lCons (sVar i) (lCons f lNil)) en T = .ok (.d (.int r)) T' ∧ 0 ≤ r ∧ r < span ∧ Sj j T T' ∧ Lo j m T' (b + 1) := by
  obtain ⟨r, T', e, h1, h2, h3, h4⟩ := draw_ok h.d hb hs hs2
  rw [← e_draw] at e
  exact ⟨r, T', sCall_ok (lCons_ok (sVar_ok h0) (lCons_ok hf lNil_ok)) e, h1, h2, h3, h.x.sj h3, h4⟩
theorem two_mem {x : Dv} {k : Nat} (h : [Dv.int 0, Dv.int 1][k]? = some x) : x = .int 0 ∨ x = .int 1 := by
  have := List.mem_of_getElem? h
  simpa using this
abbrev sB : SemS := (gSeq (gSet 5 (sCall f__law_of (lCons (sVar 0) (lCons (sVar 2) lNil)))) (gSeq (gNew 2 (fComp (iSeq (sVar 2)) (tgN 6) (sT (sBin oNe (sVar 6) (sVar 5))) (sVar 6) [6])) (gApp 3 (sVar 5))))
theorem v_shuffled (h : Dr S j b) (hb : b < 900000) : ∃ i S', f__law_shuffled [.o j, .d (.int 2)] S = .ok (.d (.tup [.int i, .int (1 - i)])) S' ∧ (i = 0 ∨ i = 1) ∧ Sj j S S' ∧ Dr S' j (b + 2) := by
  have hj := h.lt
  let e7 : Option Sv → Option Sv → Option Sv → Option Sv → En := fun o2 o4 o5 o6 => [some (.o j), some (.d (.int 2)), o2, some (.o S.length), o4, o5, o6]
  have L0 : Lo j S (S ++ [So.lst []]) b := Lo.push ⟨.refl _ _, h⟩ _
  have p : gPar 2 3 (lCons (sF (fRange1 (sVar 1))) (lCons (sNew (fLst lNil)) lNil)) (start0 7 [.o j, .d (.int 2)]) S = .nx (e7 (some (.d (.lst [.int 0, .int 1]))) none none none) (S ++ [So.lst []]) := by
    have a : sF (fRange1 (sVar 1)) (start0 7 [.o j, .d (.int 2)]) S = .ok (.d (.lst [.int 0, .int 1])) S := rfl
    exact (gPar_ok (lCons_ok a (lCons_ok (sNew_ok (lst_ok lNil_ok rfl rfl)) lNil_ok))).trans rfl
  have g0 := get_push S (.lst [])
  -- the first
  obtain ⟨k, x, T1, hk, e1, s1, d1⟩ := of_ok (xs := [.int 0, .int 1]) L0.d (by omega) (by simp) (by simp)
  rw [← e_of] at e1
  obtain ⟨i, rfl, hi⟩ : ∃ i : Int, x = .int i ∧ (i = 0 ∨ i = 1) := by
    rcases two_mem hk with rfl | rfl
    · exact ⟨0, rfl, .inl rfl⟩
    · exact ⟨1, rfl, .inr rfl⟩
  have L1 : Lo j S T1 (b + 1) := ⟨L0.x.sj s1, d1⟩
  have g1 : T1[S.length]? = some (.lst []) := by rw [s1.at_ _ (by omega)]; exact g0
  have c1 : fComp (iSeq (sVar 2)) (tgN 6) (sT (sBin oNe (sVar 6) (sVar 5))) (sVar 6) [6] (e7 (some (.d (.lst [.int 0, .int 1]))) (some (.d (.int 0))) (some (.d (.int i))) none) T1 = .ok [.int (1 - i)] T1 := by
    have := comp_pure (vs := [6]) (G := tgN 6) (t := sT (sBin oNe (sVar 6) (sVar 5))) (f := sVar 6) (fun d => match d with | .int z => !decide (z = i) | _ => false) (fun d => d) (iSeq_d (sVar_ok (i := 2) (en := e7 (some (.d (.lst [.int 0, .int 1]))) (some (.d (.int 0))) (some (.d (.int i))) none) (m := T1) rfl)) (by simp) (fun d acc hd => by
      obtain ⟨z, rfl⟩ : ∃ z : Int, d = .int z := by
        simp at hd
        rcases hd with rfl | rfl <;> exact ⟨_, rfl⟩
      exact ⟨_, rfl, ne_i (sVar_ok rfl) (sVar_ok rfl), fun _ => sVar_ok rfl⟩)
    rw [this]
    rcases hi with rfl | rfl <;> rfl
  have ln1 : S.length < T1.length := (List.getElem?_eq_some_iff.mp g1).1
  have g2 : (T1 ++ [So.lst [.int (1 - i)]])[S.length]? = some (.lst []) := get_keep g1
  have b1 : sB (e7 (some (.d (.lst [.int 0, .int 1]))) (some (.d (.int 0))) none none) (S ++ [So.lst []]) = .nx (e7 (some (.o T1.length)) (some (.d (.int 0))) (some (.d (.int i))) none) ((T1 ++ [So.lst [.int (1 - i)]]).set S.length (.lst [.int i])) := by
    refine (gSeq_ok (gSet_ok (call2 (sVar_ok rfl) (sVar_ok rfl) e1))).trans ((gSeq_ok (gNew_ok c1)).trans ?_)
    exact gApp_ok (k := S.length) (xs := []) rfl g2 (sVar_ok rfl) g2 rfl
  have L2' : Lo j S ((T1 ++ [So.lst [.int (1 - i)]]).set S.length (.lst [.int i])) (b + 1) := (L1.push _).put hj (Nat.le_refl _) _
  -- the second
  have g3 : ((T1 ++ [So.lst [.int (1 - i)]]).set S.length (.lst [.int i]))[T1.length]? = some (.lst [.int (1 - i)]) := by
    rw [List.getElem?_set_ne (by omega)]; exact get_push _ _
  have g4 : ((T1 ++ [So.lst [.int (1 - i)]]).set S.length (.lst [.int i]))[S.length]? = some (.lst [.int i]) := get_set g2
  obtain ⟨k2, x2, T2, hk2, e2, s2, d2⟩ := of_ok2 L2'.d g3 (by omega) (by simp) (by simp)
  rw [← e_of] at e2
  have : x2 = .int (1 - i) := by
    have := List.mem_of_getElem? hk2
    simpa using this
  subst this
  have L3 : Lo j S T2 (b + 2) := ⟨L2'.x.sj s2, d2.mono (by omega)⟩
  have g5 : T2[T1.length]? = some (.lst [.int (1 - i)]) := by rw [s2.at_ _ (by omega)]; exact g3
  have g6 : T2[S.length]? = some (.lst [.int i]) := by rw [s2.at_ _ (by omega)]; exact g4
  have c2 : fComp (iSeq (sVar 2)) (tgN 6) (sT (sBin oNe (sVar 6) (sVar 5))) (sVar 6) [6] (e7 (some (.o T1.length)) (some (.d (.int 1))) (some (.d (.int (1 - i)))) none) T2 = .ok [] (T2.set T1.length .gone) := by
    have := comp_pure (vs := [6]) (G := tgN 6) (t := sT (sBin oNe (sVar 6) (sVar 5))) (f := sVar 6) (fun d => match d with | .int z => !decide (z = 1 - i) | _ => false) (fun d => d) (iSeq_o (sVar_ok (i := 2) (en := e7 (some (.o T1.length)) (some (.d (.int 1))) (some (.d (.int (1 - i)))) none) (m := T2) rfl) g5) (by simp) (fun d acc hd => by
      obtain ⟨z, rfl⟩ : ∃ z : Int, d = .int z := by
        simp at hd
        exact ⟨_, hd⟩
      exact ⟨_, rfl, ne_i (sVar_ok rfl) (sVar_ok rfl), fun _ => sVar_ok rfl⟩)
    rw [this]
    simp
  have g7 : (T2.set T1.length .gone ++ [So.lst []])[S.length]? = some (.lst [.int i]) := get_keep (by rw [List.getElem?_set_ne (by omega)]; exact g6)
  have b2 : sB (e7 (some (.o T1.length)) (some (.d (.int 1))) (some (.d (.int i))) none) ((T1 ++ [So.lst [.int (1 - i)]]).set S.length (.lst [.int i])) = .nx (e7 (some (.o (T2.set T1.length .gone).length)) (some (.d (.int 1))) (some (.d (.int (1 - i)))) none) ((T2.set T1.length .gone ++ [So.lst []]).set S.length (.lst [.int i, .int (1 - i)])) := by
    refine (gSeq_ok (gSet_ok (call2 (sVar_ok rfl) (sVar_ok rfl) e2))).trans ((gSeq_ok (gNew_ok c2)).trans ?_)
    exact gApp_ok (k := S.length) (xs := [.int i]) rfl g7 (sVar_ok rfl) g7 rfl
  have L4 : Lo j S ((T2.set T1.length .gone ++ [So.lst []]).set S.length (.lst [.int i, .int (1 - i)])) (b + 2) := ((L3.put hj (by omega) _).push _).put hj (Nat.le_refl _) _
  have g8 : ((T2.set T1.length .gone ++ [So.lst []]).set S.length (.lst [.int i, .int (1 - i)]))[S.length]? = some (.lst [.int i, .int (1 - i)]) := get_set g7
  have fo : gFor (iRange1 (sVar 1)) (tgN 4) sB (e7 (some (.d (.lst [.int 0, .int 1]))) none none none) (S ++ [So.lst []]) = .nx (e7 (some (.o (T2.set T1.length .gone).length)) (some (.d (.int 1))) (some (.d (.int (1 - i)))) none) ((T2.set T1.length .gone ++ [So.lst []]).set S.length (.lst [.int i, .int (1 - i)])) := by
    refine (gFor_ok (iRange1_ok (sVar_ok rfl) (by decide) (by decide))).trans ?_
    rw [show rng 0 2 = [.int 0, .int 1] from rfl]
    refine (loop_go rfl b1).trans ((loop_go rfl b2).trans rfl)
  have r := fn_d (ns := 7) (np := 2) (ws := [.o j, .d (.int 2)]) (m := S) rfl ((gSeq_ok p).trans ((gSeq_ok fo).trans (gRet_ok (sUn_ok (up := oTuple) (d := .tup [.int i, .int (1 - i)]) (sVar_ok (i := 3) rfl) (rv_lst g8) rfl))))
  exact ⟨i, _, r, hi, L4.x.cut, L4.d.cut hj⟩
end
end K59
end

section
set_option Elab.async false
set_option linter.all false
set_option maxRecDepth 100000
set_option maxHeartbeats 4000000
/-! RI: a basis drawn; pairs moved -/
namespace K59
open PySem PySem.Spec PyProof.Rows L2 EvL EvH RdP
abbrev lp (v : P) : Dv := .lst [.int v.1, .int v.2]
/-- a row and some of the other -/
def plus (u v : P) (c : Int) : P := (u.1 + c * v.1, u.2 + c * v.2)
theorem det_plus1 (u v : P) (c : Int) : det (plus u v c) v = det u v := by unfold det plus; simp only; grind
theorem det_plus2 (u v : P) (c : Int) : det u (plus v u c) = det u v := by unfold det plus; simp only; grind
theorem bd_plus {a : Nat} {u v : P} {c : Int} (hu : bd a u) (hv : bd a v) (hc : c = -1 ∨ c = 0 ∨ c = 1) : bd (2 * a) (plus u v c) := by
  have := hu.1; have := hu.2; have := hv.1; have := hv.2
  unfold bd plus
  rcases hc with rfl | rfl | rfl <;> simp only <;> omega
def pm (x : Int) : Prop := x = 1 ∨ x = -1
section
variable {S T m : Store} {i j k : Nat} {b : Int} {en : En}
theorem ints2 {d : Dv} {x y : Int} (h : d ∈ [Dv.int x, Dv.int y]) : d = .int x ∨ d = .int y := by simpa using h
theorem rows0 (S : Store) (o0 : Option Sv) (o2 o3 o4 o5 o6 o7 o8 o9 oa : Option Sv) : fComp (iRange1 (sVar 1)) (tgN 7) bYes (sF (fComp (iRange1 (sVar 1)) (tgN 8) bYes (sUn oInt (sBin oEq (sVar 7) (sVar 8))) [8])) [7] [o0, some (.d (.int 2)), o2, o3, o4, o5, o6, o7, o8, o9, oa] S = .ok [lp (1, 0), lp (0, 1)] S := by
  have e := comp_pure (vs := [7]) (G := tgN 7) (t := bYes) (f := sF (fComp (iRange1 (sVar 1)) (tgN 8) bYes (sUn oInt (sBin oEq (sVar 7) (sVar 8))) [8])) (fun _ => true) (fun d => match d with | .int k => .lst [.int (if k = 0 then 1 else 0), .int (if k = 1 then 1 else 0)] | _ => .non) (iRange1_ok (sVar_ok (i := 1) (en := [o0, some (.d (.int 2)), o2, o3, o4, o5, o6, o7, o8, o9, oa]) (m := S) rfl) (by decide) (by decide)) (by decide) (fun d acc hd => by
    obtain ⟨z, rfl, _, _⟩ := rng_mem hd
    refine ⟨_, rfl, rfl, fun _ => sF_ok ?_⟩
    have e2 := comp_pure (vs := [8]) (G := tgN 8) (t := bYes) (f := sUn oInt (sBin oEq (sVar 7) (sVar 8))) (fun _ => true) (fun d => match d with | .int k => .int (if decide (z = k) then 1 else 0) | _ => .non) (iRange1_ok (sVar_ok (i := 1) (en := [o0, some (.d (.int 2)), o2, o3, o4, o5, o6, some (.d (.int z)), o8, o9, oa]) (m := S ++ [.lst acc]) rfl) (by decide) (by decide)) (by decide) (fun d acc hd => by
      obtain ⟨y, rfl, _, _⟩ := rng_mem hd
      exact ⟨_, rfl, rfl, fun _ => sUn_ok (sBin_ok (sVar_ok rfl) (sVar_ok rfl) rfl rfl (oEq_int _ _)) rfl rfl⟩)
    exact e2.trans (by simp [rng, List.range_succ]))
  rw [e]
  rfl
abbrev eT (j k : Nat) (o3 o4 o5 o6 o7 o8 o9 oa : Option Sv) : En := [some (.o j), some (.d (.int 2)), some (.o k), o3, o4, o5, o6, o7, o8, o9, oa]
abbrev tB : SemS := (gSeq (gPar 4 5 (lCons (sCall f__law_draw (lCons (sVar 0) (lCons (sVar 1) lNil))) (lCons (sCall f__law_draw (lCons (sVar 0) (lCons (sVar 1) lNil))) lNil))) (gIf (sT (sBin oNe (sVar 4) (sVar 5))) (gSeq (gSet 6 (sBin oSub (sCall f__law_draw (lCons (sVar 0) (lCons (sC (.int 3)) lNil))) (sC (.int 1)))) (gPutL 2 (sVar 4) (sF (fComp (EvL.iZip (sBin oIx (sVar 2) (sVar 4)) (sBin oIx (sVar 2) (sVar 5))) (tgTup 2 (tgCons (tgN 9) (tgCons (tgN 10) tgNil))) bYes (sBin oAddP (sVar 9) (sBin oMulP (sVar 6) (sVar 10))) [9, 10])))) gNext))
theorem zip_ok {u v : P} {c : Int} (hc : c.natAbs ≤ 2) {h t : Int} (hk : T[k]? = some (.lst xs)) (h1 : atI xs h = some (lp u)) (h2 : atI xs t = some (lp v)) (o3 o7 o8 o9 oa : Option Sv) : fComp (EvL.iZip (sBin oIx (sVar 2) (sVar 4)) (sBin oIx (sVar 2) (sVar 5))) (tgTup 2 (tgCons (tgN 9) (tgCons (tgN 10) tgNil))) bYes (sBin oAddP (sVar 9) (sBin oMulP (sVar 6) (sVar 10))) [9, 10] (eT j k o3 (some (.d (.int h))) (some (.d (.int t))) (some (.d (.int c))) o7 o8 o9 oa) T = .ok [.int (plus u v c).1, .int (plus u v c).2] T := by
  have z := iZip_l (fa := sBin oIx (sVar 2) (sVar 4)) (fb := sBin oIx (sVar 2) (sVar 5)) (ix_o (en := eT j k o3 (some (.d (.int h))) (some (.d (.int t))) (some (.d (.int c))) o7 o8 o9 oa) (sVar_ok (i := 2) rfl) (sVar_ok (i := 4) rfl) hk h1) (ix_o (sVar_ok (i := 2) rfl) (sVar_ok (i := 5) rfl) hk h2)
  have e := comp_pure (vs := [9, 10]) (G := tgTup 2 (tgCons (tgN 9) (tgCons (tgN 10) tgNil))) (t := bYes) (f := sBin oAddP (sVar 9) (sBin oMulP (sVar 6) (sVar 10))) (fun _ => true) (fun d => match d with | .tup [.int x, .int y] => .int (x + c * y) | _ => .non) z (by simp [pairs]) (fun d acc hd => by
    obtain ⟨x, y, rfl⟩ : ∃ x y : Int, d = .tup [.int x, .int y] := by
      simp [pairs] at hd
      rcases hd with rfl | rfl <;> exact ⟨_, _, rfl⟩
    exact ⟨_, rfl, rfl, fun _ => add_i (sVar_ok rfl) (mul_i (sVar_ok rfl) (sVar_ok rfl) (m64 (by omega)))⟩)
  rw [e]
  rfl
theorem tB_ok {u v : P} {a : Nat} (h : Lo j S T b) (hj : j < S.length) (hb : b < 900000) (hk0 : S.length ≤ k) (hk : T[k]? = some (.lst [lp u, lp v])) (hu : bd a u) (hv : bd a v) (hd : pm (det u v)) (o3 o4 o5 o6 o7 o8 o9 oa : Option Sv) : ∃ u' v' o4' o5' o6' T', tB (eT j k o3 o4 o5 o6 o7 o8 o9 oa) T = .nx (eT j k o3 o4' o5' o6' o7 o8 o9 oa) T' ∧ Lo j S T' (b + 3) ∧ T'[k]? = some (.lst [lp u', lp v']) ∧ bd (2 * a) u' ∧ bd (2 * a) v' ∧ pm (det u' v') := by
  obtain ⟨x, T1, e1, x0, x1, s1, L1⟩ := l_draw (i := 0) (en := eT j k o3 o4 o5 o6 o7 o8 o9 oa) (f := sVar 1) (span := 2) h (by omega) (by decide) (by decide) rfl (sVar_ok rfl)
  obtain ⟨y, T2, e2, y0, y1, s2, L2'⟩ := l_draw (i := 0) (en := eT j k o3 o4 o5 o6 o7 o8 o9 oa) (f := sVar 1) (span := 2) L1 (by omega) (by decide) (by decide) rfl (sVar_ok rfl)
  have hkj : k ≠ j := by omega
  have g2 : T2[k]? = some (.lst [lp u, lp v]) := by rw [s2.at_ _ hkj, s1.at_ _ hkj]; exact hk
  have p := gPar_ok (i := 4) (j := 5) (lCons_ok e1 (lCons_ok e2 lNil_ok))
  have t : sT (sBin oNe (sVar 4) (sVar 5)) (eT j k o3 (some (.d (.int x))) (some (.d (.int y))) o6 o7 o8 o9 oa) T2 = .ok (!decide (x = y)) T2 := ne_i (sVar_ok rfl) (sVar_ok rfl)
  have up : ∀ {w}, bd a w → bd (2 * a) w := fun q => ⟨by have := q.1; omega, by have := q.2; omega⟩
  by_cases hxy : x = y
  · rw [decide_eq_true hxy] at t
    exact ⟨u, v, some (.d (.int x)), some (.d (.int y)), o6, T2, (gSeq_ok p).trans ((gIf_f t).trans rfl), L2'.mono (by omega), g2, up hu, up hv, hd⟩
  · rw [decide_eq_false hxy] at t
    obtain ⟨c, T3, e3, c0, c1, s3, L3⟩ := l_draw (i := 0) (en := eT j k o3 (some (.d (.int x))) (some (.d (.int y))) o6 o7 o8 o9 oa) (f := sC (.int 3)) (span := 3) L2' (by omega) (by decide) (by decide) rfl (sC_ok _)
    have g3 : T3[k]? = some (.lst [lp u, lp v]) := by rw [s3.at_ _ hkj]; exact g2
    have hc : c - 1 = -1 ∨ c - 1 = 0 ∨ c - 1 = 1 := by omega
    have st := gSet_ok (i := 6) (sub_i e3 (sC_ok (.int 1)))
    rcases (show (x = 0 ∧ y = 1) ∨ (x = 1 ∧ y = 0) by omega) with ⟨rfl, rfl⟩ | ⟨rfl, rfl⟩
    · have z := zip_ok (j := j) (u := u) (v := v) (c := c - 1) (by omega) (h := 0) (t := 1) g3 rfl rfl o3 o7 o8 o9 oa
      have pl := gPutL_ok (i := 2) (l := 0) (sF_ok z) rfl (sVar_ok (i := 4) rfl) g3 (by decide) (by simp)
      refine ⟨plus u v (c - 1), v, _, _, _, _, (gSeq_ok p).trans ((gIf_t t).trans ((gSeq_ok st).trans pl)), (L3.put hj hk0 _).mono (by omega), get_set g3, bd_plus hu hv hc, up hv, by rw [det_plus1]; exact hd⟩
    · have z := zip_ok (j := j) (u := v) (v := u) (c := c - 1) (by omega) (h := 1) (t := 0) g3 rfl rfl o3 o7 o8 o9 oa
      have pl := gPutL_ok (i := 2) (l := 1) (sF_ok z) rfl (sVar_ok (i := 4) rfl) g3 (by decide) (by simp)
      refine ⟨u, plus v u (c - 1), _, _, _, _, (gSeq_ok p).trans ((gIf_t t).trans ((gSeq_ok st).trans pl)), (L3.put hj hk0 _).mono (by omega), get_set g3, up hu, bd_plus hv hu hc, by rw [det_plus2]; exact hd⟩
theorem det_swap (u v : P) : det v u = -det u v := by unfold det; grind
def neg (u : P) : P := (-u.1, -u.2)
theorem det_neg (u v : P) : det (neg u) v = -det u v := by unfold det neg; simp only; grind
theorem pm_neg {x : Int} (h : pm x) : pm (-x) := by
  rcases h with rfl | rfl
  · exact .inr rfl
  · exact .inl rfl
theorem v_turn (h : Dr S j b) (hb : b < 800000) : ∃ u v S', f__law_some_turn [.o j, .d (.int 2)] S = .ok (.d (.tup [pt u, pt v])) S' ∧ bd 16 u ∧ bd 16 v ∧ pm (det u v) ∧ Sj j S S' ∧ Dr S' j (b + 20) := by
  have hj := h.lt
  have L0 : Lo j S (S ++ [.lst [lp (1, 0), lp (0, 1)]]) b := Lo.push ⟨.refl _ _, h⟩ _
  have p : gNew 2 (fComp (iRange1 (sVar 1)) (tgN 7) bYes (sF (fComp (iRange1 (sVar 1)) (tgN 8) bYes (sUn oInt (sBin oEq (sVar 7) (sVar 8))) [8])) [7]) (start0 11 [.o j, .d (.int 2)]) S = .nx (eT j S.length none none none none none none none none) (S ++ [.lst [lp (1, 0), lp (0, 1)]]) := gNew_ok (rows0 S _ _ _ _ _ _ _ _ _ _)
  have it : iRange1 (sIf (sT (sBin oGt (sVar 1) (sC (.int 1)))) (sBin oMulP (sC (.int 2)) (sVar 1)) (sC (.int 0))) (eT j S.length none none none none none none none none) (S ++ [.lst [lp (1, 0), lp (0, 1)]]) = .ok (rng 0 4) (S ++ [.lst [lp (1, 0), lp (0, 1)]]) := by
    refine iRange1_ok ?_ (by decide) (by decide)
    refine (if_ok (gt_i (en := eT j S.length none none none none none none none none) (x := 2) (sVar_ok (i := 1) rfl) (sC_ok (.int 1)))).trans ?_
    rw [if_pos (by decide)]
    exact mul_i (en := eT j S.length none none none none none none none none) (x := 2) (y := 2) (sC_ok (.int 2)) (sVar_ok (i := 1) rfl) (m64 (by decide))
  obtain ⟨en', T1, el, ⟨o3, o4, o5, o6, rfl⟩, L1, u, v, g1, hu, hv, hd⟩ := loop_nx (G := tgN 3) (body := tB) (xs := rng 0 4) (fun i en T => (∃ o3 o4 o5 o6, en = eT j S.length o3 o4 o5 o6 none none none none) ∧ Lo j S T (b + 3 * i) ∧ ∃ u v, T[S.length]? = some (.lst [lp u, lp v]) ∧ bd (2 ^ i) u ∧ bd (2 ^ i) v ∧ pm (det u v)) (fun i y en T hy ⟨⟨o3, o4, o5, o6, hen⟩, hL, u, v, hg, hu, hv, hd⟩ => by
    subst hen
    obtain ⟨rfl, hi⟩ := rng_get hy
    obtain ⟨u', v', o4', o5', o6', T', e, L', g', hu', hv', hd'⟩ := tB_ok hL hj (by omega) (Nat.le_refl _) hg hu hv hd (some (.d (.int (0 + i)))) o4 o5 o6 none none none none
    exact ⟨_, rfl, _, _, .inl e, ⟨_, _, _, _, rfl⟩, L'.mono (by omega), u', v', g', by rw [Nat.pow_succ, Nat.mul_comm]; exact hu', by rw [Nat.pow_succ, Nat.mul_comm]; exact hv', hd'⟩) (en := eT j S.length none none none none none none none none) (m := S ++ [.lst [lp (1, 0), lp (0, 1)]]) ⟨⟨_, _, _, _, rfl⟩, L0.mono (by omega), (1, 0), (0, 1), get_push _ _, by unfold bd; decide, by unfold bd; decide, .inl rfl⟩
  rw [rng_len] at L1 hu hv
  -- shuffled
  obtain ⟨i, T2, e2, hi, s2, d2⟩ := v_shuffled L1.d (by omega)
  have hSj : S.length ≠ j := by omega
  have L2' : Lo j S T2 (b + 14) := ⟨L1.x.sj s2, d2.mono (by omega)⟩
  have g2 : T2[S.length]? = some (.lst [lp u, lp v]) := by rw [s2.at_ _ hSj]; exact g1
  obtain ⟨u2, v2, a1, a2, hu2, hv2, hd2⟩ : ∃ u2 v2, atI [lp u, lp v] i = some (lp u2) ∧ atI [lp u, lp v] (1 - i) = some (lp v2) ∧ bd 16 u2 ∧ bd 16 v2 ∧ pm (det u2 v2) := by
    rcases hi with rfl | rfl
    · exact ⟨u, v, rfl, rfl, hu, hv, hd⟩
    · exact ⟨v, u, rfl, rfl, hv, hu, by rw [det_swap]; exact pm_neg hd⟩
  have c2 : fComp (iSeq (sCall f__law_shuffled (lCons (sVar 0) (lCons (sVar 1) lNil)))) (tgN 7) bYes (sBin oIx (sVar 2) (sVar 7)) [7] (eT j S.length o3 o4 o5 o6 none none none none) T1 = .ok [lp u2, lp v2] T2 := by
    have e := comp_pure (vs := [7]) (G := tgN 7) (t := bYes) (f := sBin oIx (sVar 2) (sVar 7)) (fun _ => true) (fun d => match d with | .int k => (atI [lp u, lp v] k).getD .non | _ => .non) (iSeq_t (call2 (en := eT j S.length o3 o4 o5 o6 none none none none) (sVar_ok (i := 0) rfl) (sVar_ok (i := 1) rfl) e2)) (by simp) (fun d acc hd => by
      rcases ints2 hd with rfl | rfl
      · exact ⟨_, rfl, rfl, fun _ => by rw [show (match Dv.int i with | .int k => (atI [lp u, lp v] k).getD .non | _ => .non) = lp u2 by simp only [a1, Option.getD_some]]; exact ix_o (sVar_ok (i := 2) rfl) (sVar_ok rfl) (get_keep g2) a1⟩
      · exact ⟨_, rfl, rfl, fun _ => by rw [show (match Dv.int (1 - i) with | .int k => (atI [lp u, lp v] k).getD .non | _ => .non) = lp v2 by simp only [a2, Option.getD_some]]; exact ix_o (sVar_ok (i := 2) rfl) (sVar_ok rfl) (get_keep g2) a2⟩)
    rw [e]
    simp [a1, a2]
  have L3 : Lo j S (T2 ++ [.lst [lp u2, lp v2]]) (b + 14) := L2'.push _
  have ln2 : S.length ≤ T2.length := L2'.x.len
  obtain ⟨r, T4, e4, r0, r1, s4, L4⟩ := l_draw (i := 0) (en := eT j T2.length o3 o4 o5 o6 none none none none) (f := sC (.int 2)) (span := 2) L3 (by omega) (by decide) (by decide) rfl (sC_ok _)
  have g4 : T4[T2.length]? = some (.lst [lp u2, lp v2]) := by rw [s4.at_ _ (by omega)]; exact get_push _ _
  have t4 := eq_i e4 (sC_ok (.int 0))
  have fin : ∀ {w : P} {T5 : Store}, Lo j S T5 (b + 15) → T5[T2.length]? = some (.lst [lp w, lp v2]) → bd 16 w → pm (det w v2) → gIf (sT (sBin oEq (sCall f__law_draw (lCons (sVar 0) (lCons (sC (.int 2)) lNil))) (sC (.int 0)))) (gPutL 2 (sC (.int 0)) (sF (fComp (iSeq (sBin oIx (sVar 2) (sC (.int 0)))) (tgN 9) bYes (sUn oNeg (sVar 9)) [9]))) gNext (eT j T2.length o3 o4 o5 o6 none none none none) (T2 ++ [.lst [lp u2, lp v2]]) = .nx (eT j T2.length o3 o4 o5 o6 none none none none) T5 → ∃ u v S', f__law_some_turn [.o j, .d (.int 2)] S = .ok (.d (.tup [pt u, pt v])) S' ∧ bd 16 u ∧ bd 16 v ∧ pm (det u v) ∧ Sj j S S' ∧ Dr S' j (b + 20) := fun {w T5} L5 g5 hw hdw e5 => by
    have c : fComp (iSeq (sVar 2)) (tgN 9) bYes (sUn oTuple (sVar 9)) [9] (eT j T2.length o3 o4 o5 o6 none none none none) T5 = .ok [pt w, pt v2] (T5.set T2.length .gone) := by
      have e := comp_pure (vs := [9]) (G := tgN 9) (t := bYes) (f := sUn oTuple (sVar 9)) (fun _ => true) (fun d => (oTuple d).getD .non) (iSeq_o (sVar_ok (i := 2) (en := eT j T2.length o3 o4 o5 o6 none none none none) (m := T5) rfl) g5) (by simp) (fun d acc hd => by
        have : d = lp w ∨ d = lp v2 := by simpa using hd
        rcases this with rfl | rfl <;> exact ⟨_, rfl, rfl, fun _ => sUn_ok (sVar_ok rfl) rfl rfl⟩)
      rw [e]
      rfl
    have nw : gNew 2 (fComp (iSeq (sCall f__law_shuffled (lCons (sVar 0) (lCons (sVar 1) lNil)))) (tgN 7) bYes (sBin oIx (sVar 2) (sVar 7)) [7]) (eT j S.length o3 o4 o5 o6 none none none none) T1 = .nx (eT j T2.length o3 o4 o5 o6 none none none none) (T2 ++ [.lst [lp u2, lp v2]]) := gNew_ok c2
    have r := fn_d (ns := 11) (np := 2) (ws := [.o j, .d (.int 2)]) (m := S) rfl ((gSeq_ok p).trans ((gSeq_ok ((gFor_ok it).trans el)).trans ((gSeq_ok nw).trans ((gSeq_ok e5).trans (gRet_ok (sUn_ok (up := oTuple) (d := .tup [pt w, pt v2]) (sF_ok c) rfl rfl))))))
    have L6 := L5.put hj ln2 .gone
    exact ⟨w, v2, _, r, hw, hv2, hdw, L6.x.cut, (L6.d.cut hj).mono (by omega)⟩
  by_cases hr : r = 0
  · rw [decide_eq_true hr] at t4
    have c : fComp (iSeq (sBin oIx (sVar 2) (sC (.int 0)))) (tgN 9) bYes (sUn oNeg (sVar 9)) [9] (eT j T2.length o3 o4 o5 o6 none none none none) T4 = .ok [.int (neg u2).1, .int (neg u2).2] T4 := by
      have e := comp_pure (vs := [9]) (G := tgN 9) (t := bYes) (f := sUn oNeg (sVar 9)) (fun _ => true) (fun d => match d with | .int k => .int (-k) | _ => .non) (iSeq_d (ix_o (en := eT j T2.length o3 o4 o5 o6 none none none none) (sVar_ok (i := 2) rfl) (sC_ok (.int 0)) g4 (d := lp u2) rfl)) (by simp) (fun d acc hd => by
        rcases ints2 hd with rfl | rfl <;> exact ⟨_, rfl, rfl, fun _ => neg_i (sVar_ok rfl)⟩)
      rw [e]
      rfl
    refine fin (w := neg u2) ((L4.put hj ln2 _).mono (by omega)) (get_set g4) ⟨by have := hu2.1; unfold neg; simp only; omega, by have := hu2.2; unfold neg; simp only; omega⟩ (by rw [det_neg]; exact pm_neg hd2) ((gIf_t t4).trans ?_)
    exact gPutL_ok (l := 0) (sF_ok c) rfl (sC_ok _) g4 (by decide) (by simp)
  · rw [decide_eq_false hr] at t4
    exact fin (w := u2) (L4.mono (by omega)) g4 hu2 hd2 ((gIf_f t4).trans rfl)
end
theorem v_moved {t l v : P} (ht : bd 16 t) (hl : bd 16 l) (m : Store) : f__law_moved [.d (pt v), .d (.tup [pt t, pt l]), .d (.tup [.int 0, .int 0])] m = .ok (.d (pt (lin t l v))) m := by
  have inner : ∀ (w : P), bd 16 w → ∀ (o1 o2 o4 o5 o6 : Option Sv) (M : Store), fComp (EvL.iZip (sVar 3) (sVar 0)) (tgTup 2 (tgCons (tgN 5) (tgCons (tgN 6) tgNil))) bYes (sBin oMulP (sVar 5) (sVar 6)) [5, 6] [some (.d (pt v)), o1, o2, some (.d (pt w)), o4, o5, o6] M = .ok [.int (w.1 * v.1), .int (w.2 * v.2)] M := fun w hw o1 o2 o4 o5 o6 M => by
    have e := comp_pure (vs := [5, 6]) (G := tgTup 2 (tgCons (tgN 5) (tgCons (tgN 6) tgNil))) (t := bYes) (f := sBin oMulP (sVar 5) (sVar 6)) (fun _ => true) (fun d => match d with | .tup [.int x, .int y] => .int (x * y) | _ => .non) (iZip_t (sVar_ok (i := 3) (en := [some (.d (pt v)), o1, o2, some (.d (pt w)), o4, o5, o6]) (m := M) rfl) (sVar_ok (i := 0) rfl)) (by simp [pairs]) (fun d acc hd => by
      obtain ⟨x, y, rfl, hx⟩ : ∃ x y : Int, d = .tup [.int x, .int y] ∧ x.natAbs ≤ 16 := by
        simp [pairs] at hd
        rcases hd with rfl | rfl
        · exact ⟨_, _, rfl, hw.1⟩
        · exact ⟨_, _, rfl, hw.2⟩
      exact ⟨_, rfl, rfl, fun _ => mul_i (sVar_ok rfl) (sVar_ok rfl) (m64 (by omega))⟩)
    rw [e]
    rfl
  have e := comp_pure (vs := [3, 4]) (G := tgTup 2 (tgCons (tgN 3) (tgCons (tgN 4) tgNil))) (t := bYes) (f := sBin oAddP (sUn oSumP (sF (fComp (EvL.iZip (sVar 3) (sVar 0)) (tgTup 2 (tgCons (tgN 5) (tgCons (tgN 6) tgNil))) bYes (sBin oMulP (sVar 5) (sVar 6)) [5, 6]))) (sVar 4)) (fun _ => true) (fun d => match d with | .tup [w, .int k] => .int ((toP w).1 * v.1 + (toP w).2 * v.2 + k) | _ => .non) (iZip_t (sVar_ok (i := 1) (en := start0 7 [.d (pt v), .d (.tup [pt t, pt l]), .d (.tup [.int 0, .int 0])]) (m := m) rfl) (sVar_ok (i := 2) rfl)) (by simp [pairs]) (fun d acc hd => by
    obtain ⟨w, rfl, hw⟩ : ∃ w : P, d = .tup [pt w, .int 0] ∧ bd 16 w := by
      simp [pairs] at hd
      rcases hd with rfl | rfl
      · exact ⟨t, rfl, ht⟩
      · exact ⟨l, rfl, hl⟩
    refine ⟨_, rfl, rfl, fun _ => add_i (sUn_ok (sF_ok (inner w hw _ _ _ _ _ _)) rfl ?_) (sVar_ok rfl)⟩
    show some (Dv.int (w.1 * v.1 + (w.2 * v.2 + 0))) = _
    rw [Int.add_zero]
    rfl)
  refine fin_d rfl (gRet_ok (sUn_ok (up := oTuple) (sF_ok e) rfl ?_))
  show some (Dv.tup [.int (t.1 * v.1 + t.2 * v.2 + 0), .int (l.1 * v.1 + l.2 * v.2 + 0)]) = _
  rw [Int.add_zero, Int.add_zero]
  rfl
end K59
end

section
set_option Elab.async false
set_option linter.all false
set_option maxRecDepth 100000
set_option maxHeartbeats 4000000
/-! RJ: a round drawn -/
namespace K59
open PySem PySem.Spec PyProof.Rows L2 EvL EvH RdP
theorem free_ints : ∀ C : List Int, lamFreeL (C.map .int) = true
  | [] => rfl
  | x :: C => by
    rw [List.map_cons]
    unfold lamFreeL lamFree
    rw [free_ints C]
    rfl
/-- the draws stand at j, and no lambda is in the store -/
structure DF (S : Store) (j : Nat) (b : Int) : Prop where
  dr : Dr S j b
  fr : S.all freeSo = true
theorem dk_free (L S : Int) (C : List Int) (p : Int) : freeSo (.dic (dk L S C p)) = true := by
  show lamFreeK _ = true
  unfold dk
  simp only [lamFreeK, lamFree, free_ints, Bool.and_self]
theorem DF.step {S S' : Store} {j : Nat} {b b' : Int} (h : DF S j b) (s : Sj j S S') (d : Dr S' j b') : DF S' j b' := by
  refine ⟨d, List.all_eq_true.mpr fun x hx => ?_⟩
  obtain ⟨i, hi⟩ := List.getElem?_of_mem hx
  by_cases e : i = j
  · subst e
    obtain ⟨L, Sd, C, p, q, _⟩ := d
    rw [q] at hi
    cases hi
    exact dk_free _ _ _ _
  · rw [s.at_ i e] at hi
    exact List.all_eq_true.mp h.fr x (List.mem_of_getElem? hi)
theorem DF.mono {S : Store} {j : Nat} {b c : Int} (h : DF S j b) (hc : b ≤ c) : DF S j c := ⟨h.dr.mono hc, h.fr⟩
section
variable {S : Store} {i j : Nat} {b : Int} {en : En}
theorem d_draw {span : Int} {f : Sem1} (h : DF S j b) (hb : b < 1000000) (hs : 1 ≤ span) (hs2 : span < 1152921504606846976) (h0 : en[i]? = some (some (.o j))) (hf : f en S = .ok (.d (.int span)) S) : ∃ r S', sCall f__law_draw (lCons (sVar i) (lCons f lNil)) en S = .ok (.d (.int r)) S' ∧ 0 ≤ r ∧ r < span ∧ Sj j S S' ∧ DF S' j (b + 1) := by
  obtain ⟨r, S', e, h1, h2, h3, h4⟩ := draw_ok h.dr hb hs hs2
  rw [← e_draw] at e
  exact ⟨r, S', sCall_ok (lCons_ok (sVar_ok h0) (lCons_ok hf lNil_ok)) e, h1, h2, h3, h.step h3 h4⟩
theorem d_of {xs : List Dv} {f : Sem1} (h : DF S j b) (hb : b < 1000000) (hx : xs ≠ []) (hx2 : xs.length < 1000000) (h0 : en[i]? = some (some (.o j))) (hf : f en S = .ok (.d (.lst xs)) S) : ∃ x S', x ∈ xs ∧ sCall f__law_of (lCons (sVar i) (lCons f lNil)) en S = .ok (.d x) S' ∧ Sj j S S' ∧ DF S' j (b + 1) := by
  obtain ⟨k, x, S', hk, e, h3, h4⟩ := of_ok h.dr hb hx hx2
  rw [← e_of] at e
  exact ⟨x, S', List.mem_of_getElem? hk, sCall_ok (lCons_ok (sVar_ok h0) (lCons_ok hf lNil_ok)) e, h3, h.step h3 h4⟩
end
theorem fnS_dr {ns np : Nat} {g : SemS} {ws : List Sv} {S S' : Store} {d : Dv} {j : Nat} (hn : ws.length = np) (s : Sj j S S') (hg : g (start0 ns ws) S = .rt (.d d) S') : fnS ns np g ws S = .ok (.d d) S' := by
  rw [fn_d hn hg, ← s.len, take_self]
theorem fnL_dr {ns np : Nat} {g : SemS} {ws : List Sv} {S S' : Store} {d : Dv} {j : Nat} (hn : ws.length = np) (s : Sj j S S') (hf : lamFree d = true) (hm : S'.all freeSo = true) (hg : g (start0 ns ws) S = .rt (.d d) S') : fnSL ns np g ws S = .ok (.d d) S' := by
  have e : S'.take S.length = S' := by rw [← s.len, take_self]
  rw [fnL_d hn hg hf (by rw [e]; exact hm), e]

theorem cut_take {α : Type} {xs : List α} {k : Nat} {i : Int} (hi : i = k) (h : k ≤ xs.length) : EvL.cutD xs none (some i) = xs.take k := by
  subst hi
  unfold EvL.cutD
  rw [HT.sIx_nat, HT.sIx_none, Nat.min_eq_left h]
  simp
theorem cut_drop {α : Type} {xs : List α} {k : Nat} {i : Int} (hi : i = k) (h : k ≤ xs.length) : EvL.cutD xs (some i) none = xs.drop k := by
  subst hi
  unfold EvL.cutD
  rw [HT.sIx_nat, HT.sIx_none, Nat.min_eq_left h]
  exact List.take_of_length_le (by simp)
theorem sl_take {f : Sem1} {oh : SemO} {en : En} {m : Store} {xs : List Dv} {k : Nat} {i : Int} (hi : i = k) (h : k ≤ xs.length) (hf : f en m = .ok (.d (.tup xs)) m) (hh : oh en m = .ok (some i) m) : sSlP f oNo oh en m = .ok (.d (.tup (xs.take k))) m := by
  rw [← cut_take hi h]
  exact slT_ok hf rfl hh
theorem sl_drop {f : Sem1} {ol : SemO} {en : En} {m : Store} {xs : List Dv} {k : Nat} {i : Int} (hi : i = k) (h : k ≤ xs.length) (hf : f en m = .ok (.d (.tup xs)) m) (hh : ol en m = .ok (some i) m) : sSlP f ol oNo en m = .ok (.d (.tup (xs.drop k))) m := by
  rw [← cut_drop hi h]
  exact slT_ok hf hh rfl
theorem addT {f g : Sem1} {en : En} {m m1 m2 : Store} {xs ys : List Dv} (h1 : f en m = .ok (.d (.tup xs)) m1) (h2 : g en m1 = .ok (.d (.tup ys)) m2) (h : xs.length + ys.length ≤ 1000) : sBin oAddP f g en m = .ok (.d (.tup (xs ++ ys))) m2 := sBin_ok h1 h2 rfl rfl (cat_t h)
theorem rep_T {xs : List Dv} {d : Nat} (h : 1 ≤ d ∧ d ≤ 1000) (hx : xs ≠ []) (hl : xs.length ≤ 1000) : oMulP (.tup xs) (.int d) = some (.tup (List.replicate d xs).flatten) := by
  by_cases h1 : d = 1
  · subst h1
    show some (Dv.tup xs) = _
    simp
  · have c : (decide ((2 : Int) ≤ d) && decide ((d : Int) ≤ 1000) && decide (xs.length ≤ 1000) && !xs.isEmpty) = true := by
      simp
      refine ⟨⟨⟨by omega, by omega⟩, hl⟩, hx⟩
    have e1 : (oRep1 (.tup xs) (.int d)) = none := by simp [oRep1]; omega
    show (match (none : Option Dv) with | some d => some d | none => orO oRep1 (orO oRepT (frO oRepL)) (.tup xs) (.int d)) = _
    simp only [orO, e1, oRepT, if_pos c, Int.toNat_natCast]
theorem rep_fl (L : List P) : ∀ n : Nat, (List.replicate (n + 1) (L.map pt)).flatten = (rep L n).map pt
  | 0 => by simp [rep]
  | n + 1 => by
    rw [List.replicate_succ, List.flatten_cons, rep_fl L n]
    simp [rep]
/-- bounds as rounds grow -/
def gb : Nat → Nat × Nat
  | 0 => (3, 4)
  | n + 1 => ((gb n).2, (gb n).1 + (gb n).2)
theorem gb_le : ∀ n, (gb n).1 ≤ (gb n).2
  | 0 => by decide
  | n + 1 => by simp only [gb]; omega
abbrev eR (j : Nat) (o1 o2 o3 o4 o5 o6 o7 o8 o9 : Option Sv) : En := [some (.o j), o1, o2, o3, o4, o5, o6, o7, o8, o9]
abbrev gB : SemS := (gSeq (gSet 4 (sCall f__law_draw (lCons (sVar 0) (lCons (sUn oLen (sVar 2)) lNil)))) (gSeq (gPar 5 6 (lCons (sBin oIx (sVar 2) (sVar 4)) (lCons (sBin oIx (sBin oAddP (sVar 2) (sSlP (sVar 2) oNo (oYes (sC (.int 1))))) (sBin oAddP (sVar 4) (sC (.int 1)))) lNil))) (gSet 2 (sBin oAddP (sBin oAddP (sSlP (sVar 2) oNo (oYes (sBin oAddP (sVar 4) (sC (.int 1))))) (sTup (lCons (sTup (lCons (sBin oAddP (sBin oIx (sVar 5) (sC (.int 0))) (sBin oIx (sVar 6) (sC (.int 0)))) (lCons (sBin oAddP (sBin oIx (sVar 5) (sC (.int 1))) (sBin oIx (sVar 6) (sC (.int 1)))) lNil))) lNil))) (sSlP (sVar 2) (oYes (sBin oAddP (sVar 4) (sC (.int 1)))) oNo)))))
section
variable {S T m : Store} {j k : Nat} {b : Int} {en : En}
theorem at_nx {L : List P} {k : Nat} (hk : k < L.length) : atI (L.map pt ++ (L.map pt).take 1) ((k : Int) + 1) = some (pt (at_ (L ++ [at_ L 0]) (k + 1))) := by
  have hn : L ≠ [] := fun z => by rw [z] at hk; simp at hk
  rw [← List.map_take, take1 hn, ← List.map_append]
  exact atI_n (by omega) (by rw [show ((k : Int) + 1).toNat = k + 1 by omega]; exact pt_at (by simp; omega))
theorem at_k {L : List P} {k : Nat} (hk : k < L.length) : atI (L.map pt) (k : Int) = some (pt (at_ L k)) := atI_n (by omega) (by rw [show ((k : Int)).toNat = k by omega]; exact pt_at hk)
theorem len_en {L : List P} {en : En} {m : Store} {i : Nat} (h : en[i]? = some (some (.d (en_ L)))) : sUn oLen (sVar i) en m = .ok (.d (.int L.length)) m := by
  have := len_t (m := m) (sVar_ok (i := i) (x := .d (en_ L)) h)
  rw [List.length_map] at this
  exact this
theorem gB_ok {L : List P} {a s : Nat} (h : DF T j b) (hb : b < 900000) (g : Gr a s L) (hs : a ≤ s) (h3 : 3 ≤ L.length) (hl : L.length ≤ 20) (o1 o3 o4 o5 o6 o7 o8 o9 : Option Sv) : ∃ L' o4' o5' o6' T', gB (eR j o1 (some (.d (en_ L))) o3 o4 o5 o6 o7 o8 o9) T = .nx (eR j o1 (some (.d (en_ L'))) o3 o4' o5' o6' o7 o8 o9) T' ∧ Sj j T T' ∧ DF T' j (b + 1) ∧ Gr s (a + s) L' ∧ L'.length = L.length + 1 := by
  obtain ⟨x, T1, e1, x0, x1, s1, d1⟩ := d_draw (i := 0) (en := eR j o1 (some (.d (en_ L))) o3 o4 o5 o6 o7 o8 o9) (f := sUn oLen (sVar 2)) (span := L.length) h (by omega) (by omega) (by omega) rfl (len_en rfl)
  obtain ⟨k, rfl⟩ := Int.eq_ofNat_of_zero_le x0
  have hk : k < L.length := by omega
  have ln : (L.map pt).length = L.length := by simp
  have e1' := gSet_ok (i := 4) e1
  let E := eR j o1 (some (.d (en_ L))) o3 (some (.d (.int (k : Nat)))) o5 o6 o7 o8 o9
  have v2 : ∀ E : En, E[2]? = some (some (.d (en_ L))) → sVar 2 E T1 = .ok (.d (.tup (L.map pt))) T1 := fun E h => sVar_ok h
  have p := gPar_ok (i := 5) (j := 6) (en := E) (lCons_ok (ix_t (v2 _ rfl) (sVar_ok (i := 4) rfl) (at_k hk)) (lCons_ok (ix_t (addT (v2 _ rfl) (sl_take (k := 1) (i := 1) rfl (by rw [ln]; omega) (v2 _ rfl) (oYes_ok (sC_ok (.int 1)))) (by simp; omega)) (add_i (sVar_ok (i := 4) rfl) (sC_ok (.int 1))) (at_nx hk)) lNil_ok))
  generalize hu : at_ L k = u at p
  generalize hw : at_ (L ++ [at_ L 0]) (k + 1) = w at p
  let E2 := eR j o1 (some (.d (en_ L))) o3 (some (.d (.int (k : Nat)))) (some (.d (pt u))) (some (.d (pt w))) o7 o8 o9
  have y : oYes (sBin oAddP (sVar 4) (sC (.int 1))) E2 T1 = .ok (some ((k : Int) + 1)) T1 := oYes_ok (add_i (sVar_ok (i := 4) rfl) (sC_ok (.int 1)))
  have t1 := sl_take (f := sVar 2) (k := k + 1) (by omega) (by rw [ln]; omega) (v2 E2 rfl) y
  have t2 := sl_drop (f := sVar 2) (k := k + 1) (by omega) (by rw [ln]; omega) (v2 E2 rfl) y
  have md : sTup (lCons (sTup (lCons (sBin oAddP (sBin oIx (sVar 5) (sC (.int 0))) (sBin oIx (sVar 6) (sC (.int 0)))) (lCons (sBin oAddP (sBin oIx (sVar 5) (sC (.int 1))) (sBin oIx (sVar 6) (sC (.int 1)))) lNil))) lNil) E2 T1 = .ok (.d (.tup [pt (mid u w)])) T1 := tup1 (tup2 (add_i (ix_t (sVar_ok (i := 5) (x := .d (pt u)) rfl) (sC_ok _) rfl) (ix_t (sVar_ok (i := 6) (x := .d (pt w)) rfl) (sC_ok _) rfl)) (add_i (ix_t (sVar_ok (i := 5) (x := .d (pt u)) rfl) (sC_ok _) rfl) (ix_t (sVar_ok (i := 6) (x := .d (pt w)) rfl) (sC_ok _) rfl)))
  have gg := g.raise hs hk
  rw [hu, hw] at gg
  have st := gSet_ok (i := 2) (addT (addT t1 md (by simp; omega)) t2 (by simp; omega))
  have eL : (L.map pt).take (k + 1) ++ [pt (mid u w)] ++ (L.map pt).drop (k + 1) = (L.take (k + 1) ++ mid u w :: L.drop (k + 1)).map pt := by simp
  rw [eL] at st
  refine ⟨L.take (k + 1) ++ mid u w :: L.drop (k + 1), some (.d (.int (k : Nat))), some (.d (pt u)), some (.d (pt w)), T1, (gSeq_ok e1').trans ((gSeq_ok p).trans st), s1, d1, gg, by simp; omega⟩
theorem base3 : Gr 3 4 [(1, 0), (0, 1), (-1, -1)] := ⟨by simp, by unfold bd; decide, by simp only [List.cons_append, List.nil_append, at_, adj, RdP.Rs]; decide⟩
theorem base4 {k : Int} (h : -3 ≤ k ∧ k ≤ 3) : Gr 3 4 [(1, 0), (0, 1), (-1, k), (0, -1)] := by
  refine ⟨by simp, ?_, ?_⟩
  · refine am_cons ?_ (am_cons ?_ (am_cons ?_ (am_cons ?_ am_nil))) <;> unfold bd <;> simp only <;> omega
  · simp only [List.cons_append, List.nil_append, at_, adj, RdP.Rs, RdP.det, List.getD_cons_zero]
    refine ⟨⟨by omega, by omega, by omega⟩, ⟨by omega, by omega, by omega⟩, ⟨by omega, by omega, by omega⟩, ⟨by omega, by omega, by omega⟩, trivial⟩
theorem v_round (h : DF S j b) (hb : b < 700000) : ∃ L S', f__law_some_round [.o j] S = .ok (.d (en_ L)) S' ∧ Rd L ∧ Sj j S S' ∧ DF S' j (b + 40) := by
  obtain ⟨r, S1, e1, r0, r1, s1, d1⟩ := d_draw (i := 0) (en := start0 10 [.o j]) (f := sC (.int 7)) (span := 7) h (by omega) (by decide) (by decide) rfl (sC_ok _)
  have q1 := gSet_ok (i := 1) (sub_i e1 (sC_ok (.int 3)))
  generalize hk : r - 3 = k at q1
  let E1 := eR j (some (.d (.int k))) none none none none none none none none
  have n1 : ∀ E S, sUn oNeg (sC (.int 1)) E S = .ok (.d (.int (-1))) S := fun E S => neg_i (sC_ok _)
  have q2 : sF (fLst (lCons (sTup (lCons (sTup (lCons (sC (.int 1)) (lCons (sC (.int 0)) lNil))) (lCons (sTup (lCons (sC (.int 0)) (lCons (sC (.int 1)) lNil))) (lCons (sTup (lCons (sUn oNeg (sC (.int 1))) (lCons (sUn oNeg (sC (.int 1))) lNil))) lNil)))) (lCons (sTup (lCons (sTup (lCons (sC (.int 1)) (lCons (sC (.int 0)) lNil))) (lCons (sTup (lCons (sC (.int 0)) (lCons (sC (.int 1)) lNil))) (lCons (sTup (lCons (sUn oNeg (sC (.int 1))) (lCons (sVar 1) lNil))) (lCons (sTup (lCons (sC (.int 0)) (lCons (sUn oNeg (sC (.int 1))) lNil))) lNil))))) lNil))) E1 S1 = .ok (.d (.lst [en_ [(1, 0), (0, 1), (-1, -1)], en_ [(1, 0), (0, 1), (-1, k), (0, -1)]])) S1 :=
    sF_ok (lst_ok (lCons_ok (tup3 (tup2 (sC_ok _) (sC_ok _)) (tup2 (sC_ok _) (sC_ok _)) (tup2 (n1 _ _) (n1 _ _))) (lCons_ok (tup_ok (lCons_ok (tup2 (sC_ok _) (sC_ok _)) (lCons_ok (tup2 (sC_ok _) (sC_ok _)) (lCons_ok (tup2 (n1 _ _) (sVar_ok (i := 1) rfl)) (lCons_ok (tup2 (sC_ok _) (n1 _ _)) lNil_ok)))) rfl rfl) lNil_ok)) rfl rfl)
  obtain ⟨x, S2, hx, e2, s2, d2⟩ := d_of (i := 0) (en := E1) d1 (by omega) (by simp) (by simp) rfl q2
  obtain ⟨L, rfl, g0, l3, l4⟩ : ∃ L, x = en_ L ∧ Gr 3 4 L ∧ 3 ≤ L.length ∧ L.length ≤ 4 := by
    have : x = en_ [(1, 0), (0, 1), (-1, -1)] ∨ x = en_ [(1, 0), (0, 1), (-1, k), (0, -1)] := by simpa using hx
    rcases this with rfl | rfl
    · exact ⟨_, rfl, base3, by decide, by decide⟩
    · exact ⟨_, rfl, base4 (by omega), by simp, by simp⟩
  have q3 := gSet_ok (i := 2) e2
  let E2 := eR j (some (.d (.int k))) (some (.d (en_ L))) none none none none none none none
  obtain ⟨n, S3, e3, n0, n1', s3, d3⟩ := d_draw (i := 0) (en := E2) (f := sC (.int 6)) (span := 6) d2 (by omega) (by decide) (by decide) rfl (sC_ok _)
  obtain ⟨en', S4, el, ⟨M, o3, o4, o5, o6, rfl, gM, m3, m4⟩, s4, d4⟩ := loop_nx (G := tgN 3) (body := gB) (xs := rng 0 n) (fun i en T => (∃ M o3 o4 o5 o6, en = eR j (some (.d (.int k))) (some (.d (en_ M))) o3 o4 o5 o6 none none none ∧ Gr (gb i).1 (gb i).2 M ∧ 3 ≤ M.length ∧ M.length ≤ 4 + i) ∧ Sj j S3 T ∧ DF T j (b + 3 + i)) (fun i y en T hy ⟨⟨M, o3, o4, o5, o6, hen, gM, m3, m4⟩, sT, dT⟩ => by
    subst hen
    obtain ⟨rfl, hi⟩ := rng_get hy
    obtain ⟨M', o4', o5', o6', T', e, s', d', g', l'⟩ := gB_ok dT (by omega) gM (gb_le i) m3 (by omega) (some (.d (.int k))) (some (.d (.int (0 + i)))) o4 o5 o6 none none none
    exact ⟨_, rfl, _, _, .inl e, ⟨M', _, _, _, _, rfl, g', by omega, by omega⟩, sT.trans s', d'.mono (by omega)⟩) (en := E2) (m := S3) ⟨⟨L, _, _, _, _, rfl, g0, l3, by omega⟩, .refl _ _, d3.mono (by omega)⟩
  rw [rng_len] at gM m4 d4
  have hn5 : (n - 0).toNat ≤ 5 := by omega
  generalize (n - 0).toNat = c at gM m4 d4 hn5
  have gbc : (gb c).1 ≤ 31 := by
    have : ∀ c : Nat, c ≤ 5 → (gb c).1 ≤ 31 := by decide
    exact this c hn5
  have q4 := (gFor_ok (iRange1_ok e3 (by omega) (by omega))).trans el
  -- more rounds
  obtain ⟨w, S5, e5, w0, w1, s5, d5⟩ := d_draw (i := 0) (en := eR j (some (.d (.int k))) (some (.d (en_ M))) o3 o4 o5 o6 none none none) (f := sC (.int 3)) (span := 3) d4 (by omega) (by decide) (by decide) rfl (sC_ok _)
  obtain ⟨t, rfl⟩ := Int.eq_ofNat_of_zero_le w0
  have ht : t ≤ 2 := by omega
  obtain ⟨_, _, rn, rl, _⟩ := rep_ok gM.cl gM.ne t
  have lR : (rep M t).length ≤ 27 := by
    rw [rl]
    exact Nat.le_trans (Nat.mul_le_mul (Nat.succ_le_succ ht) (show M.length ≤ 9 by omega)) (by decide)
  have lR1 : 1 ≤ (rep M t).length := List.length_pos_iff.mpr rn
  have q5 : gSet 2 (sBin oMulP (sVar 2) (sBin oAddP (sC (.int 1)) (sCall f__law_draw (lCons (sVar 0) (lCons (sC (.int 3)) lNil))))) (eR j (some (.d (.int k))) (some (.d (en_ M))) o3 o4 o5 o6 none none none) S4 = .nx (eR j (some (.d (.int k))) (some (.d (en_ (rep M t)))) o3 o4 o5 o6 none none none) S5 := by
    refine gSet_ok (sBin_ok (sVar_ok (i := 2) rfl) (add_i (sC_ok (.int 1)) e5) rfl rfl ?_)
    have := rep_T (xs := M.map pt) (d := t + 1) ⟨by omega, by omega⟩ (by simpa using gM.ne) (by simp; omega)
    rw [rep_fl] at this
    rw [show (1 : Int) + (t : Nat) = ((t + 1 : Nat) : Int) by omega]
    exact this
  -- where to begin, and the basis
  obtain ⟨at', S6, e6, a0, a1, s6, d6⟩ := d_draw (i := 0) (en := eR j (some (.d (.int k))) (some (.d (en_ (rep M t)))) o3 o4 o5 o6 none none none) (f := sUn oLen (sVar 2)) (span := (rep M t).length) d5 (by omega) (by omega) (by omega) rfl (len_en rfl)
  obtain ⟨p, rfl⟩ := Int.eq_ofNat_of_zero_le a0
  obtain ⟨u, v, S7, e7, hu, hv, hd, s7, d7⟩ := v_turn d6.dr (by omega)
  have f7 : DF S7 j (b + 39) := (d6.step s7 d7).mono (by omega)
  have q6 : gAsg (sTup (lCons (sCall f__law_draw (lCons (sVar 0) (lCons (sUn oLen (sVar 2)) lNil))) (lCons (sCall f__law_some_turn (lCons (sVar 0) (lCons (sC (.int 2)) lNil))) lNil))) (tgTup 2 (tgCons (tgN 4) (tgCons (tgTup 2 (tgCons (tgN 7) (tgCons (tgN 8) tgNil))) tgNil))) (eR j (some (.d (.int k))) (some (.d (en_ (rep M t)))) o3 o4 o5 o6 none none none) S5 = .nx (eR j (some (.d (.int k))) (some (.d (en_ (rep M t)))) o3 (some (.d (.int (p : Nat)))) o5 o6 (some (.d (pt u))) (some (.d (pt v))) none) S7 :=
    gAsg_ok (tup2 e6 (call2 (sVar_ok (i := 0) rfl) (sC_ok _) e7)) rfl
  have b16 : ∀ {x : P}, bd 16 x → x.1.natAbs < 2 ^ 60 ∧ x.2.natAbs < 2 ^ 60 := fun q => ⟨by have := q.1; omega, by have := q.2; omega⟩
  have tt := lt_i (en := eR j (some (.d (.int k))) (some (.d (en_ (rep M t)))) o3 (some (.d (.int (p : Nat)))) o5 o6 (some (.d (pt u))) (some (.d (pt v))) none) (call2 (sVar_ok (i := 7) rfl) (sVar_ok (i := 8) rfl) (v_of_two (u := u) (v := v) (b16 hu).1 (b16 hu).2 S7)) (sC_ok (.int 0))
  have st := ((((((s1.trans s2).trans s3).trans s4).trans s5).trans s6).trans s7)
  have fin : ∀ {t0 l0 : P}, bd 16 t0 → bd 16 l0 → det t0 l0 = 1 → gIf (sT (sBin oLt (sCall f__law_of_two (lCons (sVar 7) (lCons (sVar 8) lNil))) (sC (.int 0)))) (gAsg (sTup (lCons (sVar 8) (lCons (sVar 7) lNil))) (tgTup 2 (tgCons (tgN 7) (tgCons (tgN 8) tgNil)))) gNext (eR j (some (.d (.int k))) (some (.d (en_ (rep M t)))) o3 (some (.d (.int (p : Nat)))) o5 o6 (some (.d (pt u))) (some (.d (pt v))) none) S7 = .nx (eR j (some (.d (.int k))) (some (.d (en_ (rep M t)))) o3 (some (.d (.int (p : Nat)))) o5 o6 (some (.d (pt t0))) (some (.d (pt l0))) none) S7 → ∃ L S', f__law_some_round [.o j] S = .ok (.d (en_ L)) S' ∧ Rd L ∧ Sj j S S' ∧ DF S' j (b + 40) := fun {t0 l0} ht0 hl0 hd0 q7 => by
    obtain ⟨z1, z2, z3⟩ := grown gM gbc m3 (by omega) ht (k := p) ht0 hl0 hd0
    let E := eR j (some (.d (.int k))) (some (.d (en_ (rep M t)))) o3 (some (.d (.int (p : Nat)))) o5 o6 (some (.d (pt t0))) (some (.d (pt l0))) none
    have ln : ((rep M t).map pt).length = (rep M t).length := by simp
    have v2 : sVar 2 E S7 = .ok (.d (.tup ((rep M t).map pt))) S7 := sVar_ok rfl
    have y : oYes (sVar 4) E S7 = .ok (some (p : Int)) S7 := oYes_ok (sVar_ok rfl)
    have it := iSeq_t (addT (sl_drop (f := sVar 2) (k := p) rfl (by rw [ln]; omega) v2 y) (sl_take (f := sVar 2) (k := p) rfl (by rw [ln]; omega) v2 y) (by simp; omega))
    have el : ((rep M t).map pt).drop p ++ ((rep M t).map pt).take p = ((rep M t).drop p ++ (rep M t).take p).map pt := by simp
    rw [el] at it
    generalize (rep M t).drop p ++ (rep M t).take p = N at it z1 z2 z3
    have z3' : N.length ≤ 60 := by simpa using z3
    have e := comp_pure (vs := [9]) (G := tgN 9) (t := bYes) (f := sCall f__law_moved (lCons (sVar 9) (lCons (sTup (lCons (sVar 7) (lCons (sVar 8) lNil))) (lCons (sTup (lCons (sC (.int 0)) (lCons (sC (.int 0)) lNil))) lNil)))) (fun _ => true) (fun d => pt (lin t0 l0 (toP d))) it (by simp; omega) (fun d acc hd => by
      obtain ⟨w, _, rfl⟩ := List.mem_map.mp hd
      exact ⟨_, rfl, rfl, fun _ => call3 (sVar_ok rfl) (tup2 (sVar_ok (i := 7) rfl) (sVar_ok (i := 8) rfl)) (tup2 (sC_ok _) (sC_ok _)) (v_moved ht0 hl0 _)⟩)
    rw [List.filter_eq_self.mpr fun _ _ => rfl, List.map_map, show ((fun d => pt (lin t0 l0 (toP d))) ∘ pt) = pt ∘ lin t0 l0 from rfl, ← List.map_map] at e
    refine ⟨N.map (lin t0 l0), S7, fnS_dr rfl st ?_, ⟨z1, z3, z2⟩, st, f7.mono (by omega)⟩
    exact (gSeq_ok q1).trans ((gSeq_ok q3).trans ((gSeq_ok q4).trans ((gSeq_ok q5).trans ((gSeq_ok q6).trans ((gSeq_ok q7).trans (gRet_ok (sUn_ok (up := oTuple) (d := en_ (N.map (lin t0 l0))) (sF_ok e) rfl rfl)))))))
  rcases hd with hd | hd
  · rw [hd] at tt
    exact fin hu hv hd ((gIf_f tt).trans rfl)
  · rw [hd] at tt
    exact fin hv hu (by rw [det_swap, hd]; rfl) ((gIf_t tt).trans (gAsg_ok (tup2 (sVar_ok (i := 8) rfl) (sVar_ok (i := 7) rfl)) rfl))
end
end K59
end

section
set_option Elab.async false
set_option linter.all false
set_option maxRecDepth 100000
set_option maxHeartbeats 4000000
/-! RK: what is refused; a thing bent -/
namespace K59
open PySem PySem.Spec PyProof.Rows L2 EvL EvH RdP
theorem bNot_ex {t : SemB} {en : En} {m m1 : Store} {x : Ex} (h : t en m = .ex x m1) : bNot t en m = .ex x m1 := by simp [bNot, Rs.bind, h]
/-- a round that is none -/
theorem p_place_lot {d q : Dv} (h : plA d = true) (hn : flt d ≠ .non) (m : Store) : f_need_place [.d d, .d q] m = .ex (xL d) m := by
  have e : sCall f_need_round (lCons (sVar 0) lNil) (start0 2 [.d d, .d q]) m = .ex (xL d) m := sCall_ex2 (lCons_ok (sVar_ok rfl) lNil_ok) (p_need_bad h hn m)
  refine fin_ex (en := start0 2 [.d d, .d q]) rfl (gSeq_ex (gIf_ex (bNot_ex (sT_ex (sCall_ex (lCons_ex2 (sVar_ok rfl) (lCons_ex2 (sC_ok _) (lCons_ex (sBin_ex (sUn_ex e)))))))))) 
theorem p_raised_lot {d q : Dv} (h : plA d = true) (hn : flt d ≠ .non) (m : Store) : f_round_raised [.d d, .d q] m = .ex (xL d) m :=
  fin_ex (en := start0 5 [.d d, .d q]) rfl (gSeq_ex (gExpr_ex (sCall_ex2 (lCons_ok (sVar_ok rfl) (lCons_ok (sVar_ok rfl) lNil_ok)) (p_place_lot h hn m))))
theorem p_lowered_lot {d q : Dv} (h : plA d = true) (hn : flt d ≠ .non) (m : Store) : f_round_lowered [.d d, .d q] m = .ex (xL d) m :=
  fin_ex (en := start0 2 [.d d, .d q]) rfl (gSeq_ex (gExpr_ex (sCall_ex2 (lCons_ok (sVar_ok rfl) (lCons_ok (sVar_ok rfl) lNil_ok)) (p_place_lot h hn m))))
theorem p_numbers_lot {d : Dv} (h : plA d = true) (hn : flt d ≠ .non) (m : Store) : f_round_numbers [.d d] m = .ex (xL d) m := by
  have e : sCall f_need_round (lCons (sVar 0) lNil) (start0 1 [.d d]) m = .ex (xL d) m := sCall_ex2 (lCons_ok (sVar_ok rfl) lNil_ok) (p_need_bad h hn m)
  exact fin_ex (en := start0 1 [.d d]) rfl (gRet_ex (sUn_ex (sCall_ex (lCons_ex e))))
theorem iSeq_ex {f : Sem1} {en : En} {m m1 : Store} {x : Ex} (h : f en m = .ex x m1) : iSeq f en m = .ex x m1 := by simp [iSeq, Rs.bind, h]
theorem p_turns_lot {d : Dv} (h : plA d = true) (hn : flt d ≠ .non) (m : Store) : f_turns_of [.d d] m = .ex (xL d) m := by
  have e : sCall f_need_round (lCons (sVar 0) lNil) (start0 3 [.d d]) m = .ex (xL d) m := sCall_ex2 (lCons_ok (sVar_ok rfl) lNil_ok) (p_need_bad h hn m)
  have c : fComp (iSeq (sCall f_next_pairs (lCons (sCall f_need_round (lCons (sVar 0) lNil)) lNil))) (tgTup 2 (tgCons (tgN 1) (tgCons (tgN 2) tgNil))) bYes (sCall f_goes_past (lCons (sVar 1) (lCons (sVar 2) lNil))) [1, 2] (start0 3 [.d d]) m = .ex (xL d) m := by
    have := iSeq_ex (sCall_ex (g := f_next_pairs) (lCons_ex (fl := lNil) e))
    simp [fComp, Rs.bind, this]
  exact fin_ex (en := start0 3 [.d d]) rfl (gRet_ex (sUn_ex (sF_ex c)))
/-- a place that is none -/
structure Odd (L : List P) (q : Dv) : Prop where
  ty : ty q = true
  no : fromD 0 ((L.length : Int) - 1) q = false
  sh : showX q = true
theorem p_place_odd {L : List P} {q : Dv} (h : Rd L) (o : Odd L q) (m : Store) : f_need_place [.d (en_ L), .d q] m = .ex ⟨0, some ("value", q)⟩ m := by
  have e : sCall f_need_round (lCons (sVar 0) lNil) (start0 2 [.d (en_ L), .d q]) m = .ok (.d (en_ L)) m := call1 (sVar_ok rfl) (h.need m)
  have ln : sUn oLen (sCall f_need_round (lCons (sVar 0) lNil)) (start0 2 [.d (en_ L), .d q]) m = .ok (.d (.int L.length)) m := by
    have := len_t e
    rw [List.length_map] at this
    exact this
  have t := bNot_ok (sT_ok (call3 (sVar_ok (i := 1) rfl) (sC_ok (.int 0)) (sub_i ln (sC_ok (.int 1))) (v_is_from o.ty m)))
  rw [o.no] at t
  refine fin_ex (en := start0 2 [.d (en_ L), .d q]) rfl (gSeq_ex ((gIf_t t).trans ?_))
  unfold gRaise
  rw [sVar_ok (i := 1) (x := .d q) rfl]
  simp only [Rs.st, frz_d, o.sh, if_true]
theorem p_raised_odd {L : List P} {q : Dv} (h : Rd L) (o : Odd L q) (m : Store) : f_round_raised [.d (en_ L), .d q] m = .ex ⟨0, some ("value", q)⟩ m :=
  fin_ex (en := start0 5 [.d (en_ L), .d q]) rfl (gSeq_ex (gExpr_ex (sCall_ex2 (lCons_ok (sVar_ok rfl) (lCons_ok (sVar_ok rfl) lNil_ok)) (p_place_odd h o m))))
theorem p_lowered_odd {L : List P} {q : Dv} (h : Rd L) (o : Odd L q) (m : Store) : f_round_lowered [.d (en_ L), .d q] m = .ex ⟨0, some ("value", q)⟩ m :=
  fin_ex (en := start0 2 [.d (en_ L), .d q]) rfl (gSeq_ex (gExpr_ex (sCall_ex2 (lCons_ok (sVar_ok rfl) (lCons_ok (sVar_ok rfl) lNil_ok)) (p_place_odd h o m))))
/-! bent -/
inductive Bt (w : Nat) : Nat → Dv → Prop
  | tup {p : Nat} {xs : List Dv} : (∀ x ∈ xs, Bt w p x) → xs.length ≤ w → Bt w (p + 1) (.tup xs)
  | leaf {p : Nat} {d : Dv} : plA d = true → isTy "tuple" d = false → Bt w p d
theorem Bt.pl {w p : Nat} {d : Dv} (h : Bt w p d) : plA d = true := by
  induction h with
  | tup _ _ ih =>
    unfold plA
    exact plL_iff.mpr ih
  | leaf h _ => exact h
theorem Bt.mono {w p : Nat} {d : Dv} (h : Bt w p d) : ∀ {w' p' : Nat}, w ≤ w' → p ≤ p' → Bt w' p' d := by
  induction h with
  | tup _ hl ih =>
    intro w' p' hw hp
    obtain ⟨q, rfl⟩ : ∃ q, p' = q + 1 := ⟨p' - 1, by omega⟩
    exact .tup (fun x hx => ih x hx hw (by omega)) (by omega)
  | leaf h h' => exact fun _ _ => .leaf h h'
theorem ne_empty (xs : List Dv) : orO oNe (oCmp0 (!·)) (.tup xs) (.tup []) = some (.bl (!xs.isEmpty)) := by
  unfold orO
  cases h : oNe (.tup xs) (.tup []) with
  | none => rfl
  | some d =>
    unfold oNe at h
    split at h
    · cases h
      have : PyData.eqv (cv (.tup xs)) (cv (.tup [])) = xs.isEmpty := by
        cases xs with
        | nil => rfl
        | cons x l =>
          unfold cv cvL
          first | rfl | simp [PyData.eqv]
      rw [this]
    · cases h
def leaves : List Dv := [.non, .bl true, .bl false, .int 0, .int 1, .int (-1), .int 2, .int 1000, .int 1001, .int (-1001), .str "1", .tup [], .tup [.int 0, .int 0], .tup [.int 1, .int 0], .tup [.int 0, .int 1], .tup [.int 1, .int 1, .int 1], .lst [.int 1, .int 0], .lst [], .dic []]
theorem bt_ints {w : Nat} {l : List Int} (h : l.length ≤ w) : Bt w 1 (.tup (l.map .int)) := .tup (fun x hx => by
  obtain ⟨i, rfl⟩ := ints_get hx
  exact .leaf rfl rfl) (by simpa using h)
theorem leaves_ok {w : Nat} (h : 3 ≤ w) : ∀ x ∈ leaves, Bt w 1 x := by
  refine am_cons (.leaf rfl rfl) (am_cons (.leaf rfl rfl) (am_cons (.leaf rfl rfl) (am_cons (.leaf rfl rfl) (am_cons (.leaf rfl rfl) (am_cons (.leaf rfl rfl) (am_cons (.leaf rfl rfl) (am_cons (.leaf rfl rfl) (am_cons (.leaf rfl rfl) (am_cons (.leaf rfl rfl) (am_cons (.leaf rfl rfl) (am_cons ?_ (am_cons ?_ (am_cons ?_ (am_cons ?_ (am_cons ?_ (am_cons (.leaf rfl rfl) (am_cons (.leaf rfl rfl) (am_cons (.leaf rfl rfl) am_nil))))))))))))))))))
  · exact bt_ints (l := []) (by simp)
  · exact bt_ints (l := [0, 0]) (by simp; omega)
  · exact bt_ints (l := [1, 0]) (by simp; omega)
  · exact bt_ints (l := [0, 1]) (by simp; omega)
  · exact bt_ints (l := [1, 1, 1]) (by simp; omega)
abbrev eB (j : Nat) (d : Dv) (o2 o3 : Option Sv) : En := [some (.o j), some (.d d), o2, o3]
section
variable {S T m : Store} {j k : Nat} {b : Int}
theorem bent_leaf {d : Dv} (h : DF T j b) (hb : b < 1000000) (o2 o3 : Option Sv) : ∃ x T', x ∈ leaves ∧ gRet (sCall f__law_of (lCons (sVar 0) (lCons (sF (fLst (lCons (sC .non) (lCons (sC (.bl true)) (lCons (sC (.bl false)) (lCons (sC (.int 0)) (lCons (sC (.int 1)) (lCons (sUn oNeg (sC (.int 1))) (lCons (sC (.int 2)) (lCons (sC (.int 1000)) (lCons (sC (.int 1001)) (lCons (sUn oNeg (sC (.int 1001))) (lCons (sC (.str "1")) (lCons (sTup lNil) (lCons (sTup (lCons (sC (.int 0)) (lCons (sC (.int 0)) lNil))) (lCons (sTup (lCons (sC (.int 1)) (lCons (sC (.int 0)) lNil))) (lCons (sTup (lCons (sC (.int 0)) (lCons (sC (.int 1)) lNil))) (lCons (sTup (lCons (sC (.int 1)) (lCons (sC (.int 1)) (lCons (sC (.int 1)) lNil)))) (lCons (sF (fLst (lCons (sC (.int 1)) (lCons (sC (.int 0)) lNil)))) (lCons (sF (fLst lNil)) (lCons (sC (.dic [])) lNil))))))))))))))))))))) lNil))) (eB j d o2 o3) T = .rt (.d x) T' ∧ Sj j T T' ∧ DF T' j (b + 1) := by
  have e : sF (fLst (lCons (sC .non) (lCons (sC (.bl true)) (lCons (sC (.bl false)) (lCons (sC (.int 0)) (lCons (sC (.int 1)) (lCons (sUn oNeg (sC (.int 1))) (lCons (sC (.int 2)) (lCons (sC (.int 1000)) (lCons (sC (.int 1001)) (lCons (sUn oNeg (sC (.int 1001))) (lCons (sC (.str "1")) (lCons (sTup lNil) (lCons (sTup (lCons (sC (.int 0)) (lCons (sC (.int 0)) lNil))) (lCons (sTup (lCons (sC (.int 1)) (lCons (sC (.int 0)) lNil))) (lCons (sTup (lCons (sC (.int 0)) (lCons (sC (.int 1)) lNil))) (lCons (sTup (lCons (sC (.int 1)) (lCons (sC (.int 1)) (lCons (sC (.int 1)) lNil)))) (lCons (sF (fLst (lCons (sC (.int 1)) (lCons (sC (.int 0)) lNil)))) (lCons (sF (fLst lNil)) (lCons (sC (.dic [])) lNil)))))))))))))))))))) (eB j d o2 o3) T = .ok (.d (.lst leaves)) T := rfl
  obtain ⟨x, T', hx, e1, s, dd⟩ := d_of (i := 0) (en := eB j d o2 o3) h hb (by simp [leaves]) (by simp [leaves]) rfl e
  exact ⟨x, T', hx, gRet_ok e1, s, dd⟩
theorem mulQ (x : Dv) {w : Int} (h : w = 0 ∨ w = 1) : oMulQ (.tup [x]) (.int (2 * w)) = some (.tup (if w = 0 then [] else [x, x])) := by
  rcases h with rfl | rfl <;> rfl
theorem cut_one {xs : List Dv} {k : Nat} {x : Dv} (h : xs[k]? = some x) : EvL.cutD xs (some (k : Int)) (some ((k : Int) + 1)) = [x] := by
  obtain ⟨hk, rfl⟩ := List.getElem?_eq_some_iff.mp h
  unfold EvL.cutD
  rw [HT.sIx_nat, show (k : Int) + 1 = ((k + 1 : Nat) : Int) by omega, HT.sIx_nat, Nat.min_eq_left (by omega), Nat.min_eq_left (by omega), show k + 1 - k = 1 by omega, List.drop_eq_getElem_cons hk]
  rfl
theorem v_bent : ∀ (n : Nat) {p w : Nat} {d : Dv} {S : Store} {b : Int}, p < n → Bt w p d → 3 ≤ w → w ≤ 900 → DF S j b → b + 4 * p + 4 < 900000 → ∃ d' S', f__law_bent n [.o j, .d d] S = .ok (.d d') S' ∧ Bt (w + 1) (p + 1) d' ∧ Sj j S S' ∧ DF S' j (b + 4 * p + 4)
  | 0, p, w, d, S, b, hp, _, _, _, _, _ => by omega
  | n + 1, p, w, d, S, b, hp, hB, h3, hw, h, hb => by
    have leaf : ∀ (o2 o3 : Option Sv) {T : Store}, Sj j S T → DF T j (b + 1) → g__law_bent (f__law_bent n) (start0 4 [.o j, .d d]) S = gRet (sCall f__law_of (lCons (sVar 0) (lCons (sF (fLst (lCons (sC .non) (lCons (sC (.bl true)) (lCons (sC (.bl false)) (lCons (sC (.int 0)) (lCons (sC (.int 1)) (lCons (sUn oNeg (sC (.int 1))) (lCons (sC (.int 2)) (lCons (sC (.int 1000)) (lCons (sC (.int 1001)) (lCons (sUn oNeg (sC (.int 1001))) (lCons (sC (.str "1")) (lCons (sTup lNil) (lCons (sTup (lCons (sC (.int 0)) (lCons (sC (.int 0)) lNil))) (lCons (sTup (lCons (sC (.int 1)) (lCons (sC (.int 0)) lNil))) (lCons (sTup (lCons (sC (.int 0)) (lCons (sC (.int 1)) lNil))) (lCons (sTup (lCons (sC (.int 1)) (lCons (sC (.int 1)) (lCons (sC (.int 1)) lNil)))) (lCons (sF (fLst (lCons (sC (.int 1)) (lCons (sC (.int 0)) lNil)))) (lCons (sF (fLst lNil)) (lCons (sC (.dic [])) lNil))))))))))))))))))))) lNil))) (eB j d o2 o3) T → ∃ d' S', f__law_bent (n + 1) [.o j, .d d] S = .ok (.d d') S' ∧ Bt (w + 1) (p + 1) d' ∧ Sj j S S' ∧ DF S' j (b + 4 * p + 4) := fun o2 o3 {T} sT dT e => by
      obtain ⟨x, T', hx, e1, s, dd⟩ := bent_leaf (d := d) dT (by omega) o2 o3
      exact ⟨x, T', fnS_dr rfl (sT.trans s) (e.trans e1), (leaves_ok h3 x hx).mono (by omega) (by omega), sT.trans s, dd.mono (by omega)⟩
    have ht := is_t (en := eB j d none none) (m := S) (m1 := S) "tuple" (plA_ty hB.pl) (sVar_ok (i := 1) rfl)
    cases hB with
    | leaf h1 h2 =>
      rw [h2] at ht
      exact leaf none none (.refl _ _) (h.mono (by omega)) (gSeq_ok (gif_b (bAnd_f ht) rfl))
    | @tup p xs hx hl =>
      have ht1 : isTy "tuple" (.tup xs) = true := rfl
      rw [ht1] at ht
      have t2 : sT (sBin (orO oNe (oCmp0 (!·))) (sVar 1) (sTup lNil)) (eB j (.tup xs) none none) S = .ok (!xs.isEmpty) S := sT_ok (sBin_ok (sVar_ok (i := 1) rfl) (tup_ok (l := []) lNil_ok rfl rfl) rfl rfl (ne_empty xs))
      cases hxs : xs.isEmpty with
      | true =>
        rw [hxs] at t2
        exact leaf none none (.refl _ _) (h.mono (by omega)) (gSeq_ok (gif_b ((bAnd_t ht).trans (bAnd_f t2)) rfl))
      | false =>
        rw [hxs] at t2
        have hp1 : 1 ≤ xs.length := by
          cases xs with
          | nil => cases hxs
          | cons a l => simp
        obtain ⟨r, S1, e1, r0, r1, s1, d1⟩ := d_draw (i := 0) (en := eB j (.tup xs) none none) (f := sC (.int 6)) (span := 6) h (by omega) (by decide) (by decide) rfl (sC_ok _)
        have t3 := gt_i e1 (sC_ok (.int 0))
        have t4 := (bAnd_t ht).trans ((bAnd_t t2).trans t3)
        by_cases hr : 0 < r
        · rw [decide_eq_true hr] at t4
          obtain ⟨a, S2, e2, a0, a1, s2, d2⟩ := d_draw (i := 0) (en := eB j (.tup xs) none none) (f := sUn oLen (sVar 1)) (span := xs.length) d1 (by omega) (by omega) (by omega) rfl (len_t (sVar_ok (i := 1) rfl))
          obtain ⟨k, rfl⟩ := Int.eq_ofNat_of_zero_le a0
          have hk : k < xs.length := by omega
          obtain ⟨y, S3, e3, y0, y1, s3, d3⟩ := d_draw (i := 0) (en := eB j (.tup xs) none none) (f := sC (.int 6)) (span := 6) d2 (by omega) (by decide) (by decide) rfl (sC_ok _)
          have p5 := gPar_ok (i := 2) (j := 3) (lCons_ok e2 (lCons_ok e3 lNil_ok))
          have sj := (s1.trans s2).trans s3
          let E := eB j (.tup xs) (some (.d (.int (k : Nat)))) (some (.d (.int y)))
          have gx : xs[k]? = some xs[k] := List.getElem?_eq_getElem hk
          have v1 : ∀ S, sVar 1 E S = .ok (.d (.tup xs)) S := fun S => sVar_ok rfl
          have y2 : ∀ S, oYes (sVar 2) E S = .ok (some (k : Int)) S := fun S => oYes_ok (sVar_ok rfl)
          have y3 : ∀ S, oYes (sBin oAddP (sVar 2) (sC (.int 1))) E S = .ok (some ((k : Int) + 1)) S := fun S => oYes_ok (add_i (sVar_ok rfl) (sC_ok _))
          have tk := sl_take (f := sVar 1) (k := k) rfl (by omega) (v1 S3) (y2 S3)
          have dk := fun S => sl_drop (f := sVar 1) (k := k + 1) (by omega) (by omega) (v1 S) (y3 S)
          have ltk : (xs.take k).length ≤ k := by simp; omega
          have ldk : (xs.drop (k + 1)).length = xs.length - (k + 1) := by simp
          have t6 := lt_i (en := E) (m := S3) (sVar_ok (i := 3) rfl) (sC_ok (.int 2))
          have el : ∀ x ∈ xs, Bt (w + 1) (p + 1) x := fun x h => (hx x h).mono (by omega) (by omega)
          by_cases h6 : y < 2
          · rw [decide_eq_true h6] at t6
            have one : sSlP (sVar 1) (oYes (sVar 2)) (oYes (sBin oAddP (sVar 2) (sC (.int 1)))) E S3 = .ok (.d (.tup [xs[k]])) S3 := by
              rw [← cut_one gx]
              exact slT_ok (v1 S3) (y2 S3) (y3 S3)
            have mq := sBin_ok (op := oMulQ) one (mul_i (sC_ok (.int 2)) (sVar_ok (i := 3) rfl) (m64 (by decide))) rfl rfl (mulQ xs[k] (w := y) (by omega))
            have l2 : (if y = 0 then [] else [xs[k], xs[k]]).length ≤ 2 := by split <;> simp
            have q := addT (addT tk mq (by omega)) (dk S3) (by rw [List.length_append]; omega)
            refine ⟨_, S3, fnS_dr rfl sj (gSeq_rt ((gIf_t t4).trans ((gSeq_ok p5).trans (gSeq_rt ((gIf_t t6).trans (gRet_ok q)))))), .tup (fun x hx2 => el x ?_) ?_, sj, d3.mono (by omega)⟩
            · rcases List.mem_append.mp hx2 with z | z
              · rcases List.mem_append.mp z with z | z
                · exact List.mem_of_mem_take z
                · have : x = xs[k] := by
                    split at z
                    · cases z
                    · simpa using z
                  rw [this]
                  exact List.getElem_mem _
              · exact List.mem_of_mem_drop z
            · rw [List.length_append, List.length_append]; omega
          · rw [decide_eq_false h6] at t6
            have t7 := eq_i (en := E) (m := S3) (sVar_ok (i := 3) rfl) (sC_ok (.int 2))
            by_cases h7 : y = 2
            · rw [decide_eq_true h7] at t7
              have dk2 := sl_drop (f := sVar 1) (k := k) rfl (by omega) (v1 S3) (y2 S3)
              have rv1 : sRevP (sSlP (sVar 1) (oYes (sVar 2)) oNo) E S3 = .ok (.d (.tup (xs.drop k).reverse)) S3 := by
                have : sRevT (sSlP (sVar 1) (oYes (sVar 2)) oNo) E S3 = .ok (.d (.tup (xs.drop k).reverse)) S3 := by
                  unfold sRevT
                  rw [dk2]
                  rfl
                unfold sRevP sElse
                rw [this]
              have q := addT tk rv1 (by simp; omega)
              refine ⟨_, S3, fnS_dr rfl sj (gSeq_rt ((gIf_t t4).trans ((gSeq_ok p5).trans ((gSeq_ok (gif_b t6 rfl)).trans (gSeq_rt ((gIf_t t7).trans (gRet_ok q))))))), .tup (fun x hx2 => el x ?_) ?_, sj, d3.mono (by omega)⟩
              · rcases List.mem_append.mp hx2 with z | z
                · exact List.mem_of_mem_take z
                · exact List.mem_of_mem_drop (List.mem_reverse.mp z)
              · simp; omega
            · rw [decide_eq_false h7] at t7
              obtain ⟨d', S4, e4, hB', s4, d4⟩ := v_bent n (p := p) (w := w) (d := xs[k]) (by omega) (hx _ (List.getElem_mem _)) h3 hw d3 (by omega)
              have one := tup1 (call2 (en := E) (sVar_ok (i := 0) rfl) (ix_t (v1 S3) (sVar_ok (i := 2) rfl) (atI_n (by omega) (by rw [Int.toNat_natCast]; exact gx))) e4)
              have q := addT (addT tk one (by simp; omega)) (dk S4) (by simp; omega)
              refine ⟨_, S4, fnS_dr rfl (sj.trans s4) (gSeq_rt ((gIf_t t4).trans ((gSeq_ok p5).trans ((gSeq_ok (gif_b t6 rfl)).trans ((gSeq_ok (gif_b t7 rfl)).trans (gRet_ok q)))))), .tup (fun x hx2 => ?_) ?_, sj.trans s4, d4.mono (by omega)⟩
              · rcases List.mem_append.mp hx2 with z | z
                · rcases List.mem_append.mp z with z | z
                  · exact el x (List.mem_of_mem_take z)
                  · have : x = d' := by simpa using z
                    rw [this]
                    exact hB'
                · exact el x (List.mem_of_mem_drop z)
              · simp; omega
        · rw [decide_eq_false hr] at t4
          exact leaf none none s1 d1 (gSeq_ok (gif_b t4 rfl))
end
end K59
end

section
set_option Elab.async false
set_option linter.all false
set_option maxRecDepth 100000
set_option maxHeartbeats 4000000
/-! RL: the law, turn by turn -/
namespace K59
open PySem PySem.Spec PyProof.Rows L2 EvL EvH RdP
/-- a comprehension that hears, over a free store -/
theorem comp_free {fi : SemF} {G : Tgt} {f : Sem1} {vs : List Nat} {en : En} {m m1 : Store} {xs : List Dv} (v : Dv → Dv) (hfi : fi en m = .ok xs m1) (hx : xs.length ≤ 16777216) (hm : m1.all freeSo = true) (hv : ∀ d ∈ xs, lamFree (v d) = true)
    (hs : ∀ d (M : Store), d ∈ xs → M.all freeSo = true → ∃ en', G (.d d) (wipeE en vs) M = some en' ∧ f en' M = .ok (.d (v d)) M) :
    fComp fi G bYes f vs en m = .ok (xs.map v) m1 := by
  have fl : ∀ l : List Dv, (∀ d ∈ l, lamFree (v d) = true) → lamFreeL (l.map v) = true := fun l => by
    induction l with
    | nil => exact fun _ => rfl
    | cons x l ih =>
      intro h
      rw [List.map_cons]
      unfold lamFreeL
      rw [h x List.mem_cons_self, ih fun d hd => h d (List.mem_cons_of_mem _ hd)]
      rfl
  obtain ⟨acc, S, h1, h2, h3, rfl, rfl⟩ := comp_inv (vs := vs) (t := bYes) (f := f) (G := G) hfi hx (fun i acc S => S = m1 ++ [.lst acc] ∧ acc = (xs.take i).map v) ⟨rfl, by simp⟩ (by
    rintro i d acc S hd hl hg ⟨rfl, ha⟩
    have hf : (m1 ++ [So.lst acc]).all freeSo = true := by
      rw [List.all_append, hm]
      have : lamFreeL acc = true := by
        rw [ha]
        exact fl _ fun d hd => hv d (List.mem_of_mem_take hd)
      simp [freeSo, this]
    obtain ⟨en', e1, e3⟩ := hs d _ (List.mem_of_getElem? hd) hf
    refine ⟨en', e1, ?_⟩
    have tk : xs.take (i + 1) = xs.take i ++ [d] := by rw [List.take_add_one, hd]; rfl
    exact .inr ⟨_, v d, _, rfl, e3, hl, hg, by simp, by rw [tk, List.map_append, ← ha]; rfl⟩)
  rw [h1]
  simp
mutual
theorem pl_free : ∀ d : Dv, plA d = true → lamFree d = true
  | .non, _ => by unfold lamFree; rfl
  | .bl _, _ => by unfold lamFree; rfl
  | .int _, _ => by unfold lamFree; rfl
  | .str _, _ => by unfold lamFree; rfl
  | .tup xs, h => by unfold lamFree; exact plL_free xs (by unfold plA at h; exact h)
  | .lst xs, h => by unfold lamFree; exact plL_free xs (by unfold plA at h; exact h)
  | .dic kvs, h => by
    unfold plA at h
    rw [List.isEmpty_iff] at h
    subst h
    unfold lamFree lamFreeK
    rfl
  | .fn _, h => by unfold plA at h; cases h
  | .scr _, h => by unfold plA at h; cases h
theorem plL_free : ∀ xs : List Dv, plA.plL xs = true → lamFreeL xs = true
  | [], _ => by unfold lamFreeL; rfl
  | x :: xs, h => by
    unfold plA.plL at h
    rw [Bool.and_eq_true] at h
    unfold lamFreeL
    rw [pl_free x h.1, plL_free xs h.2]
    rfl
end
theorem rep_l (x : Dv) (k : Nat) (h : 2 ≤ k ∧ k ≤ 1000) : oMulP (.lst [x]) (.int k) = some (.lst (List.replicate k x)) := by
  have c : (decide ((-1000 : Int) ≤ k) && decide ((k : Int) ≤ 1000) && decide ([x].length ≤ 1000)) = true := by simp; omega
  have f : (List.replicate k [x]).flatten = List.replicate k x := by simp
  show (match (none : Option Dv) with | some d => some d | none => orO oRep1 (orO oRepT (frO oRepL)) (.lst [x]) (.int k)) = _
  have e1 : (oRep1 (.lst [x]) (.int k)) = none := by simp [oRep1]
  have e2 : (oRepT (.lst [x]) (.int k)) = none := by simp [oRepT]
  simp only [orO, e1, e2, frO, oRepL, if_pos c, Int.toNat_natCast, f, Option.map_some]

abbrev tL (d : Dv) : Dv := .tup [.str "lot", d]
abbrev tN (d : Dv) : Dv := .tup [.str "number", d]
theorem free_flt (d : Dv) : lamFree (flt d) = true := by
  rcases flt_cases d with e | e | ⟨k, _, e⟩ <;> rw [e] <;> rfl
theorem free_tL {d : Dv} (h : lamFree d = true) : lamFree (tL d) = true := by simp [lamFree, lamFreeL, h]
theorem free_tN {d : Dv} (h : lamFree d = true) : lamFree (tN d) = true := by simp [lamFree, lamFreeL, h]
theorem sm_flt (d : Dv) : Sm 42 1 (flt d) := by
  rcases flt_cases d with e | e | ⟨k, hk, e⟩
  · rw [e]; exact Sm.non.mono (by decide) (by decide)
  · rw [e]; exact (Sm.tup (n := 0) (w := 0) (p := 0) am_nil (by simp)).mono (by decide) (by decide)
  · rw [e]; exact Sm.tup (n := 1) (w := 41) (p := 0) (am_cons (Sm.int (by omega)) am_nil) (by simp)
theorem sm_tL {d : Dv} (h : Sm 42 1 d) : Sm 86 2 (tL d) := (Sm.tup (n := 2) (w := 42) (p := 1) (am_cons ((Sm.str (z := "lot") (by decide +kernel)).mono (by decide +kernel) (by decide)) (am_cons h am_nil)) (by simp)).mono (by decide) (by decide)
theorem sm_tN {d : Dv} (h : Sm 42 1 d) : Sm 86 2 (tN d) := (Sm.tup (n := 2) (w := 42) (p := 1) (am_cons ((Sm.str (z := "number") (by decide +kernel)).mono (by decide +kernel) (by decide)) (am_cons h am_nil)) (by simp)).mono (by decide) (by decide)
theorem callL_x {n : Nat} {fl : SemL} {en : En} {m : Store} {ws : List Sv} {x : Ex} (h12 : en[12]? = some (some (.d (.fn n)))) (hn : n < nDisp) (hf : fl en m = .ok ws m) (hx : disp n ws m = .ex x m) : sCallL 12 nDisp disp fl en m = .ex x m := by
  unfold sCallL
  rw [h12]
  simp only [hn, if_true, hf, Rs.bind, hx]
def freeO : Option Sv → Bool := fun x => match x with
  | some (.d d) => lamFree d
  | _ => true
theorem enFree_eq (en : En) : enFree en = en.all freeO := rfl
theorem dk_free' {S : Store} {j : Nat} {b : Int} (h : DF S j b) {x : So} (hx : freeSo x = true) : DF (S ++ [x]) j b := ⟨h.dr.push x, by rw [List.all_append, h.fr]; simp [hx]⟩
abbrev eW (ns : List Int) (o1 : Option Sv) (j : Nat) (L : List P) (o4 o5 o6 o7 o8 o9 oa ob oc od : Option Sv) : En := [some (.d (.scr ns)), o1, some (.o j), some (.d (en_ L)), o4, o5, o6, o7, o8, o9, oa, ob, oc, od]
section
variable {ns : List Int} {S T m : Store} {j k : Nat} {b : Int} {L : List P}
theorem flt_ne {d : Dv} (h : isNon (flt d) = false) : flt d ≠ .non := fun z => by rw [z] at h; cases h
theorem free_tl (d : Dv) : lamFree (tL (flt d)) = true := free_tL (free_flt d)
theorem rep2 {α : Type} (x y : α) (v : α → α) (h : ∀ z, v z = x) : [y, y].map v = [x, x] := by simp [h]
/-- what is told of a round that is none -/
theorem told1 {d : Dv} (hd : plA d = true) (hn : flt d ≠ .non) (hS : S.all freeSo = true) {o1 o4 o6 o7 o8 o9 oa ob oc od : Option Sv} (hf : ∀ o ∈ [o1, o4, o6, o7, o8, o9, oa, ob, od], freeO o = true) : fComp (iSeq (sTup (lCons (sC (.fn 0)) (lCons (sC (.fn 1)) (lCons (sC (.fn 2)) lNil))))) (tgN 12) bYes (sHeardB 2 g__law_heard (sCallL 12 nDisp disp (lCons (sVar 5) lNil))) [12] (eW ns o1 j L o4 (some (.d d)) o6 o7 o8 o9 oa ob oc od) S = .ok [tL (flt d), tL (flt d), tL (flt d)] S := by
  have e := comp_free (vs := [12]) (G := tgN 12) (f := sHeardB 2 g__law_heard (sCallL 12 nDisp disp (lCons (sVar 5) lNil))) (fun _ => tL (flt d)) (iSeq_t (en := eW ns o1 j L o4 (some (.d d)) o6 o7 o8 o9 oa ob oc od) (m := S) (tup_ok (l := [.fn 0, .fn 1, .fn 2]) (lCons_ok (sC_ok _) (lCons_ok (sC_ok _) (lCons_ok (sC_ok _) lNil_ok))) rfl rfl)) (by simp) hS (fun _ _ => free_tl d) (fun z M hz hM => by
    have q : ∃ n, z = .fn n ∧ n < nDisp ∧ disp n [.d d] M = .ex (xL d) M := by
      simp at hz
      rcases hz with rfl | rfl | rfl
      · exact ⟨0, rfl, by decide, p_need_bad hd hn M⟩
      · exact ⟨1, rfl, by decide, p_numbers_lot hd hn M⟩
      · exact ⟨2, rfl, by decide, p_turns_lot hd hn M⟩
    obtain ⟨n, rfl, h1, h2⟩ := q
    refine ⟨_, rfl, heardB (o := .e (xL d)) ?_ hM (callL_x rfl h1 (lCons_ok (sVar_ok rfl) lNil_ok) h2) rfl (free_tl d)⟩
    rw [enFree_eq]
    simp only [List.mem_cons, List.not_mem_nil, or_false, forall_eq_or_imp, forall_eq] at hf
    obtain ⟨f1, f4, f6, f7, f8, f9, fa, fb, fd⟩ := hf
    have h1000 : n < 1000 := by simp [nDisp] at h1; omega
    show (freeO (some (.d (.scr ns))) && (freeO o1 && (freeO (some (.o j)) && (freeO (some (.d (en_ L))) && (freeO o4 && (freeO (some (.d d)) && (freeO o6 && (freeO o7 && (freeO o8 && (freeO o9 && (freeO oa && (freeO ob && (freeO (some (.d (.fn n))) && (freeO od && true)))))))))))))) = true
    rw [f1, f4, f6, f7, f8, f9, fa, fb, fd, show freeO (some (.d (en_ L))) = true from pl_free _ (pl_en L), show freeO (some (.d d)) = true from pl_free _ hd, show freeO (some (.d (.fn n))) = true from decide_eq_true h1000]
    rfl)
  exact e
theorem told2 {d : Dv} (hd : plA d = true) (hn : flt d ≠ .non) (hS : S.all freeSo = true) {o1 o4 o6 o7 o8 o9 oa ob oc od : Option Sv} (hf : ∀ o ∈ [o1, o4, o6, o7, o8, o9, oa, ob, od], freeO o = true) : fComp (iSeq (sTup (lCons (sC (.fn 3)) (lCons (sC (.fn 4)) lNil)))) (tgN 12) bYes (sHeardB 2 g__law_heard (sCallL 12 nDisp disp (lCons (sVar 5) (lCons (sC .non) lNil)))) [12] (eW ns o1 j L o4 (some (.d d)) o6 o7 o8 o9 oa ob oc od) S = .ok [tL (flt d), tL (flt d)] S := by
  have e := comp_free (vs := [12]) (G := tgN 12) (f := sHeardB 2 g__law_heard (sCallL 12 nDisp disp (lCons (sVar 5) (lCons (sC .non) lNil)))) (fun _ => tL (flt d)) (iSeq_t (en := eW ns o1 j L o4 (some (.d d)) o6 o7 o8 o9 oa ob oc od) (m := S) (tup_ok (l := [.fn 3, .fn 4]) (lCons_ok (sC_ok _) (lCons_ok (sC_ok _) lNil_ok)) rfl rfl)) (by simp) hS (fun _ _ => free_tl d) (fun z M hz hM => by
    have q : ∃ n, z = .fn n ∧ n < nDisp ∧ disp n [.d d, .d .non] M = .ex (xL d) M := by
      simp at hz
      rcases hz with rfl | rfl
      · exact ⟨3, rfl, by decide, p_raised_lot hd hn M⟩
      · exact ⟨4, rfl, by decide, p_lowered_lot hd hn M⟩
    obtain ⟨n, rfl, h1, h2⟩ := q
    refine ⟨_, rfl, heardB (o := .e (xL d)) ?_ hM (callL_x rfl h1 (lCons_ok (sVar_ok rfl) (lCons_ok (sC_ok _) lNil_ok)) h2) rfl (free_tl d)⟩
    rw [enFree_eq]
    simp only [List.mem_cons, List.not_mem_nil, or_false, forall_eq_or_imp, forall_eq] at hf
    obtain ⟨f1, f4, f6, f7, f8, f9, fa, fb, fd⟩ := hf
    have h1000 : n < 1000 := by simp [nDisp] at h1; omega
    show (freeO (some (.d (.scr ns))) && (freeO o1 && (freeO (some (.o j)) && (freeO (some (.d (en_ L))) && (freeO o4 && (freeO (some (.d d)) && (freeO o6 && (freeO o7 && (freeO o8 && (freeO o9 && (freeO oa && (freeO ob && (freeO (some (.d (.fn n))) && (freeO od && true)))))))))))))) = true
    rw [f1, f4, f6, f7, f8, f9, fa, fb, fd, show freeO (some (.d (en_ L))) = true from pl_free _ (pl_en L), show freeO (some (.d d)) = true from pl_free _ hd, show freeO (some (.d (.fn n))) = true from decide_eq_true h1000]
    rfl)
  exact e
theorem told3 (hL : Rd L) {q : Dv} (ho : Odd L q) (hq : lamFree q = true) (hS : S.all freeSo = true) {o1 o4 o5 o6 o7 o9 oa ob oc od : Option Sv} (hf : ∀ o ∈ [o1, o4, o5, o6, o7, o9, oa, ob, od], freeO o = true) : fComp (iSeq (sTup (lCons (sC (.fn 3)) (lCons (sC (.fn 4)) lNil)))) (tgN 12) bYes (sHeardB 2 g__law_heard (sCallL 12 nDisp disp (lCons (sVar 3) (lCons (sVar 8) lNil)))) [12] (eW ns o1 j L o4 o5 o6 o7 (some (.d q)) o9 oa ob oc od) S = .ok [tN q, tN q] S := by
  have e := comp_free (vs := [12]) (G := tgN 12) (f := sHeardB 2 g__law_heard (sCallL 12 nDisp disp (lCons (sVar 3) (lCons (sVar 8) lNil)))) (fun _ => tN q) (iSeq_t (en := eW ns o1 j L o4 o5 o6 o7 (some (.d q)) o9 oa ob oc od) (m := S) (tup_ok (l := [.fn 3, .fn 4]) (lCons_ok (sC_ok _) (lCons_ok (sC_ok _) lNil_ok)) rfl rfl)) (by simp) hS (fun _ _ => free_tN hq) (fun z M hz hM => by
    have q' : ∃ n, z = .fn n ∧ n < nDisp ∧ disp n [.d (en_ L), .d q] M = .ex ⟨0, some ("value", q)⟩ M := by
      simp at hz
      rcases hz with rfl | rfl
      · exact ⟨3, rfl, by decide, p_raised_odd hL ho M⟩
      · exact ⟨4, rfl, by decide, p_lowered_odd hL ho M⟩
    obtain ⟨n, rfl, h1, h2⟩ := q'
    refine ⟨_, rfl, heardB (o := .e ⟨0, some ("value", q)⟩) ?_ hM (callL_x rfl h1 (lCons_ok (sVar_ok rfl) (lCons_ok (sVar_ok rfl) lNil_ok)) h2) rfl (free_tN hq)⟩
    rw [enFree_eq]
    simp only [List.mem_cons, List.not_mem_nil, or_false, forall_eq_or_imp, forall_eq] at hf
    obtain ⟨f1, f4, f5, f6, f7, f9, fa, fb, fd⟩ := hf
    have h1000 : n < 1000 := by simp [nDisp] at h1; omega
    show (freeO (some (.d (.scr ns))) && (freeO o1 && (freeO (some (.o j)) && (freeO (some (.d (en_ L))) && (freeO o4 && (freeO o5 && (freeO o6 && (freeO o7 && (freeO (some (.d q)) && (freeO o9 && (freeO oa && (freeO ob && (freeO (some (.d (.fn n))) && (freeO od && true)))))))))))))) = true
    rw [f1, f4, f5, f6, f7, f9, fa, fb, fd, show freeO (some (.d (en_ L))) = true from pl_free _ (pl_en L), show freeO (some (.d q)) = true from hq, show freeO (some (.d (.fn n))) = true from decide_eq_true h1000]
    rfl)
  exact e
end
end K59
end

section
set_option Elab.async false
set_option linter.all false
set_option maxRecDepth 100000
set_option maxHeartbeats 4000000
/-! RM: the law's turns -/
namespace K59
open PySem PySem.Spec PyProof.Rows L2 EvL EvH RdP
abbrev tailB : SemS := (gSeq (gNew 7 (fComp (iSeq (sTup (lCons (sC (.fn 0)) (lCons (sC (.fn 1)) (lCons (sC (.fn 2)) lNil))))) (tgN 12) bYes (sHeardB 2 g__law_heard (sCallL 12 nDisp disp (lCons (sVar 5) lNil))) [12])) (gSeq (gSet 7 (sBin oAddP (sVar 7) (sF (fComp (iSeq (sTup (lCons (sC (.fn 3)) (lCons (sC (.fn 4)) lNil)))) (tgN 12) bYes (sHeardB 2 g__law_heard (sCallL 12 nDisp disp (lCons (sVar 5) (lCons (sC .non) lNil)))) [12])))) (gIf (bNot (sT (sCall f__law_like (lCons (sVar 7) (lCons (sBin oMulP (sF (fLst (lCons (sTup (lCons (sC (.str "lot")) (lCons (sVar 6) lNil))) lNil))) (sC (.int 5))) lNil))))) (gRet (sC (.bl false))) gNext)))
abbrev aB : SemS := (gSeq (gSet 5 (sCall (f__law_bent fuel__law_bent) (lCons (sVar 2) (lCons (sVar 3) lNil)))) (gSeq (gSet 5 (sIf (sT (sBin oEq (sVar 4) (sC (.int 4)))) (sCall (f__law_bent fuel__law_bent) (lCons (sVar 2) (lCons (sVar 5) lNil))) (sVar 5))) (gSeq (gSet 6 (sCall f__law_fault (lCons (sVar 5) lNil))) (gSeq (gIf (bNot (sT (sCall f__law_like (lCons (sCall f_is_round (lCons (sVar 5) lNil)) (lCons (sBin oIsN (sVar 6) (sC .non)) lNil))))) (gRet (sC (.bl false))) gNext) (gSeq (gIf (sT (sBin oIsN (sVar 6) (sC .non))) (gSeq (gIf (bNot (sT (sCall f__law_right (lCons (sVar 5) lNil)))) (gRet (sC (.bl false))) gNext) gCont) gNext) tailB)))))
abbrev oB : SemS := (gSeq (gSet 8 (sCall f__law_of (lCons (sVar 2) (lCons (sF (fLst (lCons (sC .non) (lCons (sUn oNeg (sC (.int 1))) (lCons (sUn oLen (sVar 3)) (lCons (sC (.bl true)) (lCons (sC (.str "0")) (lCons (sTup (lCons (sC (.int 0)) lNil)) (lCons (sC (.dic [])) lNil))))))))) lNil)))) (gIf (bNot (sT (sCall f__law_like (lCons (sF (fComp (iSeq (sTup (lCons (sC (.fn 3)) (lCons (sC (.fn 4)) lNil)))) (tgN 12) bYes (sHeardB 2 g__law_heard (sCallL 12 nDisp disp (lCons (sVar 3) (lCons (sVar 8) lNil)))) [12])) (lCons (sBin oMulP (sF (fLst (lCons (sTup (lCons (sC (.str "number")) (lCons (sVar 8) lNil))) lNil))) (sC (.int 2))) lNil))))) (gRet (sC (.bl false))) gNext))
abbrev tB2 : SemS := (gSeq (gSet 2 (sCall f__law_begun (lCons (sVar 0) (lCons (sVar 1) lNil)))) (gSeq (gSet 3 (sCall f__law_some_round (lCons (sVar 2) lNil))) (gSeq (gIf (bNot (sT (sCall f__law_right (lCons (sVar 3) lNil)))) (gRet (sC (.bl false))) gNext) (gSeq (gFor (iRange1 (sC (.int 5))) (tgN 4) aB) oB))))
section
variable {ns : List Int} {S T m : Store} {j k : Nat} {b : Int} {L : List P}
theorem bt_en {L : List P} (h : Rd L) : Bt 60 2 (en_ L) := .tup (fun x hx => by
  obtain ⟨v, _, rfl⟩ := List.mem_map.mp hx
  exact bt_ints (l := [v.1, v.2]) (by simp)) (by simpa using h.hi)
theorem isNon_is {d : Dv} : oIsN d .non = some (.bl (isNon d)) := by
  cases h : isNon d with
  | true => rw [isNon_t h]; rfl
  | false => exact isN (fun z => by rw [z] at h; cases h)
theorem freeP {d : Dv} (h : plA d = true) : freeO (some (.d d)) = true := pl_free d h
theorem mem9 {o1 o2 o3 o4 o5 o6 o7 o8 o9 : Option Sv} (h1 : freeO o1 = true) (h2 : freeO o2 = true) (h3 : freeO o3 = true) (h4 : freeO o4 = true) (h5 : freeO o5 = true) (h6 : freeO o6 = true) (h7 : freeO o7 = true) (h8 : freeO o8 = true) (h9 : freeO o9 = true) : ∀ o ∈ [o1, o2, o3, o4, o5, o6, o7, o8, o9], freeO o = true :=
  am_cons h1 (am_cons h2 (am_cons h3 (am_cons h4 (am_cons h5 (am_cons h6 (am_cons h7 (am_cons h8 (am_cons h9 am_nil))))))))
theorem tail_ok {d : Dv} (hd : plA d = true) (hn : flt d ≠ .non) (h : DF S j b) {o1 o4 o7 o8 o9 oa ob oc od : Option Sv} (f1 : freeO o1 = true) (f4 : freeO o4 = true) (f7 : freeO o7 = true) (f8 : freeO o8 = true) (f9 : freeO o9 = true) (fa : freeO oa = true) (fb : freeO ob = true) (fd : freeO od = true) : ∃ o7' T, tailB (eW ns o1 j L o4 (some (.d d)) (some (.d (flt d))) o7 o8 o9 oa ob oc od) S = .nx (eW ns o1 j L o4 (some (.d d)) (some (.d (flt d))) o7' o8 o9 oa ob oc od) T ∧ freeO o7' = true ∧ DF T j b := by
  have ff : freeO (some (.d (flt d))) = true := free_flt d
  have t1 := told1 (ns := ns) (j := j) (L := L) (oc := oc) hd hn h.fr (mem9 f1 f4 ff f7 f8 f9 fa fb fd)
  have g1 := get_push S (.lst [tL (flt d), tL (flt d), tL (flt d)])
  have h2 : DF (S ++ [So.lst [tL (flt d), tL (flt d), tL (flt d)]]) j b := dk_free' h (by simp [freeSo, lamFreeL, lamFree, free_flt d])
  have t2 := told2 (ns := ns) (j := j) (L := L) (oc := oc) (o7 := some (.o S.length)) hd hn h2.fr (mem9 f1 f4 ff rfl f8 f9 fa fb fd)
  have n1 : gNew 7 (fComp (iSeq (sTup (lCons (sC (.fn 0)) (lCons (sC (.fn 1)) (lCons (sC (.fn 2)) lNil))))) (tgN 12) bYes (sHeardB 2 g__law_heard (sCallL 12 nDisp disp (lCons (sVar 5) lNil))) [12]) (eW ns o1 j L o4 (some (.d d)) (some (.d (flt d))) o7 o8 o9 oa ob oc od) S = .nx (eW ns o1 j L o4 (some (.d d)) (some (.d (flt d))) (some (.o S.length)) o8 o9 oa ob oc od) (S ++ [So.lst [tL (flt d), tL (flt d), tL (flt d)]]) := gNew_ok t1
  have n2 := gSet_ok (i := 7) (sBin_ok (op := oAddP) (sVar_ok (i := 7) rfl) (sF_ok t2) (rv_lst g1) rfl (cat_l (by simp)))
  refine ⟨some (.d (.lst ([tL (flt d), tL (flt d), tL (flt d)] ++ [tL (flt d), tL (flt d)]))), _, (gSeq_ok n1).trans ((gSeq_ok n2).trans (gif_b (b := !true) (bNot_ok (sT_ok (like_call (sVar_ok (i := 7) rfl) ?_ ?_))) rfl)), ?_, h2⟩
  · exact sBin_ok (sF_ok (lst_ok (lCons_ok (tup2 (sC_ok _) (sVar_ok (i := 6) rfl)) lNil_ok) rfl rfl)) (sC_ok _) rfl rfl (rep_l _ 5 (by decide))
  · have s := sm_tL (sm_flt d)
    exact (Sm.lst (n := 5) (w := 86) (p := 2) (am_cons s (am_cons s (am_cons s (am_cons s (am_cons s am_nil))))) (by simp)).ok (by decide) (by decide)
  · show lamFree _ = true
    simp [lamFreeL, lamFree, free_flt d]
theorem aB_ok (hL : Rd L) {c : Int} (h : DF S j b) (hb : b < 600000) {o1 o5 o6 o7 o8 o9 oa ob oc od : Option Sv} (f1 : freeO o1 = true) (f7 : freeO o7 = true) (f8 : freeO o8 = true) (f9 : freeO o9 = true) (fa : freeO oa = true) (fb : freeO ob = true) (fd : freeO od = true) : ∃ o5' o6' o7' T, (aB (eW ns o1 j L (some (.d (.int c))) o5 o6 o7 o8 o9 oa ob oc od) S = .nx (eW ns o1 j L (some (.d (.int c))) o5' o6' o7' o8 o9 oa ob oc od) T ∨ aB (eW ns o1 j L (some (.d (.int c))) o5 o6 o7 o8 o9 oa ob oc od) S = .ct (eW ns o1 j L (some (.d (.int c))) o5' o6' o7' o8 o9 oa ob oc od) T) ∧ freeO o5' = true ∧ freeO o6' = true ∧ freeO o7' = true ∧ DF T j (b + 40) := by
  obtain ⟨d1, S1, e1, B1, s1, h1⟩ := v_bent (j := j) fuel__law_bent (by decide) (bt_en hL) (by decide) (by decide) h (by omega)
  have q1 := gSet_ok (i := 5) (call2 (en := eW ns o1 j L (some (.d (.int c))) o5 o6 o7 o8 o9 oa ob oc od) (sVar_ok (i := 2) rfl) (sVar_ok (i := 3) rfl) e1)
  have t := eq_i (en := eW ns o1 j L (some (.d (.int c))) (some (.d d1)) o6 o7 o8 o9 oa ob oc od) (m := S1) (sVar_ok (i := 4) rfl) (sC_ok (.int 4))
  obtain ⟨d, S2, q2, hd, h2⟩ : ∃ d S2, gSet 5 (sIf (sT (sBin oEq (sVar 4) (sC (.int 4)))) (sCall (f__law_bent fuel__law_bent) (lCons (sVar 2) (lCons (sVar 5) lNil))) (sVar 5)) (eW ns o1 j L (some (.d (.int c))) (some (.d d1)) o6 o7 o8 o9 oa ob oc od) S1 = .nx (eW ns o1 j L (some (.d (.int c))) (some (.d d)) o6 o7 o8 o9 oa ob oc od) S2 ∧ plA d = true ∧ DF S2 j (b + 40) := by
    by_cases hc : c = 4
    · rw [decide_eq_true hc] at t
      obtain ⟨d2, S2, e2, B2, s2, h2⟩ := v_bent (j := j) fuel__law_bent (by decide) B1 (by decide) (by decide) h1 (by omega)
      exact ⟨d2, S2, gSet_ok ((if_ok t).trans (call2 (sVar_ok (i := 2) rfl) (sVar_ok (i := 5) rfl) e2)), B2.pl, h2.mono (by omega)⟩
    · rw [decide_eq_false hc] at t
      exact ⟨d1, S1, gSet_ok ((if_ok t).trans (show sVar 5 (eW ns o1 j L (some (.d (.int c))) (some (.d d1)) o6 o7 o8 o9 oa ob oc od) S1 = .ok (.d d1) S1 from sVar_ok rfl)), B1.pl, h1.mono (by omega)⟩
  have q3 := gSet_ok (i := 6) (call1 (en := eW ns o1 j L (some (.d (.int c))) (some (.d d)) o6 o7 o8 o9 oa ob oc od) (sVar_ok (i := 5) rfl) (l_fault hd S2))
  have i6 : sBin oIsN (sVar 6) (sC .non) (eW ns o1 j L (some (.d (.int c))) (some (.d d)) (some (.d (flt d))) o7 o8 o9 oa ob oc od) S2 = .ok (.d (.bl (isNon (flt d)))) S2 := sBin_ok (sVar_ok (i := 6) (x := .d (flt d)) rfl) (sC_ok _) rfl rfl isNon_is
  have q4 := gif_b (g1 := gRet (sC (.bl false))) (b := !true) (bNot_ok (sT_ok (like_call (call1 (sVar_ok (i := 5) rfl) (p_is hd S2)) i6 ((Sm.bl _).ok (by decide) (by decide))))) rfl
  have t6 := sT_ok i6
  have fr5 := freeP hd
  have fr6 : freeO (some (.d (flt d))) = true := free_flt d
  cases hn : isNon (flt d) with
  | true =>
    rw [hn] at t6
    obtain ⟨L', rfl, hL'⟩ := flt_non (isNon_t hn)
    have rr := gif_b (g1 := gRet (sC (.bl false))) (b := !true) (bNot_ok (sT_ok (call1 (en := eW ns o1 j L (some (.d (.int c))) (some (.d (en_ L'))) (some (.d (flt (en_ L')))) o7 o8 o9 oa ob oc od) (sVar_ok (i := 5) rfl) (v_right hL' S2)))) rfl
    have ct : gIf (sT (sBin oIsN (sVar 6) (sC .non))) (gSeq (gIf (bNot (sT (sCall f__law_right (lCons (sVar 5) lNil)))) (gRet (sC (.bl false))) gNext) gCont) gNext (eW ns o1 j L (some (.d (.int c))) (some (.d (en_ L'))) (some (.d (flt (en_ L')))) o7 o8 o9 oa ob oc od) S2 = .ct (eW ns o1 j L (some (.d (.int c))) (some (.d (en_ L'))) (some (.d (flt (en_ L')))) o7 o8 o9 oa ob oc od) S2 := (gIf_t t6).trans ((gSeq_ok rr).trans rfl)
    have ct2 : gSeq (gIf (sT (sBin oIsN (sVar 6) (sC .non))) (gSeq (gIf (bNot (sT (sCall f__law_right (lCons (sVar 5) lNil)))) (gRet (sC (.bl false))) gNext) gCont) gNext) tailB (eW ns o1 j L (some (.d (.int c))) (some (.d (en_ L'))) (some (.d (flt (en_ L')))) o7 o8 o9 oa ob oc od) S2 = .ct (eW ns o1 j L (some (.d (.int c))) (some (.d (en_ L'))) (some (.d (flt (en_ L')))) o7 o8 o9 oa ob oc od) S2 := by
      rw [gSeq, ct]
    exact ⟨_, _, o7, S2, .inr ((gSeq_ok q1).trans ((gSeq_ok q2).trans ((gSeq_ok q3).trans ((gSeq_ok q4).trans ct2)))), fr5, fr6, f7, h2⟩
  | false =>
    rw [hn] at t6
    obtain ⟨o7', T, e, f7', hT⟩ := tail_ok (ns := ns) (L := L) (oc := oc) hd (flt_ne hn) h2 (o4 := some (.d (.int c))) f1 rfl f7 f8 f9 fa fb fd
    exact ⟨_, _, o7', T, .inl ((gSeq_ok q1).trans ((gSeq_ok q2).trans ((gSeq_ok q3).trans ((gSeq_ok q4).trans ((gSeq_ok (gif_b t6 rfl)).trans e))))), fr5, fr6, f7', hT⟩
theorem show_int {i : Int} (h : i.natAbs < 10 ^ 90) : showX (.int i) = true := showX_of (((Sb.int h).mono (by decide) (by decide) : Sb 301 1 (.int i)).ok (by decide) (by decide))
theorem odds_ok {n : Nat} (h : L.length = n) (hn : n ≤ 60) : ∀ q ∈ [Dv.non, .int (-1), .int n, .bl true, .str "0", .tup [.int 0], .dic []], Odd L q ∧ lamFree q = true ∧ (Sm 42 1 q ∨ q = .dic []) := by
  refine am_cons ⟨⟨rfl, rfl, by decide +kernel⟩, rfl, .inl (Sm.non.mono (by decide) (by decide))⟩ (am_cons ⟨⟨rfl, by simp [fromD], show_int (by decide)⟩, rfl, .inl ((Sm.int (by decide)).mono (by decide) (by decide))⟩ (am_cons ⟨⟨rfl, by simp [fromD, h]; omega, show_int (by omega)⟩, rfl, .inl ((Sm.int (by omega)).mono (by decide) (by decide))⟩ (am_cons ⟨⟨rfl, rfl, by decide +kernel⟩, rfl, .inl ((Sm.bl true).mono (by decide) (by decide))⟩ (am_cons ⟨⟨rfl, rfl, by decide +kernel⟩, rfl, .inl ((Sm.str (z := "0") (by decide +kernel)).mono (by decide +kernel) (by decide))⟩ (am_cons ⟨⟨rfl, rfl, ?_⟩, rfl, .inl (Sm.tup (n := 1) (w := 41) (p := 0) (am_cons (Sm.int (by decide)) am_nil) (by simp))⟩ (am_cons ⟨⟨rfl, rfl, by decide +kernel⟩, rfl, .inr rfl⟩ am_nil))))))
  have s : Sb 301 1 (.tup [.int 0]) := (Sb.tup (n := 1) (w := 300) (p := 0) (am_cons (Sb.int (by decide)) am_nil) (by simp)).mono (by decide) (by decide)
  exact showX_of (s.ok (by decide) (by decide))
theorem like_two {q : Dv} (h : Sm 42 1 q ∨ q = .dic []) (m : Store) : f__law_like [.d (.lst [tN q, tN q]), .d (.lst [tN q, tN q])] m = .ok (.d (.bl true)) m := by
  rcases h with h | rfl
  · exact like_k ((Sm.lst (n := 2) (w := 86) (p := 2) (am_cons (sm_tN h) (am_cons (sm_tN h) am_nil)) (by simp)).ok (by decide) (by decide))
  · exact like_x (by kernel_rfl) (by rw [reprX_some (by decide +kernel) (by decide +kernel) (by decide +kernel) (by decide +kernel) (by decide +kernel), Bool.or_true])
theorem oB_ok (hL : Rd L) (h : DF S j b) (hb : b < 600000) {o1 o4 o5 o6 o7 o8 o9 oa ob oc od : Option Sv} (f1 : freeO o1 = true) (f4 : freeO o4 = true) (f5 : freeO o5 = true) (f6 : freeO o6 = true) (f7 : freeO o7 = true) (f9 : freeO o9 = true) (fa : freeO oa = true) (fb : freeO ob = true) (fd : freeO od = true) : ∃ o8' T, oB (eW ns o1 j L o4 o5 o6 o7 o8 o9 oa ob oc od) S = .nx (eW ns o1 j L o4 o5 o6 o7 o8' o9 oa ob oc od) T ∧ freeO o8' = true ∧ DF T j (b + 1) := by
  have el : sF (fLst (lCons (sC .non) (lCons (sUn oNeg (sC (.int 1))) (lCons (sUn oLen (sVar 3)) (lCons (sC (.bl true)) (lCons (sC (.str "0")) (lCons (sTup (lCons (sC (.int 0)) lNil)) (lCons (sC (.dic [])) lNil)))))))) (eW ns o1 j L o4 o5 o6 o7 o8 o9 oa ob oc od) S = .ok (.d (.lst [Dv.non, .int (-1), .int L.length, .bl true, .str "0", .tup [.int 0], .dic []])) S :=
    sF_ok (lst_ok (lCons_ok (sC_ok _) (lCons_ok (neg_i (sC_ok _)) (lCons_ok (len_en rfl) (lCons_ok (sC_ok _) (lCons_ok (sC_ok _) (lCons_ok (tup1 (sC_ok _)) (lCons_ok (sC_ok _) lNil_ok))))))) rfl rfl)
  obtain ⟨q, T, hq, e, s, d⟩ := d_of (i := 2) (en := eW ns o1 j L o4 o5 o6 o7 o8 o9 oa ob oc od) h (by omega) (by simp) (by simp) rfl el
  obtain ⟨ho, hf, hs⟩ := odds_ok rfl hL.hi q hq
  have t := told3 (ns := ns) (j := j) (oc := oc) (o7 := o7) hL ho hf d.fr (mem9 f1 f4 f5 f6 f7 f9 fa fb fd)
  refine ⟨some (.d q), T, (gSeq_ok (gSet_ok e)).trans (gif_b (b := !true) (bNot_ok (sT_ok (call2 (sF_ok t) (sBin_ok (sF_ok (lst_ok (lCons_ok (tup2 (sC_ok _) (sVar_ok (i := 8) rfl)) lNil_ok) rfl rfl)) (sC_ok _) rfl rfl (rep_l _ 2 (by decide))) (like_two hs T)))) rfl), hf, d⟩
theorem tB2_ok (hn : ns.length ≤ 63) (hk : k ≤ 3) (hS : S.all freeSo = true) {o2 o3 o4 o5 o6 o7 o8 : Option Sv} (f4 : freeO o4 = true) (f5 : freeO o5 = true) (f6 : freeO o6 = true) (f7 : freeO o7 = true) (f8 : freeO o8 = true) : ∃ j L o4' o5' o6' o7' o8' T, tB2 [some (.d (.scr ns)), some (.d (.int k)), o2, o3, o4, o5, o6, o7, o8, none, none, none, none, none] S = .nx (eW ns (some (.d (.int k))) j L o4' o5' o6' o7' o8' none none none none none) T ∧ freeO o4' = true ∧ freeO o5' = true ∧ freeO o6' = true ∧ freeO o7' = true ∧ freeO o8' = true ∧ T.all freeSo = true := by
  obtain ⟨x, eb, dr⟩ := begun_ok (ns := ns) (k := k) (m := S) hn hk
  rw [← e_begun] at eb
  have fx : freeSo x = true := by
    obtain ⟨L, Sd, C, p, q, _⟩ := dr
    rw [get_push] at q
    cases q
    exact dk_free _ _ _ _
  have df : DF (S ++ [x]) S.length 0 := ⟨dr, by rw [List.all_append, hS]; simp [fx]⟩
  obtain ⟨L, S1, e1, hL, s1, d1⟩ := v_round df (by decide)
  have q1 := gSet_ok (i := 2) (call2 (en := [some (.d (.scr ns)), some (.d (.int k)), o2, o3, o4, o5, o6, o7, o8, none, none, none, none, none]) (sVar_ok (i := 0) rfl) (sVar_ok (i := 1) rfl) eb)
  have q2 := gSet_ok (i := 3) (call1 (en := [some (.d (.scr ns)), some (.d (.int k)), some (.o S.length), o3, o4, o5, o6, o7, o8, none, none, none, none, none]) (sVar_ok (i := 2) rfl) e1)
  have q3 := gif_b (g1 := gRet (sC (.bl false))) (b := !true) (bNot_ok (sT_ok (call1 (en := eW ns (some (.d (.int k))) S.length L o4 o5 o6 o7 o8 none none none none none) (sVar_ok (i := 3) rfl) (v_right hL S1)))) rfl
  obtain ⟨en', S2, el, ⟨o4', o5', o6', o7', rfl, g4, g5, g6, g7⟩, d2⟩ := loop_nx (G := tgN 4) (body := aB) (xs := rng 0 5) (fun i en T => (∃ o4 o5 o6 o7, en = eW ns (some (.d (.int k))) S.length L o4 o5 o6 o7 o8 none none none none none ∧ freeO o4 = true ∧ freeO o5 = true ∧ freeO o6 = true ∧ freeO o7 = true) ∧ DF T S.length (40 + 40 * i)) (fun i y en T hy ⟨⟨p4, p5, p6, p7, hen, g4, g5, g6, g7⟩, dT⟩ => by
    subst hen
    obtain ⟨rfl, hi⟩ := rng_get hy
    obtain ⟨p5', p6', p7', T', e, g5', g6', g7', d'⟩ := aB_ok (ns := ns) (o5 := p5) (o6 := p6) (oc := none) hL (c := 0 + i) dT (by omega) (o1 := some (.d (.int k))) rfl g7 f8 (o9 := none) rfl (oa := none) rfl (ob := none) rfl (od := none) rfl
    exact ⟨_, rfl, _, T', e, ⟨_, _, _, _, rfl, rfl, g5', g6', g7'⟩, d'.mono (by omega)⟩) (en := eW ns (some (.d (.int k))) S.length L o4 o5 o6 o7 o8 none none none none none) (m := S1) ⟨⟨_, _, _, _, rfl, f4, f5, f6, f7⟩, d1.mono (by omega)⟩
  have q4 := (gFor_ok (iRange1_ok (sC_ok (.int 5)) (by decide) (by decide))).trans el
  rw [rng_len] at d2
  obtain ⟨o8', T, e5, g8, dT⟩ := oB_ok (ns := ns) (o1 := some (.d (.int k))) (o8 := o8) (oc := none) hL d2 (by omega) rfl g4 g5 g6 g7 (o9 := none) rfl (oa := none) rfl (ob := none) rfl (od := none) rfl
  exact ⟨S.length, L, o4', o5', o6', o7', o8', T, (gSeq_ok q1).trans ((gSeq_ok q2).trans ((gSeq_ok q3).trans ((gSeq_ok q4).trans e5))), g4, g5, g6, g7, g8, dT.fr⟩
end
end K59
end

section
set_option Elab.async false
set_option linter.all false
set_option maxRecDepth 100000
set_option maxHeartbeats 4000000
/-! RN: the law -/
namespace K59
open PySem PySem.Spec PyProof.Rows L2 EvL EvH RdP
def L3 : List P := [(1, 0), (0, 1), (-1, -1)]
def L4 : List P := [(1, 0), (0, 1), (-1, 5), (0, -1)]
theorem rd3 (n : Nat) (h : n ≤ 19) : Rd (rep L3 n) := by
  have c : Cl L3 := (adj_chain _).mp (by simp only [L3, List.cons_append, List.nil_append, List.take_succ_cons, List.take_zero, adj, D1, RdP.det]; decide)
  obtain ⟨r1, r2, r3, r4, r5⟩ := rep_ok c (by simp [L3]) n
  have l : (rep L3 n).length = (n + 1) * 3 := r4
  refine ⟨r1.rt (by omega), by omega, fun v hv => ?_⟩
  have : ∀ v ∈ L3, v.1.natAbs ≤ 1000 ∧ v.2.natAbs ≤ 1000 := by decide
  exact this v (r5 v hv)
theorem rd4 (n : Nat) (h : n ≤ 14) : Rd (rep L4 n) := by
  have c : Cl L4 := (adj_chain _).mp (by simp only [L4, List.cons_append, List.nil_append, List.take_succ_cons, List.take_zero, adj, D1, RdP.det]; decide)
  obtain ⟨r1, r2, r3, r4, r5⟩ := rep_ok c (by simp [L4]) n
  have l : (rep L4 n).length = (n + 1) * 4 := r4
  refine ⟨r1.rt (by omega), by omega, fun v hv => ?_⟩
  have : ∀ v ∈ L4, v.1.natAbs ≤ 1000 ∧ v.2.natAbs ≤ 1000 := by decide
  exact this v (r5 v hv)
abbrev e14 (s : Sv) (o1 o2 o3 o4 o5 o6 o7 o8 o9 oa ob oc od : Option Sv) : En := [some s, o1, o2, o3, o4, o5, o6, o7, o8, o9, oa, ob, oc, od]
abbrev d15 : List Dv := [.tup [.int (-1), .int (-1), .int (-1)], .int 1, .tup [.int 0, .int 5, .int 0, .int (-5)], .int 15, .bl false, .int 20]
def bads : List Dv := [.tup ((L3.map pt).reverse), en_ (rep L3 20), .tup ((L3.map pt).take 2), .tup [pt (0, 0), pt (0, 1), pt (-1, -1)], .tup [pt (1, 0), pt (0, 1), .tup [.int (-1), .non]]]
def due5 : List Dv := [tL (.tup [.int 0]), tL (.tup []), tL (.tup []), tL (.tup [.int 0]), tL (.tup [.int 2])]
theorem bads_ok : ∀ d ∈ bads, plA d = true ∧ isNon (flt d) = false := by
  refine am_cons ⟨by decide +kernel, by decide +kernel⟩ (am_cons ⟨pl_en _, by decide +kernel⟩ (am_cons ⟨by decide +kernel, by decide +kernel⟩ (am_cons ⟨by decide +kernel, by decide +kernel⟩ (am_cons ⟨by decide +kernel, by decide +kernel⟩ am_nil))))
theorem bads_due : bads.map (fun d => tL (flt d)) = due5 := by kernel_rfl
theorem like_end (m : Store) : f__law_like [.d (.lst (d15 ++ due5)), .d (.lst (d15 ++ due5))] m = .ok (.d (.bl true)) m := by
  have i : ∀ {x : Int}, x.natAbs < 10 ^ 12 → Sm 200 2 (.int x) := fun h => (Sm.int h).mono (by decide) (by decide)
  have t : ∀ l : List Int, l.length ≤ 4 → (∀ x ∈ l, x.natAbs < 10 ^ 12) → Sm 200 2 (.tup (l.map .int)) := fun l hl hx => (Sm.tup (n := 4) (w := 41) (p := 0) (fun y hy => by
    obtain ⟨x, hx', rfl⟩ := List.mem_map.mp hy
    exact Sm.int (hx x hx')) (by simpa using hl)).mono (by decide) (by decide)
  have u : ∀ l : List Int, l.length ≤ 1 → (∀ x ∈ l, x.natAbs < 10 ^ 12) → Sm 200 2 (tL (.tup (l.map .int))) := fun l hl hx => (sm_tL (Sm.tup (n := 1) (w := 41) (p := 0) (fun y hy => by
    obtain ⟨x, hx', rfl⟩ := List.mem_map.mp hy
    exact Sm.int (hx x hx')) (by simpa using hl))).mono (by decide) (by decide)
  refine like_k ((Sm.lst (n := 11) (w := 200) (p := 2) ?_ (by decide)).ok (by decide) (by decide))
  exact am_cons (t [-1, -1, -1] (by decide) (by decide)) (am_cons (i (by decide)) (am_cons (t [0, 5, 0, -5] (by decide) (by decide)) (am_cons (i (by decide)) (am_cons ((Sm.bl false).mono (by decide) (by decide)) (am_cons (i (by decide)) (am_cons (u [0] (by decide) (by decide)) (am_cons (u [] (by decide) (by decide)) (am_cons (u [] (by decide) (by decide)) (am_cons (u [0] (by decide) (by decide)) (am_cons (u [2] (by decide) (by decide)) am_nil))))))))))
abbrev fB : SemS := (gSeq (gAsg (sTup (lCons (sTup (lCons (sTup (lCons (sC (.int 1)) (lCons (sC (.int 0)) lNil))) (lCons (sTup (lCons (sC (.int 0)) (lCons (sC (.int 1)) lNil))) (lCons (sTup (lCons (sUn oNeg (sC (.int 1))) (lCons (sUn oNeg (sC (.int 1))) lNil))) lNil)))) (lCons (sTup (lCons (sTup (lCons (sC (.int 1)) (lCons (sC (.int 0)) lNil))) (lCons (sTup (lCons (sC (.int 0)) (lCons (sC (.int 1)) lNil))) (lCons (sTup (lCons (sUn oNeg (sC (.int 1))) (lCons (sC (.int 5)) lNil))) (lCons (sTup (lCons (sC (.int 0)) (lCons (sUn oNeg (sC (.int 1))) lNil))) lNil))))) lNil))) (tgTup 2 (tgCons (tgN 9) (tgCons (tgN 10) tgNil)))) (gSeq (gSet 7 (sF (fLst (lCons (sCall f_round_numbers (lCons (sVar 9) lNil)) (lCons (sCall f_turns_of (lCons (sVar 9) lNil)) (lCons (sCall f_round_numbers (lCons (sVar 10) lNil)) (lCons (sCall f_turns_of (lCons (sBin oMulP (sVar 10) (sC (.int 15))) lNil)) (lCons (sCall f_is_round (lCons (sBin oMulP (sVar 10) (sC (.int 16))) lNil)) (lCons (sCall f_turns_of (lCons (sBin oMulP (sVar 9) (sC (.int 20))) lNil)) lNil))))))))) (gSeq (gSet 11 (sF (fLst (lCons (sTup (lCons (sUn oNeg (sC (.int 1))) (lCons (sUn oNeg (sC (.int 1))) (lCons (sUn oNeg (sC (.int 1))) lNil)))) (lCons (sC (.int 1)) (lCons (sTup (lCons (sC (.int 0)) (lCons (sC (.int 5)) (lCons (sC (.int 0)) (lCons (sUn oNeg (sC (.int 5))) lNil))))) (lCons (sC (.int 15)) (lCons (sC (.bl false)) (lCons (sC (.int 20)) lNil))))))))) (gSeq (gSet 7 (sBin oAddP (sVar 7) (sF (fComp (iSeq (sTup (lCons (sRevP (sVar 9)) (lCons (sBin oMulP (sVar 9) (sC (.int 21))) (lCons (sSlP (sVar 9) oNo (oYes (sC (.int 2)))) (lCons (sTup (lCons (sTup (lCons (sC (.int 0)) (lCons (sC (.int 0)) lNil))) (lCons (sTup (lCons (sC (.int 0)) (lCons (sC (.int 1)) lNil))) (lCons (sTup (lCons (sUn oNeg (sC (.int 1))) (lCons (sUn oNeg (sC (.int 1))) lNil))) lNil)))) (lCons (sTup (lCons (sTup (lCons (sC (.int 1)) (lCons (sC (.int 0)) lNil))) (lCons (sTup (lCons (sC (.int 0)) (lCons (sC (.int 1)) lNil))) (lCons (sTup (lCons (sUn oNeg (sC (.int 1))) (lCons (sC .non) lNil))) lNil)))) lNil))))))) (tgN 13) bYes (sHeardB 2 g__law_heard (sCall f_need_round (lCons (sVar 13) lNil))) [13])))) (gRet (sCall f__law_like (lCons (sVar 7) (lCons (sBin oAddP (sVar 11) (sF (fLst (lCons (sTup (lCons (sC (.str "lot")) (lCons (sTup (lCons (sC (.int 0)) lNil)) lNil))) (lCons (sTup (lCons (sC (.str "lot")) (lCons (sTup lNil) lNil))) (lCons (sTup (lCons (sC (.str "lot")) (lCons (sTup lNil) lNil))) (lCons (sTup (lCons (sC (.str "lot")) (lCons (sTup (lCons (sC (.int 0)) lNil)) lNil))) (lCons (sTup (lCons (sC (.str "lot")) (lCons (sTup (lCons (sC (.int 2)) lNil)) lNil))) lNil)))))))) lNil))))))))
theorem mulR {L : List P} {n : Nat} {i : Nat} {en : En} {m : Store} {c : Int} (h : en[i]? = some (some (.d (en_ L)))) (hc : c = ((n + 1 : Nat) : Int)) (hn : n ≤ 30) (hL : L ≠ []) (hl : L.length ≤ 60) : sBin oMulP (sVar i) (sC (.int c)) en m = .ok (.d (en_ (rep L n))) m := by
  subst hc
  refine sBin_ok (sVar_ok h) (sC_ok _) rfl rfl ?_
  have := rep_T (xs := L.map pt) (d := n + 1) ⟨by omega, by omega⟩ (by simpa using hL) (by simp; omega)
  rw [rep_fl] at this
  exact this
theorem fB_ok {s : Dv} (hs : lamFree s = true) {S : Store} (hS : S.all freeSo = true) {o1 o2 o3 o4 o5 o6 o7 o8 o9 oa ob oc od : Option Sv} (hf : ∀ o ∈ [o1, o2, o3, o4, o5, o6, o8, oc], freeO o = true) : fB (e14 (.d s) o1 o2 o3 o4 o5 o6 o7 o8 o9 oa ob oc od) S = .rt (.d (.bl true)) S := by
  have n1 : ∀ E, sUn oNeg (sC (.int 1)) E S = .ok (.d (.int (-1))) S := fun E => neg_i (sC_ok _)
  have q1 : gAsg (sTup (lCons (sTup (lCons (sTup (lCons (sC (.int 1)) (lCons (sC (.int 0)) lNil))) (lCons (sTup (lCons (sC (.int 0)) (lCons (sC (.int 1)) lNil))) (lCons (sTup (lCons (sUn oNeg (sC (.int 1))) (lCons (sUn oNeg (sC (.int 1))) lNil))) lNil)))) (lCons (sTup (lCons (sTup (lCons (sC (.int 1)) (lCons (sC (.int 0)) lNil))) (lCons (sTup (lCons (sC (.int 0)) (lCons (sC (.int 1)) lNil))) (lCons (sTup (lCons (sUn oNeg (sC (.int 1))) (lCons (sC (.int 5)) lNil))) (lCons (sTup (lCons (sC (.int 0)) (lCons (sUn oNeg (sC (.int 1))) lNil))) lNil))))) lNil))) (tgTup 2 (tgCons (tgN 9) (tgCons (tgN 10) tgNil))) (e14 (.d s) o1 o2 o3 o4 o5 o6 o7 o8 o9 oa ob oc od) S = .nx (e14 (.d s) o1 o2 o3 o4 o5 o6 o7 o8 (some (.d (en_ L3))) (some (.d (en_ L4))) ob oc od) S := gAsg_ok (x := .d (.tup [en_ L3, en_ L4])) rfl rfl
  have r3 := rd3 0 (by decide)
  have r4 := rd4 0 (by decide)
  have r15 := rd4 14 (by decide)
  have r20 := rd3 19 (by decide)
  have E3 : rep L3 0 = L3 := rfl
  have E4 : rep L4 0 = L4 := rfl
  rw [E3] at r3
  rw [E4] at r4
  have v1 : numsD L3 = [.int (-1), .int (-1), .int (-1)] := by kernel_rfl
  have v2 : turn L3 = 1 := by decide +kernel
  have v3 : numsD L4 = [.int 0, .int 5, .int 0, .int (-5)] := by kernel_rfl
  have v4 : turn (rep L4 14) = 15 := by decide +kernel
  have v5 : isNon (flt (en_ (rep L4 15))) = false := by decide +kernel
  have v6 : turn (rep L3 19) = 20 := by decide +kernel
  let E := e14 (.d s) o1 o2 o3 o4 o5 o6 o7 o8 (some (.d (en_ L3))) (some (.d (en_ L4))) ob oc od
  have c1 := call1 (en := E) (sVar_ok (i := 9) rfl) (p_round_numbers r3 S)
  have c2 := call1 (en := E) (sVar_ok (i := 9) rfl) (p_turns r3 S)
  have c3 := call1 (en := E) (sVar_ok (i := 10) rfl) (p_round_numbers r4 S)
  have c4 := call1 (en := E) (mulR (n := 14) (i := 10) (L := L4) (c := 15) rfl rfl (by decide) (by decide) (by decide)) (p_turns r15 S)
  have c5 := call1 (en := E) (mulR (n := 15) (i := 10) (L := L4) (c := 16) rfl rfl (by decide) (by decide) (by decide)) (p_is (pl_en _) S)
  have c6 := call1 (en := E) (mulR (n := 19) (i := 9) (L := L3) (c := 20) rfl rfl (by decide) (by decide) (by decide)) (p_turns r20 S)
  rw [v1] at c1
  rw [v2] at c2
  rw [v3] at c3
  rw [v4] at c4
  rw [v5] at c5
  rw [v6] at c6
  have q2 := gSet_ok (i := 7) (sF_ok (lst_ok (l := d15) (lCons_ok c1 (lCons_ok c2 (lCons_ok c3 (lCons_ok c4 (lCons_ok c5 (lCons_ok c6 lNil_ok)))))) rfl rfl))
  have q3 : gSet 11 (sF (fLst (lCons (sTup (lCons (sUn oNeg (sC (.int 1))) (lCons (sUn oNeg (sC (.int 1))) (lCons (sUn oNeg (sC (.int 1))) lNil)))) (lCons (sC (.int 1)) (lCons (sTup (lCons (sC (.int 0)) (lCons (sC (.int 5)) (lCons (sC (.int 0)) (lCons (sUn oNeg (sC (.int 5))) lNil))))) (lCons (sC (.int 15)) (lCons (sC (.bl false)) (lCons (sC (.int 20)) lNil)))))))) (e14 (.d s) o1 o2 o3 o4 o5 o6 (some (.d (.lst d15))) o8 (some (.d (en_ L3))) (some (.d (en_ L4))) ob oc od) S = .nx (e14 (.d s) o1 o2 o3 o4 o5 o6 (some (.d (.lst d15))) o8 (some (.d (en_ L3))) (some (.d (en_ L4))) (some (.d (.lst d15))) oc od) S := gSet_ok (x := .d (.lst d15)) rfl
  let F := e14 (.d s) o1 o2 o3 o4 o5 o6 (some (.d (.lst d15))) o8 (some (.d (en_ L3))) (some (.d (en_ L4))) (some (.d (.lst d15))) oc od
  have rv3 : sRevP (sVar 9) F S = .ok (.d (.tup ((L3.map pt).reverse))) S := rfl
  have sl3 : sSlP (sVar 9) oNo (oYes (sC (.int 2))) F S = .ok (.d (.tup ((L3.map pt).take 2))) S := sl_take (k := 2) rfl (by decide) (sVar_ok (i := 9) rfl) (oYes_ok (sC_ok _))
  have ml3 : sBin oMulP (sVar 9) (sC (.int 21)) F S = .ok (.d (en_ (rep L3 20))) S := mulR (n := 20) (i := 9) (L := L3) (c := 21) rfl rfl (by decide) (by decide) (by decide)
  have it := iSeq_t (tup_ok (l := bads) (lCons_ok rv3 (lCons_ok ml3 (lCons_ok sl3 (lCons_ok (tup3 (a := pt (0, 0)) (b := pt (0, 1)) (c := pt (-1, -1)) (tup2 (sC_ok _) (sC_ok _)) (tup2 (sC_ok _) (sC_ok _)) (tup2 (n1 _) (n1 _))) (lCons_ok (tup3 (a := pt (1, 0)) (b := pt (0, 1)) (c := .tup [.int (-1), .non]) (tup2 (sC_ok _) (sC_ok _)) (tup2 (sC_ok _) (sC_ok _)) (tup2 (n1 _) (sC_ok _))) lNil_ok))))) rfl rfl)
  have co := comp_free (vs := [13]) (G := tgN 13) (f := sHeardB 2 g__law_heard (sCall f_need_round (lCons (sVar 13) lNil))) (fun d => tL (flt d)) it (by decide) hS (fun d _ => free_tl d) (fun d M hd hM => by
    obtain ⟨h1, h2⟩ := bads_ok d hd
    refine ⟨_, rfl, heardB (o := .e (xL d)) ?_ hM (sCall_ex2 (lCons_ok (sVar_ok (i := 13) rfl) lNil_ok) (p_need_bad h1 (flt_ne h2) M)) rfl (free_tl d)⟩
    rw [enFree_eq]
    simp only [List.mem_cons, List.not_mem_nil, or_false, forall_eq_or_imp, forall_eq] at hf
    obtain ⟨f1, f2, f3, f4, f5, f6, f8, fc⟩ := hf
    show (freeO (some (.d s)) && (freeO o1 && (freeO o2 && (freeO o3 && (freeO o4 && (freeO o5 && (freeO o6 && (freeO (some (.d (.lst d15))) && (freeO o8 && (freeO (some (.d (en_ L3))) && (freeO (some (.d (en_ L4))) && (freeO (some (.d (.lst d15))) && (freeO oc && (freeO (some (.d d)) && true)))))))))))))) = true
    rw [f1, f2, f3, f4, f5, f6, f8, fc, show freeO (some (.d s)) = true from hs, show freeO (some (.d (en_ L3))) = true from pl_free _ (pl_en _), show freeO (some (.d (en_ L4))) = true from pl_free _ (pl_en _), show freeO (some (.d d)) = true from pl_free _ h1]
    rfl)
  rw [bads_due] at co
  have q4 := gSet_ok (i := 7) (sBin_ok (op := oAddP) (sVar_ok (en := F) (i := 7) (x := .d (.lst d15)) rfl) (sF_ok co) rfl rfl (cat_l (xs := d15) (ys := due5) (by decide)))
  refine (gSeq_ok q1).trans ((gSeq_ok q2).trans ((gSeq_ok q3).trans ((gSeq_ok q4).trans (gRet_ok (call2 (sVar_ok (i := 7) rfl) (sBin_ok (op := oAddP) (sVar_ok (i := 11) (x := .d (.lst d15)) rfl) (show _ = Rs.ok (Sv.d (.lst due5)) S from rfl) rfl rfl (cat_l (xs := d15) (ys := due5) (by decide))) (like_end S))))))
theorem law_true (ns : List Int) (h : ns.length ≤ 63) : ∃ m, f_law [.d (.scr ns)] [] = .ok (.d (.bl true)) m := by
  have ex : ∃ n : Nat, n ≤ 3 ∧ iRange1 (sBin oAddP (sC (.int 1)) (sTwo (fun i j => if j < i then j else i) (sC (.int 2)) (sUn oLen (sVar 0)))) (e14 (.d (.scr ns)) none none none none none none none none none none none none none) [] = .ok (rng 0 n) [] := by
    have e1 : sUn oLen (sVar 0) (e14 (.d (.scr ns)) none none none none none none none none none none none none none) [] = .ok (.d (.int ns.length)) [] := sUn_ok (sVar_ok rfl) rfl (by simp [oLen])
    have e2 : sTwo (fun i j => if j < i then j else i) (sC (.int 2)) (sUn oLen (sVar 0)) (e14 (.d (.scr ns)) none none none none none none none none none none none none none) [] = .ok (.d (.int (if (ns.length : Int) < 2 then (ns.length : Int) else 2))) [] := sBin_ok (sC_ok _) e1 rfl rfl rfl
    refine ⟨1 + (if ns.length < 2 then ns.length else 2), by split <;> omega, iRange1_ok ?_ (by split <;> omega) (by split <;> omega)⟩
    have : (((1 + (if ns.length < 2 then ns.length else 2) : Nat)) : Int) = 1 + (if (ns.length : Int) < 2 then (ns.length : Int) else 2) := by split <;> split <;> omega
    rw [this]
    exact sBin_ok (sC_ok _) e2 rfl rfl rfl
  obtain ⟨n, hn, er⟩ := ex
  obtain ⟨en', S, e, ⟨o1, o2, o3, o4, o5, o6, o7, o8, rfl, f1, f2, f3, f4, f5, f6, f7, f8⟩, hS⟩ := loop_nx (G := tgN 1) (body := tB2) (xs := rng 0 n)
    (fun i en S => (∃ o1 o2 o3 o4 o5 o6 o7 o8, en = e14 (.d (.scr ns)) o1 o2 o3 o4 o5 o6 o7 o8 none none none none none ∧ freeO o1 = true ∧ freeO o2 = true ∧ freeO o3 = true ∧ freeO o4 = true ∧ freeO o5 = true ∧ freeO o6 = true ∧ freeO o7 = true ∧ freeO o8 = true) ∧ S.all freeSo = true)
    (fun i y en S hy ⟨⟨o1, o2, o3, o4, o5, o6, o7, o8, hen, _, _, _, f4, f5, f6, f7, f8⟩, hS⟩ => by
      subst hen
      obtain ⟨rfl, hi⟩ := rng_get hy
      rw [Int.zero_add]
      obtain ⟨j, L, p4, p5, p6, p7, p8, T, eb, g4, g5, g6, g7, g8, hT⟩ := tB2_ok (ns := ns) (k := i) (o2 := o2) (o3 := o3) h (by omega) hS f4 f5 f6 f7 f8
      exact ⟨_, rfl, _, T, .inl eb, ⟨some (.d (.int i)), some (.o j), some (.d (en_ L)), p4, p5, p6, p7, p8, rfl, rfl, rfl, pl_free _ (pl_en L), g4, g5, g6, g7, g8⟩, hT⟩)
    (en := e14 (.d (.scr ns)) none none none none none none none none none none none none none) (m := []) ⟨⟨none, none, none, none, none, none, none, none, rfl, rfl, rfl, rfl, rfl, rfl, rfl, rfl, rfl⟩, rfl⟩
  have el := fB_ok (s := .scr ns) rfl hS (o7 := o7) (o9 := none) (oa := none) (ob := none) (od := none) (am_cons f1 (am_cons f2 (am_cons f3 (am_cons f4 (am_cons f5 (am_cons f6 (am_cons f8 (am_cons (show freeO none = true from rfl) am_nil))))))))
  have e1 : g_law (start0 14 [.d (.scr ns)]) [] = .rt (.d (.bl true)) S := (gSeq_ok ((gFor_ok er).trans e)).trans el
  exact ⟨_, fnL_d rfl e1 rfl rfl⟩
end K59
end

section

end

section
set_option Elab.async false
open PySem PySem.W PyProof.Rows
set_option maxRecDepth 100000 in
set_option maxHeartbeats 0 in
theorem PySem.Challenge.cw_gridbodies_k59_rounds_judged_holds : PySem.Challenge.rw_gridbodies_k59_rounds_judged.Holds := by
  w_on; o_law; k_head; (case hw => w_witness2)
  k_fill
  refine EvL.walkGT (l := PySem.Challenge.rw_gridbodies_k59_rounds_judged) (n := 63) (k := 13) (x := "script") (g := K59.f_law) rfl (by decide) rfl ⟨rfl, by decide, by decide⟩ (fun w h Y => PySem.W.km_in_of Y) ?F K59.law_true
  case F =>
    intro w mg h Y KX G
    refine' K59.head_mk ?b_abs ?b_all ?b_bool ?b_enumerate ?b_int ?b_isinstance ?b_len ?b_list ?b_min ?b_range ?b_repr ?b_sum ?b_tuple ?b_zip ?c_MOST_PLACE ?c_MOST_ROUND ?e_BadNumber ?e_BadLot ?e_TooGreat ?e_Unlike ?x_0_0 ?x_0_1 ?x_0_2 ?x_0_3 ?x_1_0 ?x_1_1 ?x_1_2 ?x_1_3 ?x_2_0 ?x_2_1 ?x_2_2 ?x_2_3 ?x_3_0 ?x_3_1 ?x_3_2 ?x_3_3 ?f_need_round ?f_round_numbers ?f_turns_of ?f_round_raised ?f_round_lowered ?d_is_integer ?d_is_from ?d_is_pair ?d_next_pairs ?d_determinant ?d_round_fault ?d_need_round ?d_numbers_in ?d_round_numbers ?d_goes_past ?d_turns_of ?d_need_place ?d_round_raised ?d_round_lowered ?d__law_begun ?d__law_draw ?d__law_of ?d__law_shuffled ?d__law_some_turn ?d__law_of_two ?d__law_moved ?d__law_some_round ?d__law_like ?d__law_quarter ?d_is_round ?d__law_right ?d__law_bent ?d__law_fault ?d__law_heard ?l_law ?p_law ?tE0 ?tK0 ?tC0
    case b_abs => exact PySem.W.mg_none_of KX G (by k_is)
    case b_all => exact PySem.W.mg_none_of KX G (by k_is)
    case b_bool => exact PySem.W.mg_none_of KX G (by k_is)
    case b_enumerate => exact PySem.W.mg_none_of KX G (by k_is)
    case b_int => exact PySem.W.mg_none_of KX G (by k_is)
    case b_isinstance => exact PySem.W.mg_none_of KX G (by k_is)
    case b_len => exact PySem.W.mg_none_of KX G (by k_is)
    case b_list => exact PySem.W.mg_none_of KX G (by k_is)
    case b_min => exact PySem.W.mg_none_of KX G (by k_is)
    case b_range => exact PySem.W.mg_none_of KX G (by k_is)
    case b_repr => exact PySem.W.mg_none_of KX G (by k_is)
    case b_sum => exact PySem.W.mg_none_of KX G (by k_is)
    case b_tuple => exact PySem.W.mg_none_of KX G (by k_is)
    case b_zip => exact PySem.W.mg_none_of KX G (by k_is)
    case c_MOST_PLACE => exact ⟨_, PySem.W.mg_of KX G (by k_is)⟩
    case c_MOST_ROUND => exact ⟨_, PySem.W.mg_of KX G (by k_is)⟩
    case e_BadNumber => refine' EvL.er1_mk KX G ?aC ?xL ?sa ?noN ?iC ?tC ?kC ?exC ?veC ?tyC ?op ?lI ?cI ?lc ?hv ?lcell ?sp ?ga ?gg ?hdC ?hbm ?su ?hfile ?hln ?hbn ?top ?okf ?hp; (case aC => k_is); (case xL => k_is); (case sa => k_is); (case noN => k_is); (case iC => k_is); (case tC => k_is); (case kC => k_is); (case exC => k_is); (case veC => k_is); (case tyC => k_is); (case op => k_is); (case lI => k_is); (case cI => k_is); (case lc => k_is); (case hv => rfl); (case lcell => k_is); (case sp => k_is); (case ga => k_is); (case gg => k_is); (case hdC => k_is); (case hbm => decide +kernel); (case su => first | k_is | kernel_rfl); (case hfile => first | rfl | decide +kernel); (case hln => rfl); (case hbn => exact fun a b => rfl); (case top => first | rfl | decide +kernel); (case okf => first | rfl | decide +kernel); (case hp => decide)
    case e_BadLot => refine' EvL.er1_mk KX G ?aC ?xL ?sa ?noN ?iC ?tC ?kC ?exC ?veC ?tyC ?op ?lI ?cI ?lc ?hv ?lcell ?sp ?ga ?gg ?hdC ?hbm ?su ?hfile ?hln ?hbn ?top ?okf ?hp; (case aC => k_is); (case xL => k_is); (case sa => k_is); (case noN => k_is); (case iC => k_is); (case tC => k_is); (case kC => k_is); (case exC => k_is); (case veC => k_is); (case tyC => k_is); (case op => k_is); (case lI => k_is); (case cI => k_is); (case lc => k_is); (case hv => rfl); (case lcell => k_is); (case sp => k_is); (case ga => k_is); (case gg => k_is); (case hdC => k_is); (case hbm => decide +kernel); (case su => first | k_is | kernel_rfl); (case hfile => first | rfl | decide +kernel); (case hln => rfl); (case hbn => exact fun a b => rfl); (case top => first | rfl | decide +kernel); (case okf => first | rfl | decide +kernel); (case hp => decide)
    case e_TooGreat => refine' EvL.er1_mk KX G ?aC ?xL ?sa ?noN ?iC ?tC ?kC ?exC ?veC ?tyC ?op ?lI ?cI ?lc ?hv ?lcell ?sp ?ga ?gg ?hdC ?hbm ?su ?hfile ?hln ?hbn ?top ?okf ?hp; (case aC => k_is); (case xL => k_is); (case sa => k_is); (case noN => k_is); (case iC => k_is); (case tC => k_is); (case kC => k_is); (case exC => k_is); (case veC => k_is); (case tyC => k_is); (case op => k_is); (case lI => k_is); (case cI => k_is); (case lc => k_is); (case hv => rfl); (case lcell => k_is); (case sp => k_is); (case ga => k_is); (case gg => k_is); (case hdC => k_is); (case hbm => decide +kernel); (case su => first | k_is | kernel_rfl); (case hfile => first | rfl | decide +kernel); (case hln => rfl); (case hbn => exact fun a b => rfl); (case top => first | rfl | decide +kernel); (case okf => first | rfl | decide +kernel); (case hp => decide)
    case e_Unlike => refine' EvL.er0_mk KX G ?aC ?xq ?kC ?exC ?tyC; (case aC => k_is); (case xq => first | k_is | kernel_rfl); (case kC => k_is); (case exC => k_is); (case tyC => k_is)
    case x_0_0 => first | k_is | kernel_rfl
    case x_0_1 => first | k_is | kernel_rfl
    case x_0_2 => first | k_is | kernel_rfl
    case x_0_3 => first | k_is | kernel_rfl
    case x_1_0 => first | k_is | kernel_rfl
    case x_1_1 => first | k_is | kernel_rfl
    case x_1_2 => first | k_is | kernel_rfl
    case x_1_3 => first | k_is | kernel_rfl
    case x_2_0 => first | k_is | kernel_rfl
    case x_2_1 => first | k_is | kernel_rfl
    case x_2_2 => first | k_is | kernel_rfl
    case x_2_3 => first | k_is | kernel_rfl
    case x_3_0 => first | k_is | kernel_rfl
    case x_3_1 => first | k_is | kernel_rfl
    case x_3_2 => first | k_is | kernel_rfl
    case x_3_3 => first | k_is | kernel_rfl
    case f_need_round => exact PySem.W.mg_of KX G (by k_is)
    case f_round_numbers => exact PySem.W.mg_of KX G (by k_is)
    case f_turns_of => exact PySem.W.mg_of KX G (by k_is)
    case f_round_raised => exact PySem.W.mg_of KX G (by k_is)
    case f_round_lowered => exact PySem.W.mg_of KX G (by k_is)
    case d_is_integer => refine' EvL.dt_mk KX G ?a ?l ?c ?k (fun _ _ _ _ _ _ us hl => match us, hl with | [_], _ => rfl) (fun _ _ _ _ _ _ us hl => match us, hl with | [_], _ => rfl); (case a => k_is); (case l => k_is); (case c => k_is); (case k => k_is)
    case d_is_from => refine' EvL.dt_mk KX G ?a ?l ?c ?k (fun _ _ _ _ _ _ us hl => match us, hl with | [_, _, _], _ => rfl) (fun _ _ _ _ _ _ us hl => match us, hl with | [_, _, _], _ => rfl); (case a => k_is); (case l => k_is); (case c => k_is); (case k => k_is)
    case d_is_pair => refine' EvL.dt_mk KX G ?a ?l ?c ?k (fun _ _ _ _ _ _ us hl => match us, hl with | [_], _ => rfl) (fun _ _ _ _ _ _ us hl => match us, hl with | [_], _ => rfl); (case a => k_is); (case l => k_is); (case c => k_is); (case k => k_is)
    case d_next_pairs => refine' EvL.dt_mk KX G ?a ?l ?c ?k (fun _ _ _ _ _ _ us hl => match us, hl with | [_], _ => rfl) (fun _ _ _ _ _ _ us hl => match us, hl with | [_], _ => rfl); (case a => k_is); (case l => k_is); (case c => k_is); (case k => k_is)
    case d_determinant => refine' EvL.dt_mk KX G ?a ?l ?c ?k (fun _ _ _ _ _ _ us hl => match us, hl with | [_, _], _ => rfl) (fun _ _ _ _ _ _ us hl => match us, hl with | [_, _], _ => rfl); (case a => k_is); (case l => k_is); (case c => k_is); (case k => k_is)
    case d_round_fault => refine' EvL.dt_mk KX G ?a ?l ?c ?k (fun _ _ _ _ _ _ us hl => match us, hl with | [_], _ => rfl) (fun _ _ _ _ _ _ us hl => match us, hl with | [_], _ => rfl); (case a => k_is); (case l => k_is); (case c => k_is); (case k => k_is)
    case d_need_round => refine' EvL.dt_mk KX G ?a ?l ?c ?k (fun _ _ _ _ _ _ us hl => match us, hl with | [_], _ => rfl) (fun _ _ _ _ _ _ us hl => match us, hl with | [_], _ => rfl); (case a => k_is); (case l => k_is); (case c => k_is); (case k => k_is)
    case d_numbers_in => refine' EvL.dt_mk KX G ?a ?l ?c ?k (fun _ _ _ _ _ _ us hl => match us, hl with | [_], _ => rfl) (fun _ _ _ _ _ _ us hl => match us, hl with | [_], _ => rfl); (case a => k_is); (case l => k_is); (case c => k_is); (case k => k_is)
    case d_round_numbers => refine' EvL.dt_mk KX G ?a ?l ?c ?k (fun _ _ _ _ _ _ us hl => match us, hl with | [_], _ => rfl) (fun _ _ _ _ _ _ us hl => match us, hl with | [_], _ => rfl); (case a => k_is); (case l => k_is); (case c => k_is); (case k => k_is)
    case d_goes_past => refine' EvL.dt_mk KX G ?a ?l ?c ?k (fun _ _ _ _ _ _ us hl => match us, hl with | [_, _], _ => rfl) (fun _ _ _ _ _ _ us hl => match us, hl with | [_, _], _ => rfl); (case a => k_is); (case l => k_is); (case c => k_is); (case k => k_is)
    case d_turns_of => refine' EvL.dt_mk KX G ?a ?l ?c ?k (fun _ _ _ _ _ _ us hl => match us, hl with | [_], _ => rfl) (fun _ _ _ _ _ _ us hl => match us, hl with | [_], _ => rfl); (case a => k_is); (case l => k_is); (case c => k_is); (case k => k_is)
    case d_need_place => refine' EvL.dt_mk KX G ?a ?l ?c ?k (fun _ _ _ _ _ _ us hl => match us, hl with | [_, _], _ => rfl) (fun _ _ _ _ _ _ us hl => match us, hl with | [_, _], _ => rfl); (case a => k_is); (case l => k_is); (case c => k_is); (case k => k_is)
    case d_round_raised => refine' EvL.dt_mk KX G ?a ?l ?c ?k (fun _ _ _ _ _ _ us hl => match us, hl with | [_, _], _ => rfl) (fun _ _ _ _ _ _ us hl => match us, hl with | [_, _], _ => rfl); (case a => k_is); (case l => k_is); (case c => k_is); (case k => k_is)
    case d_round_lowered => refine' EvL.dt_mk KX G ?a ?l ?c ?k (fun _ _ _ _ _ _ us hl => match us, hl with | [_, _], _ => rfl) (fun _ _ _ _ _ _ us hl => match us, hl with | [_, _], _ => rfl); (case a => k_is); (case l => k_is); (case c => k_is); (case k => k_is)
    case d__law_begun => refine' EvL.dt_mk KX G ?a ?l ?c ?k (fun _ _ _ _ _ _ us hl => match us, hl with | [_, _], _ => rfl) (fun _ _ _ _ _ _ us hl => match us, hl with | [_, _], _ => rfl); (case a => k_is); (case l => k_is); (case c => k_is); (case k => k_is)
    case d__law_draw => refine' EvL.dt_mk KX G ?a ?l ?c ?k (fun _ _ _ _ _ _ us hl => match us, hl with | [_, _], _ => rfl) (fun _ _ _ _ _ _ us hl => match us, hl with | [_, _], _ => rfl); (case a => k_is); (case l => k_is); (case c => k_is); (case k => k_is)
    case d__law_of => refine' EvL.dt_mk KX G ?a ?l ?c ?k (fun _ _ _ _ _ _ us hl => match us, hl with | [_, _], _ => rfl) (fun _ _ _ _ _ _ us hl => match us, hl with | [_, _], _ => rfl); (case a => k_is); (case l => k_is); (case c => k_is); (case k => k_is)
    case d__law_shuffled => refine' EvL.dt_mk KX G ?a ?l ?c ?k (fun _ _ _ _ _ _ us hl => match us, hl with | [_, _], _ => rfl) (fun _ _ _ _ _ _ us hl => match us, hl with | [_, _], _ => rfl); (case a => k_is); (case l => k_is); (case c => k_is); (case k => k_is)
    case d__law_some_turn => refine' EvL.dt_mk KX G ?a ?l ?c ?k (fun _ _ _ _ _ _ us hl => match us, hl with | [_, _], _ => rfl) (fun _ _ _ _ _ _ us hl => match us, hl with | [_, _], _ => rfl); (case a => k_is); (case l => k_is); (case c => k_is); (case k => k_is)
    case d__law_of_two => refine' EvL.dt_mk KX G ?a ?l ?c ?k (fun _ _ _ _ _ _ us hl => match us, hl with | [_, _], _ => rfl) (fun _ _ _ _ _ _ us hl => match us, hl with | [_, _], _ => rfl); (case a => k_is); (case l => k_is); (case c => k_is); (case k => k_is)
    case d__law_moved => refine' EvL.dt_mk KX G ?a ?l ?c ?k (fun _ _ _ _ _ _ us hl => match us, hl with | [_, _, _], _ => rfl) (fun _ _ _ _ _ _ us hl => match us, hl with | [_, _, _], _ => rfl); (case a => k_is); (case l => k_is); (case c => k_is); (case k => k_is)
    case d__law_some_round => refine' EvL.dt_mk KX G ?a ?l ?c ?k (fun _ _ _ _ _ _ us hl => match us, hl with | [_], _ => rfl) (fun _ _ _ _ _ _ us hl => match us, hl with | [_], _ => rfl); (case a => k_is); (case l => k_is); (case c => k_is); (case k => k_is)
    case d__law_like => refine' EvL.dt_mk KX G ?a ?l ?c ?k (fun _ _ _ _ _ _ us hl => match us, hl with | [_, _], _ => rfl) (fun _ _ _ _ _ _ us hl => match us, hl with | [_, _], _ => rfl); (case a => k_is); (case l => k_is); (case c => k_is); (case k => k_is)
    case d__law_quarter => refine' EvL.dt_mk KX G ?a ?l ?c ?k (fun _ _ _ _ _ _ us hl => match us, hl with | [_], _ => rfl) (fun _ _ _ _ _ _ us hl => match us, hl with | [_], _ => rfl); (case a => k_is); (case l => k_is); (case c => k_is); (case k => k_is)
    case d_is_round => refine' EvL.dt_mk KX G ?a ?l ?c ?k (fun _ _ _ _ _ _ us hl => match us, hl with | [_], _ => rfl) (fun _ _ _ _ _ _ us hl => match us, hl with | [_], _ => rfl); (case a => k_is); (case l => k_is); (case c => k_is); (case k => k_is)
    case d__law_right => refine' EvL.dt_mk KX G ?a ?l ?c ?k (fun _ _ _ _ _ _ us hl => match us, hl with | [_], _ => rfl) (fun _ _ _ _ _ _ us hl => match us, hl with | [_], _ => rfl); (case a => k_is); (case l => k_is); (case c => k_is); (case k => k_is)
    case d__law_bent => refine' EvL.dt_mk KX G ?a ?l ?c ?k (fun _ _ _ _ _ _ us hl => match us, hl with | [_, _], _ => rfl) (fun _ _ _ _ _ _ us hl => match us, hl with | [_, _], _ => rfl); (case a => k_is); (case l => k_is); (case c => k_is); (case k => k_is)
    case d__law_fault => refine' EvL.dt_mk KX G ?a ?l ?c ?k (fun _ _ _ _ _ _ us hl => match us, hl with | [_], _ => rfl) (fun _ _ _ _ _ _ us hl => match us, hl with | [_], _ => rfl); (case a => k_is); (case l => k_is); (case c => k_is); (case k => k_is)
    case d__law_heard => refine' EvL.dt_mk KX G ?a ?l ?c ?k (fun _ _ _ _ _ _ us hl => match us, hl with | [_], _ => rfl) (fun _ _ _ _ _ _ us hl => match us, hl with | [_], _ => rfl); (case a => k_is); (case l => k_is); (case c => k_is); (case k => k_is)
    case l_law => refine' EvL.dtL_mk KX G ?a ?l ?c ?k (fun _ _ _ _ _ _ us hl => match us, hl with | [_], _ => rfl) (fun _ _ _ _ _ _ us hl => match us, hl with | [_], _ => rfl); (case a => k_is); (case l => k_is); (case c => k_is); (case k => k_is)
    case p_law => refine' EvL.pinP_mk ?h1 ?h2; (case h1 => k_is); (case h2 => rfl)
    case tE0 => exact PySem.W.km_tabs_of Y _ (by first | decide | simp)
    case tK0 => first | k_is | kernel_rfl | rfl
    case tC0 => exact PySem.W.codeHd_of_K KX (by first | k_is | kernel_rfl)
#print axioms PySem.Challenge.cw_gridbodies_k59_rounds_judged_holds
end
