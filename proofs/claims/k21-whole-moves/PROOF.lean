import PyProof.Rows.All
import Wide.All
import OpenK.AllK
import Wide.FinOn
import HandS.ForMost
import HandS.ForExc
import HandS.TryMany
import HandS.Wide
import HandS.CallLocal
import HandS.CallSlots
import KE.KExcSuper
import PyProof.ReprRoads
import HandS.TupAny
import HandS.TupMul
import HandS.IsInst
import HandS.Style
import HandS.Conv
import HandS.Walk
import HandS.Zip
import HandS.Dict
import HandS.HeadWalk
import HandS.ExcField
import PyProof.Draws
import PyProof.EnumMake
import HandS.Zip0
import KE.GoesMore
import HandS.Star
import PyProof.ReprLen
import PySem.Challenge.RW_gridbodies_k21_whole_moves
section
set_option Elab.async false
set_option linter.all false
set_option maxRecDepth 100000
set_option maxHeartbeats 2000000
/-! F0: promises of defs where no repr is under way (guards) -/
namespace EvL
open PySem PySem.Spec PyProof.Rows L2

/-- the def at f keeps the promise sp wherever there is room for k calls and no repr is under way -/
structure FnG (P : Program) (w : World) (K : PySem.W.Frag) (mg : Str → Option Value) (gb : Heap) (k : Nat) (f : Addr) (fd : FuncData) (ps : List Str) (sp : Sp) : Prop where
  cnt : ∀ vs H Q E, sp vs H Q E → vs.length = ps.length
  go : ∀ (A : Around) (up : List Env) (s : Shared) (H : Hp) (ar : Args) (us : List Value) (vs : List V) (Q : VK) (E : XK),
    Room k A → A.guards = some [] → Env0 P w K mg gb A up s H → BindsTo s fd ar (ps.zip us) → Vals vs us → sp vs H Q E →
    codeAny (model P w) A (.call (.ref f) ar) (CR (L2.CX P w) up P w H s Q E) s

section
variable {P : Program} {w : World} {K : PySem.W.Frag} {mg : Str → Option Value} {gb : Heap}
theorem FnG.up {j k : Nat} {f : Addr} {fd : FuncData} {ps : List Str} {sp : Sp} (F : FnG P w K mg gb j f fd ps sp) (h : j ≤ k) : FnG P w K mg gb k f fd ps sp :=
  ⟨F.cnt, fun A up s H ar us vs Q E hr => F.go A up s H ar us vs Q E (hr.mono h)⟩
theorem FnG.less {k : Nat} {f : Addr} {fd : FuncData} {ps : List Str} {sp sq : Sp} (F : FnG P w K mg gb k f fd ps sp) (h : ∀ vs H Q E, sq vs H Q E → sp vs H Q E) : FnG P w K mg gb k f fd ps sq :=
  ⟨fun vs H Q E q => F.cnt vs H Q E (h _ _ _ _ q), fun A up s H ar us vs Q E hr hg he hb hv hs => F.go A up s H ar us vs Q E hr hg he hb hv (h _ _ _ _ hs)⟩

/-- by the body -/
theorem fnG_of {x qual : Str} {st : Stmt} {f : Addr} {fd : FuncData} {N ps : List Str} {k : Nat} {sp : Sp} (F : Fun K x qual st f fd) (S : FnScope N ps (defScope st)) (cnt : ∀ vs H Q E, sp vs H Q E → vs.length = ps.length)
    (body : ∀ (cdv : Value) (A : Around) (up : List Env) (s : Shared) (H : Hp) (vs : List V) (Q : VK) (E : XK), Room k (A.deeper (envOfC qual (defScope st) s.heap.objs.size f cdv)) → A.guards = some [] → sp vs H Q E →
      ∃ t, PSs (cxOf (L2.CX P w) P w K mg gb N qual (defScope st) f cdv A up s H E) (defBody st) t ∧ t { nx := fun _ H1 => Q .non H1, rt := Q } (start N vs) H) : FnG P w K mg gb (k + 1) f fd ps sp := by
  obtain ⟨oc, od, kV, doc, pm, an, cdv, ct, osl, rfl, lk, hcd⟩ := F.ex
  refine ⟨cnt, fun A up s H ar us vs Q E hr hg e0 hb rv hsp => ?_⟩
  have ln := cnt _ _ _ _ hsp
  have KS : K.In s.heap := e0.mod.kin.keeps fun b o e => (e0.bs b o e).1
  have nl : s.heap.NoLimit := e0.mod.nolimit.keeps fun b o e => (e0.bs b o e).1
  have kinds : ∀ y ∈ ps.zip us, (defScope st).names.lookup y.1 = some .local ∨ ((defScope st).names.lookup y.1 = some .cell ∧ ((cellsFrom (s.heap.objs.size + 1) (defScope st).names []).lookup y.1).isSome = true) := by
    rintro ⟨n, v⟩ hy
    cases S.par n (List.of_mem_zip hy).1 with
    | inl q => exact .inl q
    | inr q => exact .inr ⟨q, PySem.W.cellsFrom_some _ _ _ (.inl q)⟩
  refine codeAny_call_function hr.depth (KS _ _ lk) rfl S.co S.gen rfl (PySem.W.codeRec_of KS hcd) (hb _ _ _ _ ?_)
  refine wpAny_newFunctionEnv_cells S.kind kinds fun env he s1 ic => ?_
  subst he
  refine ⟨nl.keeps ic.toInCall.keep, codeAny_func ?_⟩
  obtain ⟨t, ht, tq⟩ := body cdv A up s H vs Q E (hr.deeper _) hg hsp
  have I : Inv (cxOf (L2.CX P w) P w K mg gb N qual (defScope st) f cdv A up s H E) [] (start N vs) H s1 := inv_start S hr.hd e0 ln rv ic
  have fin : ∀ {σ' : L2.St} {H' : Hp} {v : V} {u : Value} {s' : Shared}, Inv (cxOf (L2.CX P w) P w K mg gb N qual (defScope st) f cdv A up s H E) [] σ' H' s' → RelV v u → Q v H' → CE up P w H s Q u s' :=
    fun {σ' H' v u s'} J r q => ⟨v, H', J.os, J.bare, J.base, J.hok, r, q⟩
  refine wpAny_mono (ht.run [] s1 (start N vs) H _ I tq) (fun fl s' hs => ?_) fun e s' hs => hs
  cases fl with
  | next =>
    obtain ⟨σ', H', J, q⟩ := hs
    exact fin (v := V.non) (u := Value.none) J rfl q
  | ret u =>
    obtain ⟨v, σ', H', J, r, q⟩ := hs
    exact fin J r q
  | brk =>
    obtain ⟨_, _, _, q⟩ := hs
    exact q.elim
  | cont =>
    obtain ⟨_, _, _, q⟩ := hs
    exact q.elim
end

section
variable {X : Cx} {k : Nat} {f : Addr} {fd : FuncData} {ps : List Str} {sp : Sp} {dvs : List V} {ds : List Value} {x : Str} {p pos : Pos} {e : Expr} {es : List Expr} {t : TA} {W : WX}
/-- the callee runs; what it raises goes to the wish at these slots -/
theorem runG {pins : List (Addr × Obj)} {σ : L2.St} {H : Hp} {s : Shared} {Q : VK} {us : List Value} {vs : List V} (F : FnG X.prog X.w X.K X.mg X.base k f fd ps sp) (hr : Room k X.A) (hg : X.A.guards = some []) (hb : Binds X.K fd ps ds) (hd : Vals dvs ds) (tk : Takes X W)
    (I : Inv X pins σ H s) (r : Vals vs us) (h : sp (vs ++ dvs) H Q (WE W σ)) : wpAny (model X.prog X.w) X.A (call (.ref f) us) (EP X pins σ Q) X.xe s := by
  have rr : Vals (vs ++ dvs) (us ++ ds) := r.append hd
  have ln : (us ++ ds).length = ps.length := rr.length.symm.trans (F.cnt _ _ _ _ h)
  refine wpAny_call (codeAny_mono (F.go X.A X.stack s H ⟨us, []⟩ (us ++ ds) (vs ++ dvs) Q _ hr hg I.env0 (hb s us I.kIn ln) rr h) fun res s' hq => ?_)
  match res, hq with
  | .error e, hq => exact passAt tk σ pins H s e s' I hq
  | .ok (.ret u), hq => exact I.after hq
  | .ok .next, hq => exact hq.elim
  | .ok .brk, hq => exact hq.elim
  | .ok .cont, hq => exact hq.elim
/-- f(e, ..) -/
theorem pe_callG (F : FnG X.prog X.w X.K X.mg X.base k f fd ps sp) (hr : Room k X.A) (hgu : X.A.guards = some []) (hg : Gl X x) (hm : X.mg x = some (.ref f)) (hk : PySem.W.keepIn X.K (.ref f) = true) (hb : Binds X.K fd ps ds) (hd : Vals dvs ds) (tk : Takes X W)
    (ha : PA X (e :: es) t) (hdb : (x == ("__debug__" : Str)) = false := by decide) (he : starEach (e :: es) X.env = (false, eval e X.env) :: starEach es X.env := by rfl) (hpl : (backTo pos (starEach es X.env)).any (·.1) = false := by rfl) :
    PE X (.Call (.Name x p) (e :: es) [] pos) (tCallSD sp dvs (WE W) t) := by
  refine ⟨fun pins s σ H Q I h => wpAny_Call_Name_kw (ld_glob I hg hm ?_ hdb)⟩
  refine PySem.W.callWith_K (h₀ := X.base) I.ok.mod.kin hk (thn (ha.run pos pins s σ H _ I h) fun us s1 hh => ?_) he hpl
  obtain ⟨vs, H1, I1, r1, q1⟩ := hh
  exact ⟨I1.kIn, runG F hr hgu hb hd tk I1 r1 q1⟩
end
end EvL
end

section
set_option Elab.async false
set_option linter.all false
set_option maxRecDepth 100000
set_option maxHeartbeats 2000000
/-! E1: data as trees, the store of what changes, the relation to V and the heap -/
namespace EvL
open PySem PySem.Spec PyProof.Rows L2

/-- data that stands still -/
inductive Dv where
  | non | bl (b : Bool) | int (i : Int) | str (x : Str)
  | tup (xs : List Dv) | lst (xs : List Dv) | dic (kvs : List (Key × Dv))
  | fn (n : Nat)
  /-- the script -/
  | scr (ns : List Int)
  deriving Inhabited
/-- what a slot holds: data, or the number of a thing of the store -/
inductive Sv where
  | d (x : Dv) | o (i : Nat)
  deriving Inhabited
/-- a thing of the store -/
inductive So where
  | lst (xs : List Dv) | dic (kvs : List (Key × Dv)) | gone
  deriving Inhabited
abbrev Store := List So
/-- an own error: the number of its class, its one field -/
structure Ex where
  c : Nat
  pay : Option (Str × Dv)
  deriving Inhabited
inductive Rs (α : Type) where
  | ok (a : α) (m : Store) | ex (x : Ex) (m : Store) | no
  deriving Inhabited
abbrev En := List (Option Sv)
abbrev Sem1 := En → Store → Rs Sv
abbrev SemL := En → Store → Rs (List Sv)
abbrev Fs := List Sv → Store → Rs Sv

/-- where defs and error classes stand -/
structure Tb where
  fnA : Nat → Addr
  clA : Nat → Addr

variable (K : PySem.W.Frag) (tb : Tb)
mutual
/-- v is the datum, over the heap F -/
inductive Rep (F : Hp) : Dv → V → Prop
  | non : Rep F .non .non
  | bl (b) : Rep F (.bl b) (.bl b)
  | int (i) : Rep F (.int i) (.int i)
  | str (x) : Rep F (.str x) (.str x)
  | tup {a xs vs} : SqT K F a vs → RepL F xs vs → Rep F (.tup xs) (.ref a)
  | lst {a xs vs} : F a = some (.lst vs) → RepL F xs vs → Rep F (.lst xs) (.ref a)
  | dic {a kvs vs} : F a = some (.dK vs) → RepK F kvs vs → Rep F (.dic kvs) (.ref a)
  | fn (n) : Rep F (.fn n) (.ref (tb.fnA n))
  | scr {a ns} : SqL K F a (ns.map V.int) → Rep F (.scr ns) (.ref a)
inductive RepL (F : Hp) : List Dv → List V → Prop
  | nil : RepL F [] []
  | cons {x v xs vs} : Rep F x v → RepL F xs vs → RepL F (x :: xs) (v :: vs)
inductive RepK (F : Hp) : List (Key × Dv) → List (Key × V) → Prop
  | nil : RepK F [] []
  | cons {k x v xs vs} : Rep F x v → RepK F xs vs → RepK F ((k, x) :: xs) ((k, v) :: vs)
end
def Le (F F' : Hp) : Prop := ∀ a o, F a = some o → F' a = some o
variable {K} {tb}
theorem Le.refl (F : Hp) : Le F F := fun _ _ h => h
theorem Le.trans {F F' F'' : Hp} (a : Le F F') (b : Le F' F'') : Le F F'' := fun x o h => b x o (a x o h)
theorem Le.rd {F F' : Hp} (l : Le F F') {a : Addr} {o : HO} (h : Rd F a o) : Rd F' a o := by
  rcases h with h | ⟨u, h⟩
  · exact .inl (l _ _ h)
  · exact .inr ⟨u, l _ _ h⟩
theorem Le.sqt {F F' : Hp} (l : Le F F') {a : Addr} {vs : List V} (h : SqT K F a vs) : SqT K F' a vs := by
  rcases h with h | h
  · exact .inl (l.rd h)
  · exact .inr h
theorem Le.sql {F F' : Hp} (l : Le F F') {a : Addr} {vs : List V} (h : SqL K F a vs) : SqL K F' a vs := by
  rcases h with h | h
  · exact .inl (l.rd h)
  · exact .inr h
mutual
theorem Rep.mono {F F' : Hp} (l : Le F F') : ∀ {d : Dv} {v : V}, Rep K tb F d v → Rep K tb F' d v
  | _, _, .non => .non
  | _, _, .bl b => .bl b
  | _, _, .int i => .int i
  | _, _, .str x => .str x
  | _, _, .tup h r => .tup (l.sqt h) (RepL.mono l r)
  | _, _, .lst h r => .lst (l _ _ h) (RepL.mono l r)
  | _, _, .dic h r => .dic (l _ _ h) (RepK.mono l r)
  | _, _, .fn n => .fn n
  | _, _, .scr h => .scr (l.sql h)
theorem RepL.mono {F F' : Hp} (l : Le F F') : ∀ {d : List Dv} {v : List V}, RepL K tb F d v → RepL K tb F' d v
  | _, _, .nil => .nil
  | _, _, .cons h r => .cons (Rep.mono l h) (RepL.mono l r)
theorem RepK.mono {F F' : Hp} (l : Le F F') : ∀ {d : List (Key × Dv)} {v : List (Key × V)}, RepK K tb F d v → RepK K tb F' d v
  | _, _, .nil => .nil
  | _, _, .cons h r => .cons (Rep.mono l h) (RepK.mono l r)
end
theorem RepL.length {F : Hp} : ∀ {d : List Dv} {v : List V}, RepL K tb F d v → d.length = v.length
  | _, _, .nil => rfl
  | _, _, .cons _ r => by simp [RepL.length r]
theorem RepL.get {F : Hp} : ∀ {xs : List Dv} {vs : List V} {i : Nat} {x : Dv}, RepL K tb F xs vs → xs[i]? = some x → ∃ v, vs[i]? = some v ∧ Rep K tb F x v
  | _, _, _, _, .nil, e => by simp at e
  | _, _, 0, _, .cons h _, e => by simp at e; subst e; exact ⟨_, rfl, h⟩
  | _, _, i + 1, x, .cons _ r, e => by
    obtain ⟨v, h1, h2⟩ := RepL.get (i := i) (x := x) r (by simpa using e)
    exact ⟨v, by simpa using h1, h2⟩
theorem RepL.getV {F : Hp} : ∀ {xs : List Dv} {vs : List V} {i : Nat} {v : V}, RepL K tb F xs vs → vs[i]? = some v → ∃ x, xs[i]? = some x ∧ Rep K tb F x v
  | _, _, _, _, .nil, e => by simp at e
  | _, _, 0, _, .cons h _, e => by simp at e; subst e; exact ⟨_, rfl, h⟩
  | _, _, i + 1, x, .cons _ r, e => by
    obtain ⟨v, h1, h2⟩ := RepL.getV (i := i) (v := x) r (by simpa using e)
    exact ⟨v, by simpa using h1, h2⟩
theorem RepL.append {F : Hp} : ∀ {xs ys : List Dv} {vs ws : List V}, RepL K tb F xs vs → RepL K tb F ys ws → RepL K tb F (xs ++ ys) (vs ++ ws)
  | _, _, _, _, .nil, s => s
  | _, _, _, _, .cons h r, s => .cons h (RepL.append r s)
theorem RepL.take {F : Hp} : ∀ {xs : List Dv} {vs : List V} (n : Nat), RepL K tb F xs vs → RepL K tb F (xs.take n) (vs.take n)
  | _, _, 0, _ => .nil
  | _, _, _ + 1, .nil => .nil
  | _, _, n + 1, .cons h r => .cons h (RepL.take n r)
theorem RepL.drop {F : Hp} : ∀ {xs : List Dv} {vs : List V} (n : Nat), RepL K tb F xs vs → RepL K tb F (xs.drop n) (vs.drop n)
  | _, _, 0, r => r
  | _, _, _ + 1, .nil => .nil
  | _, _, n + 1, .cons _ r => RepL.drop n r
theorem RepL.set {F : Hp} {x : Dv} {v : V} (h : Rep K tb F x v) : ∀ {xs : List Dv} {vs : List V} (i : Nat), RepL K tb F xs vs → RepL K tb F (xs.set i x) (vs.set i v)
  | _, _, _, .nil => .nil
  | _, _, 0, .cons _ r => .cons h r
  | _, _, i + 1, .cons q r => .cons q (RepL.set h i r)
theorem RepL.reverse {F : Hp} : ∀ {xs : List Dv} {vs : List V}, RepL K tb F xs vs → RepL K tb F xs.reverse vs.reverse
  | _, _, .nil => .nil
  | _, _, .cons h r => by
    rw [List.reverse_cons, List.reverse_cons]
    exact (RepL.reverse r).append (.cons h .nil)

/-- the state: F is part of H and stands still; the store's things stand at ρ -/
structure Wo (K : PySem.W.Frag) (tb : Tb) (F : Hp) (ρ : List Addr) (m : Store) (H : Hp) : Prop where
  sub : Le F H
  len : ρ.length = m.length
  nd : ρ.Nodup
  lst : ∀ (i : Nat) (a : Addr) (xs : List Dv), ρ[i]? = some a → m[i]? = some (So.lst xs) → F a = none ∧ ∃ vs, H a = some (.lst vs) ∧ RepL K tb F xs vs
  dic : ∀ (i : Nat) (a : Addr) (kvs : List (Key × Dv)), ρ[i]? = some a → m[i]? = some (So.dic kvs) → F a = none ∧ ∃ vs, H a = some (.dK vs) ∧ RepK K tb F kvs vs
  has : ∀ a ∈ ρ, H a ≠ none

structure Ext (F : Hp) (ρ : List Addr) (F' : Hp) (ρ' : List Addr) : Prop where
  le : Le F F'
  pre : ρ <+: ρ'
theorem Ext.refl (F : Hp) (ρ : List Addr) : Ext F ρ F ρ := ⟨.refl F, List.prefix_refl ρ⟩
theorem Ext.trans {F F' F'' : Hp} {ρ ρ' ρ'' : List Addr} (a : Ext F ρ F' ρ') (b : Ext F' ρ' F'' ρ'') : Ext F ρ F'' ρ'' := ⟨a.le.trans b.le, a.pre.trans b.pre⟩

/-- a slot's value -/
inductive RepS (K : PySem.W.Frag) (tb : Tb) (F : Hp) (ρ : List Addr) : Sv → V → Prop
  | d {x v} : Rep K tb F x v → RepS K tb F ρ (.d x) v
  | o {i a} : ρ[i]? = some a → RepS K tb F ρ (.o i) (.ref a)
theorem pre_get {ρ ρ' : List Addr} (h : ρ <+: ρ') {i : Nat} {a : Addr} (e : ρ[i]? = some a) : ρ'[i]? = some a := by
  obtain ⟨t, rfl⟩ := h
  obtain ⟨hi, _⟩ := List.getElem?_eq_some_iff.mp e
  rw [List.getElem?_append_left hi]
  exact e
theorem RepS.mono {F F' : Hp} {ρ ρ' : List Addr} {x : Sv} {v : V} (e : Ext F ρ F' ρ') (h : RepS K tb F ρ x v) : RepS K tb F' ρ' x v := by
  cases h with
  | d h => exact .d (h.mono e.le)
  | o h => exact .o (pre_get e.pre h)
inductive RepSL (K : PySem.W.Frag) (tb : Tb) (F : Hp) (ρ : List Addr) : List Sv → List V → Prop
  | nil : RepSL K tb F ρ [] []
  | cons {x v xs vs} : RepS K tb F ρ x v → RepSL K tb F ρ xs vs → RepSL K tb F ρ (x :: xs) (v :: vs)
theorem RepSL.mono {F F' : Hp} {ρ ρ' : List Addr} (e : Ext F ρ F' ρ') : ∀ {x : List Sv} {v : List V}, RepSL K tb F ρ x v → RepSL K tb F' ρ' x v
  | _, _, .nil => .nil
  | _, _, .cons h r => .cons (h.mono e) (RepSL.mono e r)
theorem RepSL.length {F : Hp} {ρ : List Addr} : ∀ {d : List Sv} {v : List V}, RepSL K tb F ρ d v → d.length = v.length
  | _, _, .nil => rfl
  | _, _, .cons _ r => by simp [RepSL.length r]

/-- the slots -/
structure EnvOk (K : PySem.W.Frag) (tb : Tb) (F : Hp) (ρ : List Addr) (en : En) (σ : L2.St) : Prop where
  len : en.length = σ.length
  at_ : ∀ (i : Nat) (x : Sv), en[i]? = some (some x) → ∃ v, σ[i]? = some (some v) ∧ RepS K tb F ρ x v
theorem EnvOk.mono {F F' : Hp} {ρ ρ' : List Addr} {en : En} {σ : L2.St} (e : Ext F ρ F' ρ') (h : EnvOk K tb F ρ en σ) : EnvOk K tb F' ρ' en σ :=
  ⟨h.len, fun i x q => let ⟨v, a, b⟩ := h.at_ i x q; ⟨v, a, b.mono e⟩⟩
theorem EnvOk.set {F : Hp} {ρ : List Addr} {en : En} {σ : L2.St} {x : Sv} {v : V} (h : EnvOk K tb F ρ en σ) (r : RepS K tb F ρ x v) (i : Nat) : EnvOk K tb F ρ (en.set i (some x)) (σ.set i (some v)) := by
  refine ⟨by simp [h.len], fun j y q => ?_⟩
  by_cases e : i = j
  · subst e
    by_cases hi : i < en.length
    · rw [List.getElem?_set_self hi] at q
      cases q
      exact ⟨v, by rw [List.getElem?_set_self (by rw [← h.len]; exact hi)], r⟩
    · rw [List.getElem?_eq_none (by simpa using hi)] at q
      cases q
  · rw [List.getElem?_set_ne e] at q
    obtain ⟨u, a, b⟩ := h.at_ j y q
    exact ⟨u, by rw [List.getElem?_set_ne e]; exact a, b⟩
theorem EnvOk.wipe {F : Hp} {ρ : List Addr} {en : En} {σ : L2.St} (h : EnvOk K tb F ρ en σ) (i : Nat) (o : Option V) : EnvOk K tb F ρ (en.set i none) (σ.set i o) := by
  refine ⟨by simp [h.len], fun j y q => ?_⟩
  by_cases e : i = j
  · subst e
    by_cases hi : i < en.length
    · rw [List.getElem?_set_self hi] at q
      cases q
    · rw [List.getElem?_eq_none (by simpa using hi)] at q
      cases q
  · rw [List.getElem?_set_ne e] at q
    obtain ⟨u, a, b⟩ := h.at_ j y q
    exact ⟨u, by rw [List.getElem?_set_ne e]; exact a, b⟩

/-- how an error lies: its class, its own dict with the one field -/
def XRep (K : PySem.W.Frag) (tb : Tb) (F : Hp) (x : Ex) (c : Value) (d : Option Addr) : Prop :=
  c = .ref (tb.clA x.c) ∧ match x.pay with
    | none => True
    | some (f, y) => ∃ (dd : Addr) (v : V), d = some dd ∧ F dd = some (.xd [(f, v)]) ∧ Rep K tb F y v

/-- an expression's reading -/
def tE (K : PySem.W.Frag) (tb : Tb) (W : WX) (f : Sem1) : TE := fun σ H Q => ∃ F ρ en m, EnvOk K tb F ρ en σ ∧ Wo K tb F ρ m H ∧ match f en m with
  | .ok x m' => ∀ F' ρ' H' v, Ext F ρ F' ρ' → Wo K tb F' ρ' m' H' → RepS K tb F' ρ' x v → Q v H'
  | .ex x m' => ∀ F' ρ' H' c d, Ext F ρ F' ρ' → Wo K tb F' ρ' m' H' → XRep K tb F' x c d → W c d σ H'
  | .no => False
def tEL (K : PySem.W.Frag) (tb : Tb) (W : WX) (f : SemL) : TA := fun σ H Q => ∃ F ρ en m, EnvOk K tb F ρ en σ ∧ Wo K tb F ρ m H ∧ match f en m with
  | .ok x m' => ∀ F' ρ' H' v, Ext F ρ F' ρ' → Wo K tb F' ρ' m' H' → RepSL K tb F' ρ' x v → Q v H'
  | .ex x m' => ∀ F' ρ' H' c d, Ext F ρ F' ρ' → Wo K tb F' ρ' m' H' → XRep K tb F' x c d → W c d σ H'
  | .no => False
/-- what a statement does -/
inductive Sr where
  | nx (en : En) (m : Store) | rt (x : Sv) (m : Store) | bk (en : En) (m : Store) | ct (en : En) (m : Store) | ex (x : Ex) (en : En) (m : Store) | no
  deriving Inhabited
abbrev SemS := En → Store → Sr
def tSt (K : PySem.W.Frag) (tb : Tb) (W : WX) (F : Hp) (ρ : List Addr) (D : Ends) : Sr → Prop
  | .nx en m => ∀ F' ρ' σ' H', Ext F ρ F' ρ' → EnvOk K tb F' ρ' en σ' → Wo K tb F' ρ' m H' → D.nx σ' H'
  | .rt x m => ∀ F' ρ' H' v, Ext F ρ F' ρ' → Wo K tb F' ρ' m H' → RepS K tb F' ρ' x v → D.rt v H'
  | .bk en m => ∀ F' ρ' σ' H', Ext F ρ F' ρ' → EnvOk K tb F' ρ' en σ' → Wo K tb F' ρ' m H' → D.bk σ' H'
  | .ct en m => ∀ F' ρ' σ' H', Ext F ρ F' ρ' → EnvOk K tb F' ρ' en σ' → Wo K tb F' ρ' m H' → D.ct σ' H'
  | .ex x en m => ∀ F' ρ' σ' H' c d, Ext F ρ F' ρ' → EnvOk K tb F' ρ' en σ' → Wo K tb F' ρ' m H' → XRep K tb F' x c d → W c d σ' H'
  | .no => False
def tS (K : PySem.W.Frag) (tb : Tb) (W : WX) (g : SemS) : TS := fun D σ H => ∃ F ρ en m, EnvOk K tb F ρ en σ ∧ Wo K tb F ρ m H ∧ tSt K tb W F ρ D (g en m)
/-- the judgements -/
abbrev RE (X : Cx) (tb : Tb) (W : WX) (e : Expr) (f : Sem1) : Prop := PE X e (tE X.K tb W f)
abbrev RA (X : Cx) (tb : Tb) (W : WX) (es : List Expr) (f : SemL) : Prop := PA X es (tEL X.K tb W f)
abbrev RS (X : Cx) (tb : Tb) (W : WX) (st : Stmt) (g : SemS) : Prop := PS X st (tS X.K tb W g)
abbrev RSs (X : Cx) (tb : Tb) (W : WX) (sts : List Stmt) (g : SemS) : Prop := PSs X sts (tS X.K tb W g)
/-- a def's promise -/
def spE (K : PySem.W.Frag) (tb : Tb) (n : Nat) (g : Fs) : Sp := fun vs H Q E => vs.length = n ∧ ∃ F ρ xs m, RepSL K tb F ρ xs vs ∧ Wo K tb F ρ m H ∧ match g xs m with
  | .ok x m' => ∀ F' ρ' H' v, Ext F ρ F' ρ' → Wo K tb F' ρ' m' H' → RepS K tb F' ρ' x v → Q v H'
  | .ex x m' => ∀ F' ρ' H' c d, Ext F ρ F' ρ' → Wo K tb F' ρ' m' H' → XRep K tb F' x c d → E c d H'
  | .no => False
end EvL
end

section
set_option Elab.async false
set_option linter.all false
set_option maxRecDepth 100000
set_option maxHeartbeats 2000000
/-! E2: expressions -/
namespace EvL
open PySem PySem.Spec PyProof.Rows L2

def Rs.bind {α β : Type} (r : Rs α) (f : α → Store → Rs β) : Rs β := match r with
  | .ok a m => f a m | .ex x m => .ex x m | .no => .no
@[simp] theorem Rs.bind_ok {α β : Type} (a : α) (m : Store) (f : α → Store → Rs β) : (Rs.ok a m).bind f = f a m := rfl
@[simp] theorem Rs.bind_ex {α β : Type} (x : Ex) (m : Store) (f : α → Store → Rs β) : (Rs.ex x m : Rs α).bind f = .ex x m := rfl
@[simp] theorem Rs.bind_no {α β : Type} (f : α → Store → Rs β) : (Rs.no : Rs α).bind f = .no := rfl

section
variable {K : PySem.W.Frag} {tb : Tb} {W : WX} {X : Cx}
/-- what is wanted of a result -/
def PostE (K : PySem.W.Frag) (tb : Tb) (W : WX) (F : Hp) (ρ : List Addr) (σ : L2.St) (Q : VK) : Rs Sv → Prop
  | .ok x m' => ∀ F' ρ' H' v, Ext F ρ F' ρ' → Wo K tb F' ρ' m' H' → RepS K tb F' ρ' x v → Q v H'
  | .ex x m' => ∀ F' ρ' H' c d, Ext F ρ F' ρ' → Wo K tb F' ρ' m' H' → XRep K tb F' x c d → W c d σ H'
  | .no => False
def PostL (K : PySem.W.Frag) (tb : Tb) (W : WX) (F : Hp) (ρ : List Addr) (σ : L2.St) (Q : List V → Hp → Prop) : Rs (List Sv) → Prop
  | .ok x m' => ∀ F' ρ' H' v, Ext F ρ F' ρ' → Wo K tb F' ρ' m' H' → RepSL K tb F' ρ' x v → Q v H'
  | .ex x m' => ∀ F' ρ' H' c d, Ext F ρ F' ρ' → Wo K tb F' ρ' m' H' → XRep K tb F' x c d → W c d σ H'
  | .no => False
def PostB (K : PySem.W.Frag) (tb : Tb) (W : WX) (F : Hp) (ρ : List Addr) (σ : L2.St) (Q : Bool → Hp → Prop) : Rs Bool → Prop
  | .ok x m' => ∀ F' ρ' H', Ext F ρ F' ρ' → Wo K tb F' ρ' m' H' → Q x H'
  | .ex x m' => ∀ F' ρ' H' c d, Ext F ρ F' ρ' → Wo K tb F' ρ' m' H' → XRep K tb F' x c d → W c d σ H'
  | .no => False
theorem tE_iff {f : Sem1} {σ : L2.St} {H : Hp} {Q : VK} : tE K tb W f σ H Q ↔ ∃ F ρ en m, EnvOk K tb F ρ en σ ∧ Wo K tb F ρ m H ∧ PostE K tb W F ρ σ Q (f en m) := by
  unfold tE
  constructor <;> rintro ⟨F, ρ, en, m, h1, h2, h3⟩ <;> refine ⟨F, ρ, en, m, h1, h2, ?_⟩ <;> cases e : f en m <;> rw [e] at h3 <;> exact h3
theorem tEL_iff {f : SemL} {σ : L2.St} {H : Hp} {Q : List V → Hp → Prop} : tEL K tb W f σ H Q ↔ ∃ F ρ en m, EnvOk K tb F ρ en σ ∧ Wo K tb F ρ m H ∧ PostL K tb W F ρ σ Q (f en m) := by
  unfold tEL
  constructor <;> rintro ⟨F, ρ, en, m, h1, h2, h3⟩ <;> refine ⟨F, ρ, en, m, h1, h2, ?_⟩ <;> cases e : f en m <;> rw [e] at h3 <;> exact h3
abbrev SemB := En → Store → Rs Bool
def tB (K : PySem.W.Frag) (tb : Tb) (W : WX) (f : SemB) : TT := fun σ H Q => ∃ F ρ en m, EnvOk K tb F ρ en σ ∧ Wo K tb F ρ m H ∧ PostB K tb W F ρ σ Q (f en m)
abbrev RT (X : Cx) (tb : Tb) (W : WX) (e : Expr) (f : SemB) : Prop := PT X e (tB X.K tb W f)

theorem PE.weak {e : Expr} {t t' : TE} (h : PE X e t) (w : ∀ σ H Q, t' σ H Q → t σ H Q) : PE X e t' := ⟨fun pins s σ H Q I q => h.run pins s σ H Q I (w _ _ _ q)⟩
theorem PA.weak {e : List Expr} {t t' : TA} (h : PA X e t) (w : ∀ σ H Q, t' σ H Q → t σ H Q) : PA X e t' := ⟨fun pos pins s σ H Q I q => h.run pos pins s σ H Q I (w _ _ _ q)⟩
theorem PT.weak {e : Expr} {t t' : TT} (h : PT X e t) (w : ∀ σ H Q, t' σ H Q → t σ H Q) : PT X e t' := ⟨fun pins s σ H Q I q => h.run pins s σ H Q I (w _ _ _ q)⟩
theorem PS.weak {e : Stmt} {t t' : TS} (h : PS X e t) (w : ∀ D σ H, t' D σ H → t D σ H) : PS X e t' := ⟨fun pins s σ H Q I q => h.run pins s σ H Q I (w _ _ _ q)⟩
theorem PSs.weak {e : List Stmt} {t t' : TS} (h : PSs X e t) (w : ∀ D σ H, t' D σ H → t D σ H) : PSs X e t' := ⟨fun pins s σ H Q I q => h.run pins s σ H Q I (w _ _ _ q)⟩

/-- one expression, then what follows -/
theorem tE_bind {f : Sem1} {g : Sv → Store → Rs Sv} {F : Hp} {ρ : List Addr} {en : En} {m : Store} {σ : L2.St} {H : Hp} {Q R : VK} (he : EnvOk K tb F ρ en σ) (ho : Wo K tb F ρ m H) (h : PostE K tb W F ρ σ R ((f en m).bind g))
    (k : ∀ x m' F' ρ' H' v, Ext F ρ F' ρ' → EnvOk K tb F' ρ' en σ → Wo K tb F' ρ' m' H' → RepS K tb F' ρ' x v → PostE K tb W F' ρ' σ R (g x m') → Q v H') : tE K tb W f σ H Q := by
  refine tE_iff.mpr ⟨F, ρ, en, m, he, ho, ?_⟩
  cases e : f en m with
  | ok x m' =>
    rw [e] at h
    intro F' ρ' H' v ex o r
    refine k x m' F' ρ' H' v ex (he.mono ex) o r ?_
    have h : PostE K tb W F ρ σ R (g x m') := h
    cases e2 : g x m' with
    | ok y m2 => rw [e2] at h; exact fun F2 ρ2 H2 v2 x2 => h F2 ρ2 H2 v2 (ex.trans x2)
    | ex y m2 => rw [e2] at h; exact fun F2 ρ2 H2 c d x2 => h F2 ρ2 H2 c d (ex.trans x2)
    | no => rw [e2] at h; exact h
  | ex x m' => rw [e] at h; exact h
  | no => rw [e] at h; exact h
theorem PostE.ext {F F' : Hp} {ρ ρ' : List Addr} {σ : L2.St} {R : VK} (ex : Ext F ρ F' ρ') {r : Rs Sv} (h : PostE K tb W F ρ σ R r) : PostE K tb W F' ρ' σ R r := by
  cases r with
  | ok y m2 => exact fun F2 ρ2 H2 v2 x2 => h F2 ρ2 H2 v2 (ex.trans x2)
  | ex y m2 => exact fun F2 ρ2 H2 c d x2 => h F2 ρ2 H2 c d (ex.trans x2)
  | no => exact h
theorem PostL.ext {F F' : Hp} {ρ ρ' : List Addr} {σ : L2.St} {R : List V → Hp → Prop} (ex : Ext F ρ F' ρ') {r : Rs (List Sv)} (h : PostL K tb W F ρ σ R r) : PostL K tb W F' ρ' σ R r := by
  cases r with
  | ok y m2 => exact fun F2 ρ2 H2 v2 x2 => h F2 ρ2 H2 v2 (ex.trans x2)
  | ex y m2 => exact fun F2 ρ2 H2 c d x2 => h F2 ρ2 H2 c d (ex.trans x2)
  | no => exact h
theorem PostB.ext {F F' : Hp} {ρ ρ' : List Addr} {σ : L2.St} {R : Bool → Hp → Prop} (ex : Ext F ρ F' ρ') {r : Rs Bool} (h : PostB K tb W F ρ σ R r) : PostB K tb W F' ρ' σ R r := by
  cases r with
  | ok y m2 => exact fun F2 ρ2 H2 x2 => h F2 ρ2 H2 (ex.trans x2)
  | ex y m2 => exact fun F2 ρ2 H2 c d x2 => h F2 ρ2 H2 c d (ex.trans x2)
  | no => exact h

/-! ### names, constants -/
def sVar (i : Nat) : Sem1 := fun en m => match en[i]? with
  | some (some x) => .ok x m
  | _ => .no
theorem re_var {i : Nat} {e : Expr} (h : PE X e (tVar i)) : RE X tb W e (sVar i) := by
  refine PE.weak h fun σ H Q q => ?_
  obtain ⟨F, ρ, en, m, he, ho, q⟩ := tE_iff.mp q
  unfold sVar at q
  split at q
  · rename_i x ex
    obtain ⟨v, hv, r⟩ := he.at_ i x ex
    exact ⟨v, hv, q F ρ H v (.refl _ _) ho r⟩
  · exact q.elim
def sC (d : Dv) : Sem1 := fun _ m => .ok (.d d) m
theorem re_c {e : Expr} {v : V} {d : Dv} (h : PE X e (tC v)) (r : ∀ F, Rep X.K tb F d v) : RE X tb W e (sC d) := by
  refine PE.weak h fun σ H Q q => ?_
  obtain ⟨F, ρ, en, m, he, ho, q⟩ := tE_iff.mp q
  exact q F ρ H v (.refl _ _) ho (.d (r F))
theorem re_int {i j pos} : RE X tb W (.Constant (.int i) j pos) (sC (.int i)) := re_c pe_int fun _ => .int i
theorem re_bl {b j pos} : RE X tb W (.Constant (.bool b) j pos) (sC (.bl b)) := re_c pe_bl fun _ => .bl b
theorem re_non {j pos} : RE X tb W (.Constant .none j pos) (sC .non) := re_c pe_non fun _ => .non
theorem re_str {x j pos} : RE X tb W (.Constant (.str x) j pos) (sC (.str x)) := re_c pe_str fun _ => .str x

/-! ### what a value reads as now -/
def rv (m : Store) : Sv → Option Dv
  | .d x => some x
  | .o i => match m[i]? with
    | some (.lst xs) => some (.lst xs)
    | some (.dic kvs) => some (.dic kvs)
    | _ => none
inductive Top (K : PySem.W.Frag) (tb : Tb) (F H : Hp) : Dv → V → Prop
  | of {d v} : Rep K tb F d v → Top K tb F H d v
  | lst {a xs vs} : H a = some (.lst vs) → RepL K tb F xs vs → Top K tb F H (.lst xs) (.ref a)
  | dic {a xs vs} : H a = some (.dK vs) → RepK K tb F xs vs → Top K tb F H (.dic xs) (.ref a)
theorem rv_top {F : Hp} {ρ : List Addr} {m : Store} {H : Hp} {x : Sv} {v : V} {d : Dv} (o : Wo K tb F ρ m H) (r : RepS K tb F ρ x v) (e : rv m x = some d) : Top K tb F H d v := by
  cases r with
  | d r =>
    cases e
    exact .of r
  | @o i a r =>
    unfold rv at e
    dsimp only at e
    split at e
    · rename_i xs hx
      cases e
      obtain ⟨_, vs, h1, h2⟩ := o.lst i a xs r hx
      exact .lst h1 h2
    · rename_i xs hx
      cases e
      obtain ⟨_, vs, h1, h2⟩ := o.dic i a xs r hx
      exact .dic h1 h2
    · cases e
theorem RepS.rv {F : Hp} {ρ : List Addr} {m : Store} {x : Dv} {v : V} (r : RepS K tb F ρ (.d x) v) : Rep K tb F x v := by cases r; assumption
theorem Top.sql {F H : Hp} {xs : List Dv} {v : V} (l : Le F H) (t : Top K tb F H (.lst xs) v) : ∃ a vs, v = .ref a ∧ SqL K H a vs ∧ RepL K tb F xs vs := by
  cases t with
  | of r => cases r with | lst h r => exact ⟨_, _, rfl, .inl (.inl (l _ _ h)), r⟩
  | lst h r => exact ⟨_, _, rfl, .inl (.inl h), r⟩
theorem Top.sqt {F H : Hp} {xs : List Dv} {v : V} (l : Le F H) (t : Top K tb F H (.tup xs) v) : ∃ a vs, v = .ref a ∧ SqT K H a vs ∧ RepL K tb F xs vs := by
  cases t with
  | of r => cases r with | tup h r => exact ⟨_, _, rfl, l.sqt h, r⟩
theorem Top.plain {F H : Hp} {xs : List Dv} {v : V} (l : Le F H) (t : Top K tb F H (.lst xs) v) : ∃ a vs, v = .ref a ∧ H a = some (.lst vs) ∧ RepL K tb F xs vs := by
  cases t with
  | of r => cases r with | lst h r => exact ⟨_, _, rfl, l _ _ h, r⟩
  | lst h r => exact ⟨_, _, rfl, h, r⟩
theorem Top.int {F H : Hp} {i : Int} {v : V} (t : Top K tb F H (.int i) v) : v = .int i := by
  cases t with | of r => cases r; rfl
theorem Top.bl {F H : Hp} {i : Bool} {v : V} (t : Top K tb F H (.bl i) v) : v = .bl i := by
  cases t with | of r => cases r; rfl
theorem Top.str {F H : Hp} {i : Str} {v : V} (t : Top K tb F H (.str i) v) : v = .str i := by
  cases t with | of r => cases r; rfl
theorem Top.non {F H : Hp} {v : V} (t : Top K tb F H .non v) : v = .non := by
  cases t with | of r => cases r; rfl

/-! ### a new thing -/
theorem Wo.alloc {F : Hp} {ρ : List Addr} {m : Store} {H : Hp} {p : Addr} (o : Wo K tb F ρ m H) (hp : H p = none) (u : HO) : Wo K tb (upd F p u) ρ m (upd H p u) ∧ Ext F ρ (upd F p u) ρ := by
  have fp : F p = none := by
    cases e : F p with
    | none => rfl
    | some x => rw [o.sub p x e] at hp; cases hp
  have ne : ∀ a, a ∈ ρ → a ≠ p := fun a h e => o.has a h (by rw [e]; exact hp)
  have le : Le F (upd F p u) := fun a x e => by rw [upd_ne (ne_of_none e fp)]; exact e
  refine ⟨⟨fun a x e => ?_, o.len, o.nd, fun i a xs h1 h2 => ?_, fun i a xs h1 h2 => ?_, fun a h => ?_⟩, le, List.prefix_refl _⟩
  · by_cases h : a = p
    · subst h; rw [upd_same] at e ⊢; exact e
    · rw [upd_ne h] at e ⊢; exact o.sub a x e
  · have n := ne a (List.mem_of_getElem? h1)
    obtain ⟨q1, vs, q2, q3⟩ := o.lst i a xs h1 h2
    exact ⟨by rw [upd_ne n]; exact q1, vs, by rw [upd_ne n]; exact q2, q3.mono le⟩
  · have n := ne a (List.mem_of_getElem? h1)
    obtain ⟨q1, vs, q2, q3⟩ := o.dic i a xs h1 h2
    exact ⟨by rw [upd_ne n]; exact q1, vs, by rw [upd_ne n]; exact q2, q3.mono le⟩
  · rw [upd_ne (ne a h)]; exact o.has a h

/-! ### operators by data -/
/-- an operator's rule answers for a function on data -/
def OpC (X : Cx) (tb : Tb) (r : R2) (op : Dv → Dv → Option Dv) : Prop :=
  ∀ F ρ m H x y v u d (Q : VK), Wo X.K tb F ρ m H → Top X.K tb F H x v → Top X.K tb F H y u → op x y = some d →
    (∀ F' H' z, Ext F ρ F' ρ → Wo X.K tb F' ρ m H' → Rep X.K tb F' d z → Q z H') → r v u H Q
def sBin (op : Dv → Dv → Option Dv) (fa fb : Sem1) : Sem1 := fun en m => (fa en m).bind fun x m1 => (fb en m1).bind fun y m2 => match rv m2 x, rv m2 y with
  | some a, some b => (match op a b with | some d => .ok (.d d) m2 | none => .no)
  | _, _ => .no
theorem sBin_run {r : R2} {op : Dv → Dv → Option Dv} (c : OpC X tb r op) {fa fb : Sem1} {σ : L2.St} {H : Hp} {Q : VK} (h : tE X.K tb W (sBin op fa fb) σ H Q) : tOp r (tE X.K tb W fa) (tE X.K tb W fb) σ H Q := by
  obtain ⟨F, ρ, en, m, he, ho, q⟩ := tE_iff.mp h
  refine tE_bind he ho q fun x m1 F1 ρ1 H1 v e1 he1 ho1 r1 q1 => ?_
  refine tE_bind he1 ho1 q1 fun y m2 F2 ρ2 H2 u e2 he2 ho2 r2 q2 => ?_
  split at q2
  · rename_i a b ha hb
    split at q2
    · rename_i d hd
      exact c F2 ρ2 m2 H2 a b v u d Q ho2 (rv_top ho2 (r1.mono e2) ha) (rv_top ho2 r2 hb) hd fun F' H' z ex o' rz => q2 F' ρ2 H' z ex o' (.d rz)
    · exact q2.elim
  · exact q2.elim
theorem re_bin {op : Operator} {r : R2} {sop : Dv → Dv → Option Dv} {a b : Expr} {fa fb : Sem1} {pos : Pos} (ho : OpR X (binaryOp op) r) (c : OpC X tb r sop) (ha : RE X tb W a fa) (hb : RE X tb W b fb) : RE X tb W (.BinOp a op b pos) (sBin sop fa fb) :=
  PE.weak (pe_op ho ha hb) fun σ H Q q => sBin_run c q
theorem re_cmp {op : CmpOp} {r : R2} {sop : Dv → Dv → Option Dv} {a b : Expr} {fa fb : Sem1} {pos : Pos} (ho : OpR X (compareOp op) r) (c : OpC X tb r sop) (ha : RE X tb W a fa) (hb : RE X tb W b fb) (hm : behindInMarks op b = false) : RE X tb W (.Compare a [op] [b] pos) (sBin sop fa fb) :=
  PE.weak (pe_cmpR ho ha hb hm) fun σ H Q q => sBin_run c q
theorem re_ix {r : R2} {sop : Dv → Dv → Option Dv} {a b : Expr} {fa fb : Sem1} {pos : Pos} (ho : IxR X r) (c : OpC X tb r sop) (ha : RE X tb W a fa) (hb : RE X tb W b fb) (hs : PlainIx b) : RE X tb W (.Subscript a b pos) (sBin sop fa fb) :=
  PE.weak (pe_ix ho ha hb hs) fun σ H Q q => sBin_run c q
def sUn (op : Dv → Option Dv) (fa : Sem1) : Sem1 := fun en m => (fa en m).bind fun x m1 => match rv m1 x with
  | some a => (match op a with | some d => .ok (.d d) m1 | none => .no)
  | _ => .no
def UnC (X : Cx) (tb : Tb) (r : V → Hp → VK → Prop) (op : Dv → Option Dv) : Prop :=
  ∀ F ρ m H x v d (Q : VK), Wo X.K tb F ρ m H → Top X.K tb F H x v → op x = some d →
    (∀ F' H' z, Ext F ρ F' ρ → Wo X.K tb F' ρ m H' → Rep X.K tb F' d z → Q z H') → r v H Q
theorem re_un {op : UnaryOp} {r : V → Hp → VK → Prop} {sop : Dv → Option Dv} {a : Expr} {fa : Sem1} {pos : Pos} (ho : UnR X (unaryOp op) r) (c : UnC X tb r sop) (ha : RE X tb W a fa) : RE X tb W (.UnaryOp op a pos) (sUn sop fa) :=
  PE.weak (pe_un ho ha) fun σ H Q h => by
    obtain ⟨F, ρ, en, m, he, ho, q⟩ := tE_iff.mp h
    refine tE_bind he ho q fun x m1 F1 ρ1 H1 v e1 he1 ho1 r1 q1 => ?_
    split at q1
    · rename_i a ha
      split at q1
      · rename_i d hd
        exact c F1 ρ1 m1 H1 a v d Q ho1 (rv_top ho1 r1 ha) hd fun F' H' z ex o' rz => q1 F' ρ1 H' z ex o' (.d rz)
      · exact q1.elim
    · exact q1.elim

/-! ints -/
def iop (g : Int → Int → Dv) : Dv → Dv → Option Dv
  | .int i, .int j => some (g i j)
  | _, _ => none
def iopC (c : Int → Int → Bool) (g : Int → Int → Dv) : Dv → Dv → Option Dv
  | .int i, .int j => if c i j then some (g i j) else none
  | _, _ => none
theorem opC_i {g : Int → Int → Dv} {gv : Int → Int → V} (hg : ∀ i j F, Rep X.K tb F (g i j) (gv i j)) : OpC X tb (rI0 gv) (iop g) := by
  intro F ρ m H x y v u d Q o tx ty e k
  cases x <;> cases y <;> simp only [iop, Option.some.injEq, reduceCtorEq] at e
  subst e
  exact ⟨_, _, tx.int, ty.int, k F H _ (.refl _ _) o (hg _ _ F)⟩
theorem opC_iC {c : Int → Int → Bool} {C : Int → Int → Prop} {g : Int → Int → Dv} {gv : Int → Int → V} (hc : ∀ i j, c i j = true → C i j) (hg : ∀ i j F, Rep X.K tb F (g i j) (gv i j)) : OpC X tb (rI C gv) (iopC c g) := by
  intro F ρ m H x y v u d Q o tx ty e k
  cases x <;> cases y <;> simp only [iopC, Option.ite_none_right_eq_some, Option.some.injEq, reduceCtorEq] at e
  obtain ⟨e1, e⟩ := e
  subst e
  exact ⟨_, _, tx.int, ty.int, hc _ _ e1, k F H _ (.refl _ _) o (hg _ _ F)⟩
abbrev oAdd := iop fun i j => .int (i + j)
abbrev oSub := iop fun i j => .int (i - j)
def mulOk (i j : Int) : Bool := decide (i.natAbs < 2 ^ 64) || decide (j.natAbs < 2 ^ 64)
abbrev oMul := iopC mulOk fun i j => .int (i * j)
def divOk (_ j : Int) : Bool := decide (j ≠ 0) && decide (j.natAbs < 1073741824)
abbrev oDiv := iopC divOk fun i j => .int (i.fdiv j)
def modOk (_ j : Int) : Bool := decide (j ≠ 0)
abbrev oMod := iopC modOk fun i j => .int (i.fmod j)
def powOk (i j : Int) : Bool := decide (0 ≤ j) && decide (j ≤ 1000000) && decide (i.natAbs < 2 ^ 64)
abbrev oPow := iopC powOk fun i j => .int (i ^ j.toNat)
abbrev oLt := iop fun i j => .bl (decide (i < j))
abbrev oLe := iop fun i j => .bl (decide (i ≤ j))
abbrev oGt := iop fun i j => .bl (decide (j < i))
abbrev oGe := iop fun i j => .bl (decide (j ≤ i))
variable {a b : Expr} {fa fb : Sem1} {pos : Pos}
theorem re_add (ha : RE X tb W a fa) (hb : RE X tb W b fb) : RE X tb W (.BinOp a .Add b pos) (sBin oAdd fa fb) := re_bin op_add (opC_i fun i j F => .int _) ha hb
theorem re_sub (ha : RE X tb W a fa) (hb : RE X tb W b fb) : RE X tb W (.BinOp a .Sub b pos) (sBin oSub fa fb) := re_bin op_sub (opC_i fun i j F => .int _) ha hb
theorem re_mul (ha : RE X tb W a fa) (hb : RE X tb W b fb) : RE X tb W (.BinOp a .Mult b pos) (sBin oMul fa fb) :=
  re_bin op_mul (opC_iC (fun i j h => by simp only [mulOk, Bool.or_eq_true, decide_eq_true_eq] at h; unfold CMul; omega) fun i j F => .int _) ha hb
theorem re_div (ha : RE X tb W a fa) (hb : RE X tb W b fb) : RE X tb W (.BinOp a .FloorDiv b pos) (sBin oDiv fa fb) :=
  re_bin op_fdivN (opC_iC (fun i j h => by simpa [divOk, CDivN] using h) fun i j F => .int _) ha hb
theorem re_mod (ha : RE X tb W a fa) (hb : RE X tb W b fb) : RE X tb W (.BinOp a .Mod b pos) (sBin oMod fa fb) :=
  re_bin op_modN (opC_iC (fun i j h => by simpa [modOk] using h) fun i j F => .int _) ha hb
theorem re_pow (ha : RE X tb W a fa) (hb : RE X tb W b fb) : RE X tb W (.BinOp a .Pow b pos) (sBin oPow fa fb) :=
  re_bin op_pow (opC_iC (fun i j h => by simp only [powOk, Bool.and_eq_true, decide_eq_true_eq] at h; exact ⟨h.1.1, h.1.2, h.2⟩) fun i j F => .int _) ha hb
theorem re_lt (ha : RE X tb W a fa) (hb : RE X tb W b fb) : RE X tb W (.Compare a [.Lt] [b] pos) (sBin oLt fa fb) := re_cmp op_lt (opC_i fun i j F => .bl _) ha hb (nomark _)
theorem re_le (ha : RE X tb W a fa) (hb : RE X tb W b fb) : RE X tb W (.Compare a [.LtE] [b] pos) (sBin oLe fa fb) := re_cmp op_le (opC_i fun i j F => .bl _) ha hb (nomark _)
theorem re_gt (ha : RE X tb W a fa) (hb : RE X tb W b fb) : RE X tb W (.Compare a [.Gt] [b] pos) (sBin oGt fa fb) := re_cmp op_gt (opC_i fun i j F => .bl _) ha hb (nomark _)
theorem re_ge (ha : RE X tb W a fa) (hb : RE X tb W b fb) : RE X tb W (.Compare a [.GtE] [b] pos) (sBin oGe fa fb) := re_cmp op_ge (opC_i fun i j F => .bl _) ha hb (nomark _)
def oNeg : Dv → Option Dv
  | .int i => some (.int (-i))
  | _ => none
theorem re_neg (ha : RE X tb W a fa) : RE X tb W (.UnaryOp .USub a pos) (sUn oNeg fa) := re_un un_neg (fun F ρ m H x v d Q o tx e k => by
  cases x <;> simp only [oNeg, Option.some.injEq, reduceCtorEq] at e
  subst e
  exact ⟨_, tx.int, k F H _ (.refl _ _) o (.int _)⟩) ha
end
end EvL
end

section
set_option Elab.async false
set_option linter.all false
set_option maxRecDepth 100000
set_option maxHeartbeats 2000000
/-! E3: tests, and/or, displays, subscripts, slices, ==, isinstance, built-ins -/
namespace EvL
open PySem PySem.Spec PyProof.Rows L2
section
variable {K : PySem.W.Frag} {tb : Tb} {W : WX} {X : Cx} {a b c : Expr} {fa fb fc : Sem1} {ga gb : SemB} {pos : Pos}

/-- one expression in a test -/
theorem tE_bindB {f : Sem1} {g : Sv → Store → Rs Bool} {F : Hp} {ρ : List Addr} {en : En} {m : Store} {σ : L2.St} {H : Hp} {Q : VK} {R : Bool → Hp → Prop} (he : EnvOk K tb F ρ en σ) (ho : Wo K tb F ρ m H) (h : PostB K tb W F ρ σ R ((f en m).bind g))
    (k : ∀ x m' F' ρ' H' v, Ext F ρ F' ρ' → EnvOk K tb F' ρ' en σ → Wo K tb F' ρ' m' H' → RepS K tb F' ρ' x v → PostB K tb W F' ρ' σ R (g x m') → Q v H') : tE K tb W f σ H Q := by
  refine tE_iff.mpr ⟨F, ρ, en, m, he, ho, ?_⟩
  cases e : f en m with
  | ok x m' =>
    rw [e] at h
    exact fun F' ρ' H' v ex o r => k x m' F' ρ' H' v ex (he.mono ex) o r (PostB.ext ex h)
  | ex x m' => rw [e] at h; exact h
  | no => rw [e] at h; exact h
theorem tB_bind {f : SemB} {g : Bool → Store → Rs Sv} {F : Hp} {ρ : List Addr} {en : En} {m : Store} {σ : L2.St} {H : Hp} {R : VK} {Q : Bool → Hp → Prop} (he : EnvOk K tb F ρ en σ) (ho : Wo K tb F ρ m H) (h : PostE K tb W F ρ σ R ((f en m).bind g))
    (k : ∀ x m' F' ρ' H', Ext F ρ F' ρ' → EnvOk K tb F' ρ' en σ → Wo K tb F' ρ' m' H' → PostE K tb W F' ρ' σ R (g x m') → Q x H') : EvL.tB K tb W f σ H Q := by
  refine ⟨F, ρ, en, m, he, ho, ?_⟩
  cases e : f en m with
  | ok x m' =>
    rw [e] at h
    exact fun F' ρ' H' ex o => k x m' F' ρ' H' ex (he.mono ex) o (PostE.ext ex h)
  | ex x m' => rw [e] at h; exact h
  | no => rw [e] at h; exact h
theorem tB_bindB {f : SemB} {g : Bool → Store → Rs Bool} {F : Hp} {ρ : List Addr} {en : En} {m : Store} {σ : L2.St} {H : Hp} {R : Bool → Hp → Prop} {Q : Bool → Hp → Prop} (he : EnvOk K tb F ρ en σ) (ho : Wo K tb F ρ m H) (h : PostB K tb W F ρ σ R ((f en m).bind g))
    (k : ∀ x m' F' ρ' H', Ext F ρ F' ρ' → EnvOk K tb F' ρ' en σ → Wo K tb F' ρ' m' H' → PostB K tb W F' ρ' σ R (g x m') → Q x H') : EvL.tB K tb W f σ H Q := by
  refine ⟨F, ρ, en, m, he, ho, ?_⟩
  cases e : f en m with
  | ok x m' =>
    rw [e] at h
    exact fun F' ρ' H' ex o => k x m' F' ρ' H' ex (he.mono ex) o (PostB.ext ex h)
  | ex x m' => rw [e] at h; exact h
  | no => rw [e] at h; exact h

/-! ### tests -/
def truth : Dv → Option Bool
  | .non => some false
  | .bl b => some b
  | .int i => some (i != 0)
  | .str x => if x.length ≤ sizeLine then some ((x.length : Int) != 0) else none
  | .tup xs => some (!xs.isEmpty)
  | .lst xs => some (!xs.isEmpty)
  | .dic xs => some (!xs.isEmpty)
  | .fn _ => none
  | .scr ns => some (!ns.isEmpty)
def sT (f : Sem1) : SemB := fun en m => (f en m).bind fun x m1 => match rv m1 x with
  | some d => (match truth d with | some k => .ok k m1 | none => .no)
  | none => .no
theorem isEmpty_len {α β : Type} {xs : List α} {ys : List β} (h : xs.length = ys.length) : xs.isEmpty = ys.isEmpty := by
  cases xs <;> cases ys <;> simp at h <;> rfl
theorem RepK.length {F : Hp} : ∀ {d : List (Key × Dv)} {v : List (Key × V)}, RepK K tb F d v → d.length = v.length
  | _, _, .nil => rfl
  | _, _, .cons _ r => by simp [RepK.length r]
theorem truth_ok {F H : Hp} {d : Dv} {v : V} {k : Bool} (l : Le F H) (t : Top K tb F H d v) (e : truth d = some k) : TruV K v H k := by
  cases t with
  | of r =>
    cases r with
    | non => cases e; rfl
    | bl b => cases e; rfl
    | int i => cases e; rfl
    | str x =>
      simp only [truth, Option.ite_none_right_eq_some, Option.some.injEq] at e
      exact ⟨e.1, e.2.symm⟩
    | tup h r => cases e; exact .inr (.inl ⟨_, l.sqt h, by rw [isEmpty_len r.length]⟩)
    | lst h r => cases e; exact .inl ⟨_, .inl (.inl (l _ _ h)), by rw [isEmpty_len r.length]⟩
    | dic h r => cases e; exact .inr (.inr ⟨_, l _ _ h, by rw [isEmpty_len r.length]⟩)
    | fn n => cases e
    | @scr a ns h => cases e; exact .inl ⟨_, l.sql h, by rw [isEmpty_len (ys := ns.map V.int) (by simp)]⟩
  | lst h r => cases e; exact .inl ⟨_, .inl (.inl h), by rw [isEmpty_len r.length]⟩
  | dic h r => cases e; exact .inr (.inr ⟨_, h, by rw [isEmpty_len r.length]⟩)
/-- any expression but a comparison, and, or, not, by its truth -/
theorem rt_of (ha : RE X tb W a fa) (he : ∀ whole, isTrue a X.env whole = (do let v ← whole; standAt a.pos; holding [v] (truthy v)) := by intro _; rfl) : RT X tb W a (sT fa) := by
  refine PT.weak (pt_truth ha he) fun σ H Q h => ?_
  obtain ⟨F, ρ, en, m, he, ho, q⟩ := h
  refine tE_bindB he ho q fun x m1 F1 ρ1 H1 v e1 he1 ho1 r1 q1 => ?_
  split at q1
  · rename_i d hd
    split at q1
    · rename_i k hk
      exact ⟨k, truth_ok ho1.sub (rv_top ho1 r1 hd) hk, q1 F1 ρ1 H1 (.refl _ _) ho1⟩
    · exact q1.elim
  · exact q1.elim
theorem bool_of {d : Dv} {k : Bool} {F H : Hp} {x : V} (l : Le F H) (t : Top K tb F H d x) (e : truth d = some k) (hb : ∃ k', x = V.bl k') : x = V.bl k := by
  obtain ⟨k', rfl⟩ := hb
  have h := truth_ok l t e
  rw [show k = k' from h]
/-- a comparison -/
theorem rt_cmp {op : CmpOp} {r : R2} {sop : Dv → Dv → Option Dv} (ho : OpR X (compareOp op) r) (c : OpC X tb r sop) (hs : ∀ x y d, sop x y = some d → ∃ k, d = .bl k) (ha : RE X tb W a fa) (hb : RE X tb W b fb) (hm : behindInMarks op b = false) :
    RT X tb W (.Compare a [op] [b] pos) (sT (sBin sop fa fb)) := by
  refine PT.weak (pt_cmpR ho ha hb hm) fun σ H Q h => ?_
  obtain ⟨F, ρ, en, m, he, hw, q⟩ := h
  show tOp r _ _ σ H _
  refine sBin_run (W := W) c (tE_iff.mpr ⟨F, ρ, en, m, he, hw, ?_⟩)
  unfold sT at q
  cases e : sBin sop fa fb en m with
  | ok x m1 =>
    rw [e] at q
    intro F' ρ' H' v ex o rr
    have hd : ∃ k, x = .d (.bl k) := by
      unfold sBin at e
      cases e1 : fa en m with
      | ok y m2 =>
        rw [e1, Rs.bind_ok] at e
        cases e2 : fb en m2 with
        | ok z m3 =>
          rw [e2, Rs.bind_ok] at e
          split at e
          · split at e
            · rename_i d hd
              cases e
              obtain ⟨k, rfl⟩ := hs _ _ _ hd
              exact ⟨k, rfl⟩
            · cases e
          · cases e
        | ex z m3 => rw [e2] at e; cases e
        | no => rw [e2] at e; cases e
      | ex y m2 => rw [e1] at e; cases e
      | no => rw [e1] at e; cases e
    obtain ⟨k, rfl⟩ := hd
    cases rr with
    | d rr =>
      cases rr
      exact ⟨k, rfl, q F' ρ' H' ex o⟩
  | ex x m1 => rw [e] at q; exact q
  | no => rw [e] at q; exact q
theorem iop_bl {g : Int → Int → Bool} : ∀ x y d, iop (fun i j => .bl (g i j)) x y = some d → ∃ k, d = .bl k := by
  intro x y d h
  cases x <;> cases y <;> simp only [iop, Option.some.injEq, reduceCtorEq] at h
  exact ⟨_, h.symm⟩
theorem rt_lt (ha : RE X tb W a fa) (hb : RE X tb W b fb) : RT X tb W (.Compare a [.Lt] [b] pos) (sT (sBin oLt fa fb)) := rt_cmp op_lt (opC_i fun i j F => .bl _) iop_bl ha hb (nomark _)
theorem rt_le (ha : RE X tb W a fa) (hb : RE X tb W b fb) : RT X tb W (.Compare a [.LtE] [b] pos) (sT (sBin oLe fa fb)) := rt_cmp op_le (opC_i fun i j F => .bl _) iop_bl ha hb (nomark _)
theorem rt_gt (ha : RE X tb W a fa) (hb : RE X tb W b fb) : RT X tb W (.Compare a [.Gt] [b] pos) (sT (sBin oGt fa fb)) := rt_cmp op_gt (opC_i fun i j F => .bl _) iop_bl ha hb (nomark _)
theorem rt_ge (ha : RE X tb W a fa) (hb : RE X tb W b fb) : RT X tb W (.Compare a [.GtE] [b] pos) (sT (sBin oGe fa fb)) := rt_cmp op_ge (opC_i fun i j F => .bl _) iop_bl ha hb (nomark _)

def bAnd (f g : SemB) : SemB := fun en m => (f en m).bind fun k m1 => if k = true then g en m1 else .ok false m1
def bOr (f g : SemB) : SemB := fun en m => (f en m).bind fun k m1 => if k = true then .ok true m1 else g en m1
def bNot (f : SemB) : SemB := fun en m => (f en m).bind fun k m1 => .ok (!k) m1
/-- and, or in tests: a chain ends with rw_one -/
abbrev RW (X : Cx) (tb : Tb) (W : WX) (e : Expr) (f : SemB) : Prop := PW X e (EvL.tB X.K tb W f)
theorem PW.weak {e : Expr} {t t' : TT} (h : PW X e t) (w : ∀ σ H Q, t' σ H Q → t σ H Q) : PW X e t' := ⟨fun wh pins s σ H Q I q => h.run wh pins s σ H Q I (w _ _ _ q)⟩
theorem rw_and1 (ha : RT X tb W a ga) : RW X tb W (.BoolOp .And [a] pos) ga := pw_and1 ha
theorem rw_or1 (ha : RT X tb W a ga) : RW X tb W (.BoolOp .Or [a] pos) ga := pw_or1 ha
theorem rw_and {rest : List Expr} (ha : RT X tb W a ga) (hb : RW X tb W (.BoolOp .And (b :: rest) pos) gb) : RW X tb W (.BoolOp .And (a :: b :: rest) pos) (bAnd ga gb) := by
  refine PW.weak (pw_and ha hb) fun σ H Q h => ?_
  obtain ⟨F, ρ, en, m, he, ho, q⟩ := h
  refine tB_bindB he ho q fun k m1 F1 ρ1 H1 e1 he1 ho1 q1 => ?_
  cases k with
  | true =>
    rw [if_pos rfl] at q1 ⊢
    exact ⟨F1, ρ1, en, m1, he1, ho1, q1⟩
  | false =>
    rw [if_neg Bool.false_ne_true] at q1 ⊢
    exact q1 F1 ρ1 H1 (.refl _ _) ho1
theorem rw_or {rest : List Expr} (ha : RT X tb W a ga) (hb : RW X tb W (.BoolOp .Or (b :: rest) pos) gb) : RW X tb W (.BoolOp .Or (a :: b :: rest) pos) (bOr ga gb) := by
  refine PW.weak (pw_or ha hb) fun σ H Q h => ?_
  obtain ⟨F, ρ, en, m, he, ho, q⟩ := h
  refine tB_bindB he ho q fun k m1 F1 ρ1 H1 e1 he1 ho1 q1 => ?_
  cases k with
  | true =>
    rw [if_pos rfl] at q1 ⊢
    exact q1 F1 ρ1 H1 (.refl _ _) ho1
  | false =>
    rw [if_neg Bool.false_ne_true] at q1 ⊢
    exact ⟨F1, ρ1, en, m1, he1, ho1, q1⟩
theorem rt_w {e : Expr} (h : RW X tb W e ga) : RT X tb W e ga := h.pt
theorem rt_not (ha : RT X tb W a ga) : RT X tb W (.UnaryOp .Not a pos) (bNot ga) := by
  refine PT.weak (pt_not ha) fun σ H Q h => ?_
  obtain ⟨F, ρ, en, m, he, ho, q⟩ := h
  exact tB_bindB he ho q fun k m1 F1 ρ1 H1 e1 he1 ho1 q1 => q1 F1 ρ1 H1 (.refl _ _) ho1

/-! ### the same as values: all but the last a bool -/
def isB : Option Dv → Option Bool
  | some (.bl k) => some k
  | _ => none
def sAnd (f g : Sem1) : Sem1 := fun en m => (f en m).bind fun x m1 => match isB (rv m1 x) with
  | some true => g en m1
  | some false => .ok (.d (.bl false)) m1
  | none => .no
def sOr (f g : Sem1) : Sem1 := fun en m => (f en m).bind fun x m1 => match isB (rv m1 x) with
  | some true => .ok (.d (.bl true)) m1
  | some false => g en m1
  | none => .no
def sNot (f : Sem1) : Sem1 := fun en m => (f en m).bind fun x m1 => match isB (rv m1 x) with
  | some k => .ok (.d (.bl (!k))) m1
  | none => .no
theorem isB_v {F : Hp} {ρ : List Addr} {m : Store} {H : Hp} {x : Sv} {v : V} {k : Bool} (o : Wo K tb F ρ m H) (r : RepS K tb F ρ x v) (e : isB (rv m x) = some k) : v = .bl k := by
  cases e1 : rv m x with
  | none => rw [e1] at e; cases e
  | some d =>
    rw [e1] at e
    cases d <;> simp only [isB, Option.some.injEq, reduceCtorEq] at e
    subst e
    exact (rv_top o r e1).bl
theorem re_one {op} (ha : RE X tb W a fa) : RE X tb W (.BoolOp op [a] pos) fa := pe_one ha
theorem re_and {rest : List Expr} (ha : RE X tb W a fa) (hb : RE X tb W (.BoolOp .And (b :: rest) pos) fb) : RE X tb W (.BoolOp .And (a :: b :: rest) pos) (sAnd fa fb) := by
  refine PE.weak (pe_and ha hb) fun σ H Q h => ?_
  obtain ⟨F, ρ, en, m, he, ho, q⟩ := tE_iff.mp h
  refine tE_bind he ho q fun x m1 F1 ρ1 H1 v e1 he1 ho1 r1 q1 => ?_
  cases ek : isB (rv m1 x) with
  | none => rw [ek] at q1; exact q1.elim
  | some k =>
    rw [ek] at q1
    refine ⟨k, isB_v ho1 r1 ek, ?_⟩
    cases k with
    | true => rw [if_pos rfl]; exact tE_iff.mpr ⟨F1, ρ1, en, m1, he1, ho1, q1⟩
    | false => rw [if_neg Bool.false_ne_true]; exact q1 F1 ρ1 H1 _ (.refl _ _) ho1 (.d (.bl false))
theorem re_or {rest : List Expr} (ha : RE X tb W a fa) (hb : RE X tb W (.BoolOp .Or (b :: rest) pos) fb) : RE X tb W (.BoolOp .Or (a :: b :: rest) pos) (sOr fa fb) := by
  refine PE.weak (pe_or ha hb) fun σ H Q h => ?_
  obtain ⟨F, ρ, en, m, he, ho, q⟩ := tE_iff.mp h
  refine tE_bind he ho q fun x m1 F1 ρ1 H1 v e1 he1 ho1 r1 q1 => ?_
  cases ek : isB (rv m1 x) with
  | none => rw [ek] at q1; exact q1.elim
  | some k =>
    rw [ek] at q1
    refine ⟨k, isB_v ho1 r1 ek, ?_⟩
    cases k with
    | true => rw [if_pos rfl]; exact q1 F1 ρ1 H1 _ (.refl _ _) ho1 (.d (.bl true))
    | false => rw [if_neg Bool.false_ne_true]; exact tE_iff.mpr ⟨F1, ρ1, en, m1, he1, ho1, q1⟩
theorem re_not (ha : RE X tb W a fa) : RE X tb W (.UnaryOp .Not a pos) (sNot fa) := by
  refine PE.weak (pe_not ha) fun σ H Q h => ?_
  obtain ⟨F, ρ, en, m, he, ho, q⟩ := tE_iff.mp h
  refine tE_bind he ho q fun x m1 F1 ρ1 H1 v e1 he1 ho1 r1 q1 => ?_
  cases ek : isB (rv m1 x) with
  | none => rw [ek] at q1; exact q1.elim
  | some k =>
    rw [ek] at q1
    exact ⟨k, isB_v ho1 r1 ek, q1 F1 ρ1 H1 _ (.refl _ _) ho1 (.d (.bl _))⟩
def sIf (g : SemB) (f h : Sem1) : Sem1 := fun en m => (g en m).bind fun k m1 => if k = true then f en m1 else h en m1
theorem re_if (hc : RT X tb W c ga) (ha : RE X tb W a fa) (hb : RE X tb W b fb) : RE X tb W (.IfExp c a b pos) (sIf ga fa fb) := by
  refine PE.weak (pe_ifExp hc ha hb) fun σ H Q h => ?_
  obtain ⟨F, ρ, en, m, he, ho, q⟩ := tE_iff.mp h
  refine tB_bind he ho q fun k m1 F1 ρ1 H1 e1 he1 ho1 q1 => ?_
  cases k with
  | true => rw [if_pos rfl] at q1 ⊢; exact tE_iff.mpr ⟨F1, ρ1, en, m1, he1, ho1, q1⟩
  | false => rw [if_neg Bool.false_ne_true] at q1 ⊢; exact tE_iff.mpr ⟨F1, ρ1, en, m1, he1, ho1, q1⟩
/-- a op b op' c -/
def sChain (o1 o2 : Dv → Dv → Option Dv) (f g h : Sem1) : Sem1 := fun en m => (f en m).bind fun x m1 => (g en m1).bind fun y m2 => match rv m2 x, rv m2 y with
  | some a, some b => (match isB (o1 a b) with
    | some true => (h en m2).bind fun z m3 => match rv m3 y, rv m3 z with
      | some b', some c => (match o2 b' c with | some d => .ok (.d d) m3 | none => .no)
      | _, _ => .no
    | some false => .ok (.d (.bl false)) m2
    | none => .no)
  | _, _ => .no
theorem sChain_run {r r' : R2} {o1 o2 : Dv → Dv → Option Dv} (c1 : OpC X tb r o1) (c2 : OpC X tb r' o2) {σ : L2.St} {H : Hp} {Q : VK} (h : tE X.K tb W (sChain o1 o2 fa fb fc) σ H Q) : tChain r r' (tE X.K tb W fa) (tE X.K tb W fb) (tE X.K tb W fc) σ H Q := by
  obtain ⟨F, ρ, en, m, he, ho, q⟩ := tE_iff.mp h
  refine tE_bind he ho q fun x m1 F1 ρ1 H1 v e1 he1 ho1 r1 q1 => ?_
  refine tE_bind he1 ho1 q1 fun y m2 F2 ρ2 H2 u e2 he2 ho2 r2 q2 => ?_
  split at q2
  · rename_i a b ha hb
    cases ek : isB (o1 a b) with
    | none => rw [ek] at q2; exact q2.elim
    | some k =>
      rw [ek] at q2
      have eo : o1 a b = some (.bl k) := by
        cases e5 : o1 a b with
        | none => rw [e5] at ek; cases ek
        | some d =>
          rw [e5] at ek
          cases d <;> simp only [isB, Option.some.injEq, reduceCtorEq] at ek
          rw [ek]
      refine c1 F2 ρ2 m2 H2 a b v u (.bl k) _ ho2 (rv_top ho2 (r1.mono e2) ha) (rv_top ho2 r2 hb) eo fun F3 H3 z ex3 o3 rz => ?_
      cases rz
      refine ⟨k, rfl, ?_⟩
      cases k with
      | false => rw [if_neg Bool.false_ne_true]; exact q2 F3 ρ2 H3 _ ex3 o3 (.d (.bl false))
      | true =>
        rw [if_pos rfl]
        refine tE_bind (he2.mono ex3) o3 (PostE.ext ex3 q2) fun z m4 F4 ρ4 H4 w4 e4 he4 ho4 r4 q4 => ?_
        split at q4
        · rename_i b' c' hb' hc'
          split at q4
          · rename_i d hd
            exact c2 F4 ρ4 m4 H4 b' c' u w4 d Q ho4 (rv_top ho4 (r2.mono (ex3.trans e4)) hb') (rv_top ho4 r4 hc') hd fun F' H' z ex o' rz => q4 F' ρ4 H' z ex o' (.d rz)
          · exact q4.elim
        · exact q4.elim
  · exact q2.elim
theorem re_chain {op op' : CmpOp} {r r' : R2} {o1 o2 : Dv → Dv → Option Dv} (h1 : OpR X (compareOp op) r) (c1 : OpC X tb r o1) (h2 : OpR X (compareOp op') r') (c2 : OpC X tb r' o2) (ha : RE X tb W a fa) (hb : RE X tb W b fb) (hc : RE X tb W c fc)
    (hm : lastMarks [op, op'] [b, c] = false := by with_unfolding_all rfl) : RE X tb W (.Compare a [op, op'] [b, c] pos) (sChain o1 o2 fa fb fc) :=
  PE.weak (pe_chain h1 h2 ha hb hc hm) fun σ H Q q => sChain_run c1 c2 q
theorem re_lele (ha : RE X tb W a fa) (hb : RE X tb W b fb) (hc : RE X tb W c fc) (hm : lastMarks [.LtE, .LtE] [b, c] = false := by with_unfolding_all rfl) : RE X tb W (.Compare a [.LtE, .LtE] [b, c] pos) (sChain oLe oLe fa fb fc) :=
  re_chain op_le (opC_i fun i j F => .bl _) op_le (opC_i fun i j F => .bl _) ha hb hc hm
/-- a chain in a test -/
theorem rt_chain {op op' : CmpOp} {r r' : R2} {o1 o2 : Dv → Dv → Option Dv} (h1 : OpR X (compareOp op) r) (c1 : OpC X tb r o1) (h2 : OpR X (compareOp op') r') (c2 : OpC X tb r' o2) (hs : ∀ x y d, o2 x y = some d → ∃ k, d = .bl k) (ha : RE X tb W a fa) (hb : RE X tb W b fb) (hc : RE X tb W c fc)
    (hm : lastMarks [op, op'] [b, c] = false := by with_unfolding_all rfl) : RT X tb W (.Compare a [op, op'] [b, c] pos) (sT (sChain o1 o2 fa fb fc)) := by
  refine PT.weak (pt_chain h1 h2 ha hb hc hm) fun σ H Q h => ?_
  obtain ⟨F, ρ, en, m, he, hw, q⟩ := h
  show tChain r r' _ _ _ σ H _
  refine sChain_run (W := W) c1 c2 (tE_iff.mpr ⟨F, ρ, en, m, he, hw, ?_⟩)
  unfold sT at q
  cases e : sChain o1 o2 fa fb fc en m with
  | ok x m1 =>
    rw [e] at q
    intro F' ρ' H' v ex o rr
    have hd : ∃ k, x = .d (.bl k) := by
      unfold sChain at e
      cases e1 : fa en m with
      | ok y m2 =>
        rw [e1, Rs.bind_ok] at e
        cases e2 : fb en m2 with
        | ok z m3 =>
          rw [e2, Rs.bind_ok] at e
          split at e
          · split at e
            · cases e3 : fc en m3 with
              | ok z4 m4 =>
                rw [e3, Rs.bind_ok] at e
                split at e
                · split at e
                  · rename_i d hd
                    cases e
                    obtain ⟨k, rfl⟩ := hs _ _ _ hd
                    exact ⟨k, rfl⟩
                  · cases e
                · cases e
              | ex z4 m4 => rw [e3] at e; cases e
              | no => rw [e3] at e; cases e
            · cases e; exact ⟨false, rfl⟩
            · cases e
          · cases e
        | ex z m3 => rw [e2] at e; cases e
        | no => rw [e2] at e; cases e
      | ex y m2 => rw [e1] at e; cases e
      | no => rw [e1] at e; cases e
    obtain ⟨k, rfl⟩ := hd
    cases rr with
    | d rr =>
      cases rr
      exact ⟨k, rfl, q F' ρ' H' ex o⟩
  | ex x m1 => rw [e] at q; exact q
  | no => rw [e] at q; exact q
theorem rt_lele (ha : RE X tb W a fa) (hb : RE X tb W b fb) (hc : RE X tb W c fc) (hm : lastMarks [.LtE, .LtE] [b, c] = false := by with_unfolding_all rfl) : RT X tb W (.Compare a [.LtE, .LtE] [b, c] pos) (sT (sChain oLe oLe fa fb fc)) :=
  rt_chain op_le (opC_i fun i j F => .bl _) op_le (opC_i fun i j F => .bl _) iop_bl ha hb hc hm
/-- is None -/
def oIsN : Dv → Dv → Option Dv
  | .non, .non => some (.bl true)
  | .lst _, .non | .tup _, .non | .dic _, .non | .fn _, .non | .scr _, .non | .int _, .non | .bl _, .non | .str _, .non => some (.bl false)
  | _, _ => none
def oNotN : Dv → Dv → Option Dv
  | .non, .non => some (.bl false)
  | .lst _, .non | .tup _, .non | .dic _, .non | .fn _, .non | .scr _, .non | .int _, .non | .bl _, .non | .str _, .non => some (.bl true)
  | _, _ => none
theorem top_notN {F H : Hp} {d : Dv} {v : V} (t : Top K tb F H d v) : decide (v = .non) = (match d with | .non => true | _ => false) := by
  cases t with
  | of r => cases r <;> simp
  | lst h r => simp
  | dic h r => simp
theorem opC_isN : OpC X tb (fun x y H Q => y = .non ∧ Q (.bl (decide (x = .non))) H) oIsN := by
  intro F ρ m H x y v u d Q o tx ty e k
  cases y <;> first | (cases x <;> cases e; done) | skip
  refine ⟨ty.non, ?_⟩
  rw [top_notN tx]
  cases x <;> simp only [oIsN, Option.some.injEq] at e <;> subst e <;> exact k F H _ (.refl _ _) o (.bl _)
theorem opC_notN : OpC X tb (fun x y H Q => y = .non ∧ Q (.bl (!decide (x = .non))) H) oNotN := by
  intro F ρ m H x y v u d Q o tx ty e k
  cases y <;> first | (cases x <;> cases e; done) | skip
  refine ⟨ty.non, ?_⟩
  rw [top_notN tx]
  cases x <;> simp only [oNotN, Option.some.injEq] at e <;> subst e <;> exact k F H _ (.refl _ _) o (.bl _)
theorem oIsN_bl : ∀ x y d, oIsN x y = some d → ∃ k, d = .bl k := by
  intro x y d h
  cases y <;> cases x <;> simp only [oIsN, Option.some.injEq, reduceCtorEq] at h <;> exact ⟨_, h.symm⟩
theorem oNotN_bl : ∀ x y d, oNotN x y = some d → ∃ k, d = .bl k := by
  intro x y d h
  cases y <;> cases x <;> simp only [oNotN, Option.some.injEq, reduceCtorEq] at h <;> exact ⟨_, h.symm⟩
theorem re_isN (ha : RE X tb W a fa) (hb : RE X tb W b fb) : RE X tb W (.Compare a [.Is] [b] pos) (sBin oIsN fa fb) := re_cmp op_isN opC_isN ha hb (nomark _)
theorem re_notN (ha : RE X tb W a fa) (hb : RE X tb W b fb) : RE X tb W (.Compare a [.IsNot] [b] pos) (sBin oNotN fa fb) := re_cmp op_notN opC_notN ha hb (nomark _)
theorem rt_isN (ha : RE X tb W a fa) (hb : RE X tb W b fb) : RT X tb W (.Compare a [.Is] [b] pos) (sT (sBin oIsN fa fb)) := rt_cmp op_isN opC_isN oIsN_bl ha hb (nomark _)
theorem rt_notN (ha : RE X tb W a fa) (hb : RE X tb W b fb) : RT X tb W (.Compare a [.IsNot] [b] pos) (sT (sBin oNotN fa fb)) := rt_cmp op_notN opC_notN oNotN_bl ha hb (nomark _)
end
end EvL
end

section
set_option Elab.async false
set_option linter.all false
set_option maxRecDepth 100000
set_option maxHeartbeats 2000000
/-! E4: displays, fresh lists, subscripts, slices, sums of sequences, ==, isinstance, built-ins, calls -/
namespace EvL
open PySem PySem.Spec PyProof.Rows L2
section
variable {K : PySem.W.Frag} {tb : Tb} {W : WX} {X : Cx} {a b c e : Expr} {es : List Expr} {fa fb fc : Sem1} {fl : SemL} {ga gb : SemB} {pos : Pos}

/-! ### argument lists -/
def lNil : SemL := fun _ m => .ok [] m
def lCons (f : Sem1) (g : SemL) : SemL := fun en m => (f en m).bind fun x m1 => (g en m1).bind fun xs m2 => .ok (x :: xs) m2
theorem tE_bindL {f : Sem1} {g : Sv → Store → Rs (List Sv)} {F : Hp} {ρ : List Addr} {en : En} {m : Store} {σ : L2.St} {H : Hp} {Q : VK} {R : List V → Hp → Prop} (he : EnvOk K tb F ρ en σ) (ho : Wo K tb F ρ m H) (h : PostL K tb W F ρ σ R ((f en m).bind g))
    (k : ∀ x m' F' ρ' H' v, Ext F ρ F' ρ' → EnvOk K tb F' ρ' en σ → Wo K tb F' ρ' m' H' → RepS K tb F' ρ' x v → PostL K tb W F' ρ' σ R (g x m') → Q v H') : tE K tb W f σ H Q := by
  refine tE_iff.mpr ⟨F, ρ, en, m, he, ho, ?_⟩
  cases e : f en m with
  | ok x m' =>
    rw [e] at h
    exact fun F' ρ' H' v ex o r => k x m' F' ρ' H' v ex (he.mono ex) o r (PostL.ext ex h)
  | ex x m' => rw [e] at h; exact h
  | no => rw [e] at h; exact h
theorem tEL_bindL {f : SemL} {g : List Sv → Store → Rs (List Sv)} {F : Hp} {ρ : List Addr} {en : En} {m : Store} {σ : L2.St} {H : Hp} {Q R : List V → Hp → Prop} (he : EnvOk K tb F ρ en σ) (ho : Wo K tb F ρ m H) (h : PostL K tb W F ρ σ R ((f en m).bind g))
    (k : ∀ x m' F' ρ' H' v, Ext F ρ F' ρ' → EnvOk K tb F' ρ' en σ → Wo K tb F' ρ' m' H' → RepSL K tb F' ρ' x v → PostL K tb W F' ρ' σ R (g x m') → Q v H') : tEL K tb W f σ H Q := by
  refine tEL_iff.mpr ⟨F, ρ, en, m, he, ho, ?_⟩
  cases e : f en m with
  | ok x m' =>
    rw [e] at h
    exact fun F' ρ' H' v ex o r => k x m' F' ρ' H' v ex (he.mono ex) o r (PostL.ext ex h)
  | ex x m' => rw [e] at h; exact h
  | no => rw [e] at h; exact h
theorem tEL_bind {f : SemL} {g : List Sv → Store → Rs Sv} {F : Hp} {ρ : List Addr} {en : En} {m : Store} {σ : L2.St} {H : Hp} {Q : List V → Hp → Prop} {R : VK} (he : EnvOk K tb F ρ en σ) (ho : Wo K tb F ρ m H) (h : PostE K tb W F ρ σ R ((f en m).bind g))
    (k : ∀ x m' F' ρ' H' v, Ext F ρ F' ρ' → EnvOk K tb F' ρ' en σ → Wo K tb F' ρ' m' H' → RepSL K tb F' ρ' x v → PostE K tb W F' ρ' σ R (g x m') → Q v H') : tEL K tb W f σ H Q := by
  refine tEL_iff.mpr ⟨F, ρ, en, m, he, ho, ?_⟩
  cases e : f en m with
  | ok x m' =>
    rw [e] at h
    exact fun F' ρ' H' v ex o r => k x m' F' ρ' H' v ex (he.mono ex) o r (PostE.ext ex h)
  | ex x m' => rw [e] at h; exact h
  | no => rw [e] at h; exact h
theorem ra_nil : RA X tb W [] lNil := by
  refine PA.weak pa_nil fun σ H Q q => ?_
  obtain ⟨F, ρ, en, m, he, ho, q⟩ := tEL_iff.mp q
  exact q F ρ H [] (.refl _ _) ho .nil
theorem ra_cons (ha : RE X tb W e fa) (hr : RA X tb W es fl) (hs : starEach (e :: es) X.env = (false, eval e X.env) :: starEach es X.env := by rfl) : RA X tb W (e :: es) (lCons fa fl) := by
  refine PA.weak (pa_cons ha hr hs) fun σ H Q q => ?_
  obtain ⟨F, ρ, en, m, he, ho, q⟩ := tEL_iff.mp q
  refine tE_bindL he ho q fun x m1 F1 ρ1 H1 v e1 he1 ho1 r1 q1 => ?_
  refine tEL_bindL he1 ho1 q1 fun xs m2 F2 ρ2 H2 vs e2 he2 ho2 r2 q2 => ?_
  exact q2 F2 ρ2 H2 (v :: vs) (.refl _ _) ho2 (.cons (r1.mono e2) r2)

/-! ### what goes into data stands still from then on -/
def frz (m : Store) : Sv → Option (Dv × Store)
  | .d x => some (x, m)
  | .o i => match m[i]? with
    | some (.lst xs) => some (.lst xs, m.set i .gone)
    | some (.dic xs) => some (.dic xs, m.set i .gone)
    | _ => none
theorem get_nodup {ρ : List Addr} (nd : ρ.Nodup) {i j : Nat} {a b : Addr} (h1 : ρ[i]? = some a) (h2 : ρ[j]? = some b) (ne : i ≠ j) : a ≠ b := by
  intro e
  subst e
  obtain ⟨hi, e1⟩ := List.getElem?_eq_some_iff.mp h1
  obtain ⟨hj, e2⟩ := List.getElem?_eq_some_iff.mp h2
  rcases Nat.lt_or_gt_of_ne ne with h | h
  · exact List.pairwise_iff_getElem.mp nd i j hi hj h (e1.trans e2.symm)
  · exact List.pairwise_iff_getElem.mp nd j i hj hi h (e2.trans e1.symm)
theorem Wo.gone {F : Hp} {ρ : List Addr} {m : Store} {H : Hp} {i : Nat} {a : Addr} {u : HO} (o : Wo K tb F ρ m H) (ha : ρ[i]? = some a) (hF : F a = none) (hu : H a = some u) : Wo K tb (upd F a u) ρ (m.set i .gone) H ∧ Ext F ρ (upd F a u) ρ := by
  have le : Le F (upd F a u) := fun b x e => by rw [upd_ne (ne_of_none e hF)]; exact e
  refine ⟨⟨fun b x e => ?_, by rw [List.length_set]; exact o.len, o.nd, fun j b xs h1 h2 => ?_, fun j b xs h1 h2 => ?_, o.has⟩, le, List.prefix_refl _⟩
  · by_cases h : b = a
    · subst h; rw [upd_same] at e; cases e; exact hu
    · rw [upd_ne h] at e; exact o.sub b x e
  · by_cases h : i = j
    · subst h
      by_cases hl : i < m.length
      · rw [List.getElem?_set_self hl] at h2; cases h2
      · rw [List.getElem?_eq_none (by simpa using hl)] at h2; cases h2
    · rw [List.getElem?_set_ne h] at h2
      obtain ⟨q1, vs, q2, q3⟩ := o.lst j b xs h1 h2
      exact ⟨by rw [upd_ne (get_nodup o.nd h1 ha (Ne.symm h))]; exact q1, vs, q2, q3.mono le⟩
  · by_cases h : i = j
    · subst h
      by_cases hl : i < m.length
      · rw [List.getElem?_set_self hl] at h2; cases h2
      · rw [List.getElem?_eq_none (by simpa using hl)] at h2; cases h2
    · rw [List.getElem?_set_ne h] at h2
      obtain ⟨q1, vs, q2, q3⟩ := o.dic j b xs h1 h2
      exact ⟨by rw [upd_ne (get_nodup o.nd h1 ha (Ne.symm h))]; exact q1, vs, q2, q3.mono le⟩
theorem frz_ok {F : Hp} {ρ : List Addr} {m m' : Store} {H : Hp} {x : Sv} {v : V} {d : Dv} (o : Wo K tb F ρ m H) (r : RepS K tb F ρ x v) (e : frz m x = some (d, m')) : ∃ F', Ext F ρ F' ρ ∧ Wo K tb F' ρ m' H ∧ Rep K tb F' d v := by
  cases r with
  | d r =>
    simp only [frz, Option.some.injEq, Prod.mk.injEq] at e
    obtain ⟨rfl, rfl⟩ := e
    exact ⟨F, .refl _ _, o, r⟩
  | @o i a r =>
    unfold frz at e
    dsimp only at e
    split at e
    · rename_i xs hx
      simp only [Option.some.injEq, Prod.mk.injEq] at e
      obtain ⟨rfl, rfl⟩ := e
      obtain ⟨q1, vs, q2, q3⟩ := o.lst i a xs r hx
      obtain ⟨o', ex⟩ := o.gone r q1 q2
      exact ⟨_, ex, o', .lst upd_same (q3.mono ex.le)⟩
    · rename_i xs hx
      simp only [Option.some.injEq, Prod.mk.injEq] at e
      obtain ⟨rfl, rfl⟩ := e
      obtain ⟨q1, vs, q2, q3⟩ := o.dic i a xs r hx
      obtain ⟨o', ex⟩ := o.gone r q1 q2
      exact ⟨_, ex, o', .dic upd_same (q3.mono ex.le)⟩
    · cases e
def frzL (m : Store) : List Sv → Option (List Dv × Store)
  | [] => some ([], m)
  | x :: xs => match frz m x with
    | some (d, m1) => (match frzL m1 xs with | some (ds, m2) => some (d :: ds, m2) | none => none)
    | none => none
theorem frzL_ok : ∀ {xs : List Sv} {F : Hp} {ρ : List Addr} {m m' : Store} {H : Hp} {vs : List V} {ds : List Dv}, Wo K tb F ρ m H → RepSL K tb F ρ xs vs → frzL m xs = some (ds, m') → ∃ F', Ext F ρ F' ρ ∧ Wo K tb F' ρ m' H ∧ RepL K tb F' ds vs
  | [], F, ρ, m, m', H, vs, ds, o, r, e => by
    cases r
    simp only [frzL, Option.some.injEq, Prod.mk.injEq] at e
    obtain ⟨rfl, rfl⟩ := e
    exact ⟨F, .refl _ _, o, .nil⟩
  | x :: xs, F, ρ, m, m', H, vs, ds, o, r, e => by
    cases r with
    | cons r rs =>
      unfold frzL at e
      split at e
      · rename_i d m1 h1
        split at e
        · rename_i ds' m2 h2
          simp only [Option.some.injEq, Prod.mk.injEq] at e
          obtain ⟨rfl, rfl⟩ := e
          obtain ⟨F1, e1, o1, r1⟩ := frz_ok o r h1
          obtain ⟨F2, e2, o2, r2⟩ := frzL_ok o1 (rs.mono e1) h2
          exact ⟨F2, e1.trans e2, o2, .cons (r1.mono e2.le) r2⟩
        · cases e
      · cases e
theorem RepSL.length' {F : Hp} {ρ : List Addr} {d : List Sv} {v : List V} (h : RepSL K tb F ρ d v) : v.length = d.length := h.length.symm
theorem frzL_len : ∀ {xs : List Sv} {m m' : Store} {ds : List Dv}, frzL m xs = some (ds, m') → ds.length = xs.length
  | [], m, m', ds, e => by
    simp only [frzL, Option.some.injEq, Prod.mk.injEq] at e
    obtain ⟨rfl, _⟩ := e
    rfl
  | x :: xs, m, m', ds, e => by
    unfold frzL at e
    split at e
    · split at e
      · rename_i h2
        simp only [Option.some.injEq, Prod.mk.injEq] at e
        obtain ⟨rfl, _⟩ := e
        simp [frzL_len h2]
      · cases e
    · cases e
def fits (n : Nat) : Bool := decide (n ≤ 16777216)
theorem fits_ok {n : Nat} (h : fits n = true) : n ≤ sizeLine := by
  rw [sizeLine_eq]; exact of_decide_eq_true h
def sTup (f : SemL) : Sem1 := fun en m => (f en m).bind fun xs m1 => match frzL m1 xs with
  | some (ds, m2) => if fits ds.length then .ok (.d (.tup ds)) m2 else .no
  | none => .no
theorem re_tup {x1} (h : RA X tb W es fl) : RE X tb W (.Tuple es x1 pos) (sTup fl) := by
  refine PE.weak (pe_tup h) fun σ H Q q => ?_
  obtain ⟨F, ρ, en, m, he, ho, q⟩ := tE_iff.mp q
  refine tEL_bind he ho q fun xs m1 F1 ρ1 H1 vs e1 he1 ho1 r1 q1 => ?_
  split at q1
  · rename_i ds m2 hd
    split at q1
    · rename_i hz
      obtain ⟨F2, e2, o2, r2⟩ := frzL_ok ho1 r1 hd
      refine ⟨by rw [← r2.length]; exact fits_ok hz, fun p hp => ?_⟩
      obtain ⟨o3, e3⟩ := o2.alloc hp (.tup vs)
      exact q1 _ ρ1 _ _ (e2.trans e3) o3 (.d (.tup (.inl (.inl upd_same)) (r2.mono e3.le)))
    · exact q1.elim
  · exact q1.elim

/-! ### fresh lists: from the list itself to data, or to a thing of the store -/
abbrev SemF := En → Store → Rs (List Dv)
def PostF (K : PySem.W.Frag) (tb : Tb) (W : WX) (F : Hp) (ρ : List Addr) (σ : L2.St) (Q : VK) : Rs (List Dv) → Prop
  | .ok xs m' => ∀ F' ρ' H' p vs, Ext F ρ F' ρ' → Wo K tb F' ρ' m' H' → H' p = none → RepL K tb F' xs vs → Q (.ref p) (upd H' p (.lst vs))
  | .ex x m' => ∀ F' ρ' H' c d, Ext F ρ F' ρ' → Wo K tb F' ρ' m' H' → XRep K tb F' x c d → W c d σ H'
  | .no => False
def tF (K : PySem.W.Frag) (tb : Tb) (W : WX) (f : SemF) : TE := fun σ H Q => ∃ F ρ en m, EnvOk K tb F ρ en σ ∧ Wo K tb F ρ m H ∧ PostF K tb W F ρ σ Q (f en m)
abbrev RF (X : Cx) (tb : Tb) (W : WX) (e : Expr) (f : SemF) : Prop := PE X e (tF X.K tb W f)
theorem PostF.ext {F F' : Hp} {ρ ρ' : List Addr} {σ : L2.St} {R : VK} (ex : Ext F ρ F' ρ') {r : Rs (List Dv)} (h : PostF K tb W F ρ σ R r) : PostF K tb W F' ρ' σ R r := by
  cases r with
  | ok y m2 => exact fun F2 ρ2 H2 p v2 x2 => h F2 ρ2 H2 p v2 (ex.trans x2)
  | ex y m2 => exact fun F2 ρ2 H2 c d x2 => h F2 ρ2 H2 c d (ex.trans x2)
  | no => exact h
def sF (f : SemF) : Sem1 := fun en m => (f en m).bind fun xs m1 => .ok (.d (.lst xs)) m1
theorem re_f {f : SemF} (h : RF X tb W e f) : RE X tb W e (sF f) := by
  refine PE.weak h fun σ H Q q => ?_
  obtain ⟨F, ρ, en, m, he, ho, q⟩ := tE_iff.mp q
  refine ⟨F, ρ, en, m, he, ho, ?_⟩
  unfold sF at q
  cases ee : f en m with
  | ok xs m1 =>
    rw [ee] at q
    intro F' ρ' H' p vs ex o hp r
    obtain ⟨o3, e3⟩ := o.alloc hp (.lst vs)
    exact q _ ρ' _ _ (ex.trans e3) o3 (.d (.lst upd_same (r.mono e3.le)))
  | ex x m1 => rw [ee] at q; exact q
  | no => rw [ee] at q; exact q
theorem tEL_bindF {f : SemL} {g : List Sv → Store → Rs (List Dv)} {F : Hp} {ρ : List Addr} {en : En} {m : Store} {σ : L2.St} {H : Hp} {Q : List V → Hp → Prop} {R : VK} (he : EnvOk K tb F ρ en σ) (ho : Wo K tb F ρ m H) (h : PostF K tb W F ρ σ R ((f en m).bind g))
    (k : ∀ x m' F' ρ' H' v, Ext F ρ F' ρ' → EnvOk K tb F' ρ' en σ → Wo K tb F' ρ' m' H' → RepSL K tb F' ρ' x v → PostF K tb W F' ρ' σ R (g x m') → Q v H') : tEL K tb W f σ H Q := by
  refine tEL_iff.mpr ⟨F, ρ, en, m, he, ho, ?_⟩
  cases e : f en m with
  | ok x m' =>
    rw [e] at h
    exact fun F' ρ' H' v ex o r => k x m' F' ρ' H' v ex (he.mono ex) o r (PostF.ext ex h)
  | ex x m' => rw [e] at h; exact h
  | no => rw [e] at h; exact h
theorem tE_bindF {f : Sem1} {g : Sv → Store → Rs (List Dv)} {F : Hp} {ρ : List Addr} {en : En} {m : Store} {σ : L2.St} {H : Hp} {Q R : VK} (he : EnvOk K tb F ρ en σ) (ho : Wo K tb F ρ m H) (h : PostF K tb W F ρ σ R ((f en m).bind g))
    (k : ∀ x m' F' ρ' H' v, Ext F ρ F' ρ' → EnvOk K tb F' ρ' en σ → Wo K tb F' ρ' m' H' → RepS K tb F' ρ' x v → PostF K tb W F' ρ' σ R (g x m') → Q v H') : tE K tb W f σ H Q := by
  refine tE_iff.mpr ⟨F, ρ, en, m, he, ho, ?_⟩
  cases e : f en m with
  | ok x m' =>
    rw [e] at h
    exact fun F' ρ' H' v ex o r => k x m' F' ρ' H' v ex (he.mono ex) o r (PostF.ext ex h)
  | ex x m' => rw [e] at h; exact h
  | no => rw [e] at h; exact h
def fLst (f : SemL) : SemF := fun en m => (f en m).bind fun xs m1 => match frzL m1 xs with
  | some (ds, m2) => if fits ds.length then .ok ds m2 else .no
  | none => .no
theorem rf_lst (h : RA X tb W es fl) : RF X tb W (.List es pos) (fLst fl) := by
  refine PE.weak (pe_lst h) fun σ H Q q => ?_
  obtain ⟨F, ρ, en, m, he, ho, q⟩ := q
  refine tEL_bindF he ho q fun xs m1 F1 ρ1 H1 vs e1 he1 ho1 r1 q1 => ?_
  split at q1
  · rename_i ds m2 hd
    split at q1
    · rename_i hz
      obtain ⟨F2, e2, o2, r2⟩ := frzL_ok ho1 r1 hd
      exact ⟨by rw [← r2.length]; exact fits_ok hz, fun p hp => q1 F2 ρ1 H1 p vs e2 o2 hp r2⟩
    · exact q1.elim
  · exact q1.elim
/-- two values make a fresh list -/
def fBin (op : Dv → Dv → Option (List Dv)) (fa fb : Sem1) : SemF := fun en m => (fa en m).bind fun x m1 => (fb en m1).bind fun y m2 => match rv m2 x, rv m2 y with
  | some a, some b => (match op a b with | some d => .ok d m2 | none => .no)
  | _, _ => .no
def OpF (X : Cx) (tb : Tb) (r : R2) (op : Dv → Dv → Option (List Dv)) : Prop :=
  ∀ F ρ m H x y v u ds (Q : VK), Wo X.K tb F ρ m H → Top X.K tb F H x v → Top X.K tb F H y u → op x y = some ds →
    (∀ p vs, H p = none → RepL X.K tb F ds vs → Q (.ref p) (upd H p (.lst vs))) → r v u H Q
theorem fBin_run {r : R2} {op : Dv → Dv → Option (List Dv)} (c : OpF X tb r op) {σ : L2.St} {H : Hp} {Q : VK} (h : tF X.K tb W (fBin op fa fb) σ H Q) : tOp r (tE X.K tb W fa) (tE X.K tb W fb) σ H Q := by
  obtain ⟨F, ρ, en, m, he, ho, q⟩ := h
  refine tE_bindF he ho q fun x m1 F1 ρ1 H1 v e1 he1 ho1 r1 q1 => ?_
  refine tE_bindF he1 ho1 q1 fun y m2 F2 ρ2 H2 u e2 he2 ho2 r2 q2 => ?_
  split at q2
  · rename_i a b ha hb
    split at q2
    · rename_i d hd
      exact c F2 ρ2 m2 H2 a b v u d Q ho2 (rv_top ho2 (r1.mono e2) ha) (rv_top ho2 r2 hb) hd fun p vs hp rr => q2 F2 ρ2 H2 p vs (.refl _ _) ho2 hp rr
    · exact q2.elim
  · exact q2.elim
def oCatL : Dv → Dv → Option (List Dv)
  | .lst xs, .lst ys => if fits (xs.length + ys.length) then some (xs ++ ys) else none
  | _, _ => none
theorem opF_cat : OpF X tb rCat oCatL := by
  intro F ρ m H x y v u ds Q o tx ty e k
  cases x <;> cases y <;> simp only [oCatL, Option.ite_none_right_eq_some, Option.some.injEq, reduceCtorEq] at e
  obtain ⟨e1, rfl⟩ := e
  obtain ⟨l, vs, rfl, h1, r1⟩ := tx.plain o.sub
  obtain ⟨l', ws, rfl, h2, r2⟩ := ty.plain o.sub
  exact ⟨l, l', vs, ws, rfl, rfl, h1, h2, by rw [← r1.length, ← r2.length]; exact fits_ok e1, fun p hp => k p _ hp (r1.append r2)⟩
theorem rf_cat (ha : RE X tb W a fa) (hb : RE X tb W b fb) : RF X tb W (.BinOp a .Add b pos) (fBin oCatL fa fb) := PE.weak (pe_op op_cat ha hb) fun σ H Q q => fBin_run opF_cat q
def oRepL : Dv → Dv → Option (List Dv)
  | .lst xs, .int k => if decide (-1000 ≤ k) && decide (k ≤ 1000) && decide (xs.length ≤ 1000) then some (List.replicate k.toNat xs).flatten else none
  | _, _ => none
theorem RepL.rep {F : Hp} {xs : List Dv} {vs : List V} (h : RepL K tb F xs vs) : ∀ k : Nat, RepL K tb F (List.replicate k xs).flatten (List.replicate k vs).flatten
  | 0 => .nil
  | k + 1 => by
    rw [List.replicate_succ, List.replicate_succ, List.flatten_cons, List.flatten_cons]
    exact h.append (RepL.rep h k)
theorem opF_rep : OpF X tb rRep oRepL := by
  intro F ρ m H x y v u ds Q o tx ty e k
  cases x <;> cases y <;> simp only [oRepL, Option.ite_none_right_eq_some, Option.some.injEq, reduceCtorEq, Bool.and_eq_true, decide_eq_true_eq] at e
  obtain ⟨⟨⟨e1, e2⟩, e3⟩, rfl⟩ := e
  obtain ⟨l, vs, rfl, h1, r1⟩ := tx.plain o.sub
  refine ⟨l, _, vs, rfl, ty.int, h1, by omega, by omega, ?_, fun p hp => k p _ hp (r1.rep _)⟩
  rw [← r1.length]
  have h5 : ∀ k : Int, k ≤ 1000 → k.toNat ≤ 1000 := fun k h => by omega
  exact Nat.le_trans (Nat.mul_le_mul e3 (h5 _ e2)) (by rw [sizeLine_eq]; decide)
theorem rf_rep (ha : RE X tb W a fa) (hb : RE X tb W b fb) : RF X tb W (.BinOp a .Mult b pos) (fBin oRepL fa fb) := PE.weak (pe_op op_rep ha hb) fun σ H Q q => fBin_run opF_rep q

/-! ### tuples added up -/
def oCatT : Dv → Dv → Option Dv
  | .tup xs, .tup ys => if fits (xs.length + ys.length) then some (.tup (xs ++ ys)) else none
  | _, _ => none
theorem nil_of {F : Hp} {xs : List Dv} (r : RepL K tb F xs []) : xs = [] := by cases r; rfl
theorem opC_catT : OpC X tb (rCatA X.K) oCatT := by
  intro F ρ m H x y v u d Q o tx ty e k
  cases x <;> cases y <;> simp only [oCatT, Option.ite_none_right_eq_some, Option.some.injEq, reduceCtorEq] at e
  obtain ⟨e1, rfl⟩ := e
  cases tx with
  | of tx =>
  cases ty with
  | of ty =>
  cases tx with
  | @tup l xs vs h1 r1 =>
  cases ty with
  | @tup l' ys ws h2 r2 =>
  refine ⟨l, l', vs, ws, rfl, rfl, o.sub.sqt h1, o.sub.sqt h2, by rw [← r1.length, ← r2.length]; exact fits_ok e1, fun z => ?_, fun _ z => ?_, fun _ _ p hp => ?_⟩
  · subst z
    have := nil_of r1
    subst this
    exact k F H _ (.refl _ _) o (.tup h2 r2)
  · subst z
    have := nil_of r2
    subst this
    rw [List.append_nil] at k
    exact k F H _ (.refl _ _) o (.tup h1 r1)
  · obtain ⟨o3, e3⟩ := o.alloc hp (.tup (vs ++ ws))
    exact k _ _ _ e3 o3 (.tup (.inl (.inl upd_same)) ((r1.append r2).mono e3.le))
theorem re_catT (ha : RE X tb W a fa) (hb : RE X tb W b fb) : RE X tb W (.BinOp a .Add b pos) (sBin oCatT fa fb) := re_bin op_catA opC_catT ha hb

/-! ### xs[i] -/
def oIx : Dv → Dv → Option Dv
  | .lst xs, .int i => atI xs i
  | .tup xs, .int i => atI xs i
  | _, _ => none
theorem atI_rep {F : Hp} {xs : List Dv} {vs : List V} {i : Int} {d : Dv} (r : RepL K tb F xs vs) (e : atI xs i = some d) : ∃ v, atI vs i = some v ∧ Rep K tb F d v := by
  unfold atI at e ⊢
  rw [← r.length]
  cases h : ixN xs.length i with
  | none => rw [h] at e; cases e
  | some j =>
    rw [h] at e
    exact r.get e
def rIxLT (K : PySem.W.Frag) : R2 := fun x y H Q => rIxL K x y H Q ∨ rIxT K x y H Q
theorem ix_lt : IxR X (rIxLT X.K) := ix_list.or ix_tup
theorem opC_ix : OpC X tb (rIxLT X.K) oIx := by
  intro F ρ m H x y v u d Q o tx ty e k
  cases x <;> cases y <;> simp only [oIx, reduceCtorEq] at e
  · obtain ⟨l, vs, rfl, h1, r1⟩ := tx.sqt o.sub
    obtain ⟨w, hw, rr⟩ := atI_rep r1 e
    exact .inr ⟨l, vs, _, w, rfl, ty.int, h1, hw, k F H w (.refl _ _) o rr⟩
  · obtain ⟨l, vs, rfl, h1, r1⟩ := tx.sql o.sub
    obtain ⟨w, hw, rr⟩ := atI_rep r1 e
    exact .inl ⟨l, vs, _, w, rfl, ty.int, h1, hw, k F H w (.refl _ _) o rr⟩
theorem re_at (ha : RE X tb W a fa) (hb : RE X tb W b fb) (hs : PlainIx b := by exact fun _ _ => rfl) : RE X tb W (.Subscript a b pos) (sBin oIx fa fb) := re_ix ix_lt opC_ix ha hb hs

/-! ### xs[i:j] -/
abbrev SemO := En → Store → Rs (Option Int)
def oNo : SemO := fun _ m => .ok none m
def oYes (f : Sem1) : SemO := fun en m => (f en m).bind fun x m1 => match rv m1 x with
  | some (.int i) => .ok (some i) m1
  | _ => .no
def PostO (K : PySem.W.Frag) (tb : Tb) (W : WX) (F : Hp) (ρ : List Addr) (σ : L2.St) (Q : Option Int → Hp → Prop) : Rs (Option Int) → Prop
  | .ok x m' => ∀ F' ρ' H', Ext F ρ F' ρ' → Wo K tb F' ρ' m' H' → Q x H'
  | .ex x m' => ∀ F' ρ' H' c d, Ext F ρ F' ρ' → Wo K tb F' ρ' m' H' → XRep K tb F' x c d → W c d σ H'
  | .no => False
def tO (K : PySem.W.Frag) (tb : Tb) (W : WX) (f : SemO) : TO := fun σ H Q => ∃ F ρ en m, EnvOk K tb F ρ en σ ∧ Wo K tb F ρ m H ∧ PostO K tb W F ρ σ Q (f en m)
theorem PO.weak {e : Option Expr} {t t' : TO} (h : PO X e t) (w : ∀ σ H Q, t' σ H Q → t σ H Q) : PO X e t' := ⟨fun pins s σ H Q I q => h.run pins s σ H Q I (w _ _ _ q)⟩
abbrev RO (X : Cx) (tb : Tb) (W : WX) (e : Option Expr) (f : SemO) : Prop := PO X e (tO X.K tb W f)
theorem ro_no : RO X tb W none oNo := by
  refine PO.weak po_none fun σ H Q q => ?_
  obtain ⟨F, ρ, en, m, he, ho, q⟩ := q
  exact q F ρ H (.refl _ _) ho
theorem ro_yes (h : RE X tb W e fa) : RO X tb W (some e) (oYes fa) := by
  refine PO.weak (po_some h) fun σ H Q q => ?_
  obtain ⟨F, ρ, en, m, he, ho, q⟩ := q
  refine tE_iff.mpr ⟨F, ρ, en, m, he, ho, ?_⟩
  unfold oYes at q
  cases ee : fa en m with
  | ok x m1 =>
    rw [ee] at q
    intro F' ρ' H' v ex o r
    rw [Rs.bind_ok] at q
    split at q
    · rename_i i hi
      exact ⟨i, (rv_top o r hi).int, q F' ρ' H' ex o⟩
    · exact q.elim
  | ex x m1 => rw [ee] at q; exact q
  | no => rw [ee] at q; exact q
def cutD {α : Type} (xs : List α) (lo hi : Option Int) : List α := (xs.drop (HT.sIx xs.length 0 lo)).take (HT.sIx xs.length xs.length hi - HT.sIx xs.length 0 lo)
theorem RepL.cut {F : Hp} {xs : List Dv} {vs : List V} (r : RepL K tb F xs vs) (lo hi : Option Int) : RepL K tb F (cutD xs lo hi) (cutV vs lo hi) := by
  unfold cutD cutV
  rw [← r.length]
  exact (r.drop _).take _
/-- slices of tuples -/
def sSlT (f : Sem1) (l h : SemO) : Sem1 := fun en m => (f en m).bind fun x m1 => (l en m1).bind fun i m2 => (h en m2).bind fun j m3 => match rv m3 x with
  | some (.tup xs) => .ok (.d (.tup (cutD xs i j))) m3
  | _ => .no
/-- slices of lists (the script too) -/
def fSlL (f : Sem1) (l h : SemO) : SemF := fun en m => (f en m).bind fun x m1 => (l en m1).bind fun i m2 => (h en m2).bind fun j m3 => match rv m3 x with
  | some (.lst xs) => .ok (cutD xs i j) m3
  | some (.scr ns) => .ok (cutD (ns.map Dv.int) i j) m3
  | _ => .no
theorem tO_bind {f : SemO} {g : Option Int → Store → Rs Sv} {F : Hp} {ρ : List Addr} {en : En} {m : Store} {σ : L2.St} {H : Hp} {Q : Option Int → Hp → Prop} {R : VK} (he : EnvOk K tb F ρ en σ) (ho : Wo K tb F ρ m H) (h : PostE K tb W F ρ σ R ((f en m).bind g))
    (k : ∀ x m' F' ρ' H', Ext F ρ F' ρ' → EnvOk K tb F' ρ' en σ → Wo K tb F' ρ' m' H' → PostE K tb W F' ρ' σ R (g x m') → Q x H') : tO K tb W f σ H Q := by
  refine ⟨F, ρ, en, m, he, ho, ?_⟩
  cases e : f en m with
  | ok x m' =>
    rw [e] at h
    exact fun F' ρ' H' ex o => k x m' F' ρ' H' ex (he.mono ex) o (PostE.ext ex h)
  | ex x m' => rw [e] at h; exact h
  | no => rw [e] at h; exact h
theorem tO_bindF {f : SemO} {g : Option Int → Store → Rs (List Dv)} {F : Hp} {ρ : List Addr} {en : En} {m : Store} {σ : L2.St} {H : Hp} {Q : Option Int → Hp → Prop} {R : VK} (he : EnvOk K tb F ρ en σ) (ho : Wo K tb F ρ m H) (h : PostF K tb W F ρ σ R ((f en m).bind g))
    (k : ∀ x m' F' ρ' H', Ext F ρ F' ρ' → EnvOk K tb F' ρ' en σ → Wo K tb F' ρ' m' H' → PostF K tb W F' ρ' σ R (g x m') → Q x H') : tO K tb W f σ H Q := by
  refine ⟨F, ρ, en, m, he, ho, ?_⟩
  cases e : f en m with
  | ok x m' =>
    rw [e] at h
    exact fun F' ρ' H' ex o => k x m' F' ρ' H' ex (he.mono ex) o (PostF.ext ex h)
  | ex x m' => rw [e] at h; exact h
  | no => rw [e] at h; exact h
variable {lo hi : Option Expr} {ol oh : SemO} {p2 : Pos}
theorem re_slT (h : RE X tb W e fa) (hl : RO X tb W lo ol) (hh : RO X tb W hi oh) : RE X tb W (.Subscript e (.Slice lo hi none p2) pos) (sSlT fa ol oh) := by
  refine PE.weak (pe_slice sl_tupA h hl hh) fun σ H Q q => ?_
  obtain ⟨F, ρ, en, m, he, ho, q⟩ := tE_iff.mp q
  refine tE_bind he ho q fun x m1 F1 ρ1 H1 v e1 he1 ho1 r1 q1 => ?_
  refine tO_bind he1 ho1 q1 fun i m2 F2 ρ2 H2 e2 he2 ho2 q2 => ?_
  refine tO_bind he2 ho2 q2 fun j m3 F3 ρ3 H3 e3 he3 ho3 q3 => ?_
  split at q3
  · rename_i xs hx
    have tx := rv_top ho3 (r1.mono (e2.trans e3)) hx
    cases tx with
    | of tx =>
    cases tx with
    | @tup l xs vs h1 rl =>
    refine ⟨l, vs, rfl, ho3.sub.sqt h1, fun z => ?_, fun _ p hp => ?_⟩
    · have ew : cutD xs i j = xs := by
        unfold cutD
        rw [rl.length, z.1, z.2, List.drop_zero, Nat.sub_zero, ← rl.length, List.take_length]
      rw [ew] at q3
      exact q3 F3 ρ3 H3 _ (.refl _ _) ho3 (.d (.tup h1 rl))
    · obtain ⟨o4, e4⟩ := ho3.alloc hp (.tup (cutV vs i j))
      exact q3 _ ρ3 _ _ e4 o4 (.d (.tup (.inl (.inl upd_same)) ((rl.cut i j).mono e4.le)))
  · exact q3.elim
theorem RepL.ints {F : Hp} : ∀ ns : List Int, RepL K tb F (ns.map Dv.int) (ns.map V.int)
  | [] => .nil
  | n :: ns => .cons (.int n) (RepL.ints ns)
theorem rf_slL (h : RE X tb W e fa) (hl : RO X tb W lo ol) (hh : RO X tb W hi oh) : RF X tb W (.Subscript e (.Slice lo hi none p2) pos) (fSlL fa ol oh) := by
  refine PE.weak (pe_slice sl_list h hl hh) fun σ H Q q => ?_
  obtain ⟨F, ρ, en, m, he, ho, q⟩ := q
  refine tE_bindF he ho q fun x m1 F1 ρ1 H1 v e1 he1 ho1 r1 q1 => ?_
  refine tO_bindF he1 ho1 q1 fun i m2 F2 ρ2 H2 e2 he2 ho2 q2 => ?_
  refine tO_bindF he2 ho2 q2 fun j m3 F3 ρ3 H3 e3 he3 ho3 q3 => ?_
  split at q3
  · rename_i xs hx
    obtain ⟨l, vs, rfl, h1, rr⟩ := (rv_top ho3 (r1.mono (e2.trans e3)) hx).sql ho3.sub
    exact ⟨l, vs, rfl, h1, fun p hp => q3 F3 ρ3 H3 p _ (.refl _ _) ho3 hp (rr.cut i j)⟩
  · rename_i ns hx
    have tx := rv_top ho3 (r1.mono (e2.trans e3)) hx
    cases tx with
    | of tx =>
    cases tx with
    | @scr l _ h1 =>
    exact ⟨l, _, rfl, ho3.sub.sql h1, fun p hp => q3 F3 ρ3 H3 p _ (.refl _ _) ho3 hp ((RepL.ints ns).cut i j)⟩
  · exact q3.elim
end
end EvL
end

section
set_option Elab.async false
set_option linter.all false
set_option maxRecDepth 100000
set_option maxHeartbeats 2000000
/-! E5: ==, isinstance, built-ins, calls of defs -/
namespace EvL
open PySem PySem.Spec PyProof.Rows L2

/-! ### data as the library reads it -/
mutual
def cv : Dv → PyData
  | .non => .none
  | .bl b => .bool b
  | .int i => .int i
  | .str x => .str x
  | .tup xs => .tuple (cvL xs)
  | .lst xs => .list (cvL xs)
  | .dic _ => .none
  | .fn _ => .none
  | .scr ns => .list (ns.map .int)
def cvL : List Dv → List PyData
  | [] => []
  | x :: xs => cv x :: cvL xs
end
mutual
/-- no dict, no def in it -/
def flat : Dv → Bool
  | .non | .bl _ | .int _ | .str _ | .scr _ => true
  | .tup xs | .lst xs => flatL xs
  | .dic _ | .fn _ => false
def flatL : List Dv → Bool
  | [] => true
  | x :: xs => flat x && flatL xs
end
section
variable {K : PySem.W.Frag} {tb : Tb}
theorem dpAll_ints {H : Hp} : ∀ ns : List Int, DpAll K H (ns.map V.int) (ns.map PyData.int)
  | [] => .nil
  | n :: ns => .cons (.int n) (dpAll_ints ns)
mutual
theorem Rep.dp {F H : Hp} (l : Le F H) : ∀ {d : Dv} {v : V}, Rep K tb F d v → flat d = true → Dp K H v (cv d)
  | _, _, .non, _ => by unfold cv; exact .non
  | _, _, .bl b, _ => by unfold cv; exact .bl b
  | _, _, .int i, _ => by unfold cv; exact .int i
  | _, _, .str x, _ => by unfold cv; exact .str x
  | _, _, .tup h r, e => by unfold cv; unfold flat at e; exact .tup (l.sqt h) (RepL.dp l r e)
  | _, _, .lst h r, e => by unfold cv; unfold flat at e; exact .lst (.inl (.inl (l _ _ h))) (RepL.dp l r e)
  | _, _, .dic h r, e => by unfold flat at e; cases e
  | _, _, .fn n, e => by unfold flat at e; cases e
  | _, _, .scr h, _ => by unfold cv; exact .lst (l.sql h) (dpAll_ints _)
theorem RepL.dp {F H : Hp} (l : Le F H) : ∀ {d : List Dv} {v : List V}, RepL K tb F d v → flatL d = true → DpAll K H v (cvL d)
  | _, _, .nil, _ => by unfold cvL; exact .nil
  | _, _, .cons h r, e => by
    unfold cvL
    unfold flatL at e
    rw [Bool.and_eq_true] at e
    exact .cons (Rep.dp l h e.1) (RepL.dp l r e.2)
end
theorem Top.dp {F H : Hp} (l : Le F H) {d : Dv} {v : V} (t : Top K tb F H d v) (e : flat d = true) : Dp K H v (cv d) := by
  cases t with
  | of r => exact r.dp l e
  | lst h r => unfold cv; unfold flat at e; exact .lst (.inl (.inl h)) (r.dp l e)
  | dic h r => unfold flat at e; cases e
end
def good (d : Dv) : Bool := flat d && SeqAt.shaped (cv d)
def oEq (x y : Dv) : Option Dv := if good x && good y then some (.bl (PyData.eqv (cv x) (cv y))) else none
def oNe (x y : Dv) : Option Dv := if good x && good y then some (.bl (!PyData.eqv (cv x) (cv y))) else none
section
variable {K : PySem.W.Frag} {tb : Tb} {W : WX} {X : Cx} {a b c e : Expr} {es : List Expr} {fa fb fc : Sem1} {fl : SemL} {ga gb : SemB} {pos : Pos} {k : Nat}
theorem opC_eq : OpC X tb (rEqD X.K) oEq := by
  intro F ρ m H x y v u d Q o tx ty e k
  simp only [oEq, good, Option.ite_none_right_eq_some, Option.some.injEq, Bool.and_eq_true] at e
  obtain ⟨⟨⟨e1, e2⟩, e3, e4⟩, rfl⟩ := e
  exact ⟨_, _, tx.dp o.sub e1, ty.dp o.sub e3, e2, e4, k F H _ (.refl _ _) o (.bl _)⟩
theorem opC_ne : OpC X tb (rNeD X.K) oNe := by
  intro F ρ m H x y v u d Q o tx ty e k
  simp only [oNe, good, Option.ite_none_right_eq_some, Option.some.injEq, Bool.and_eq_true] at e
  obtain ⟨⟨⟨e1, e2⟩, e3, e4⟩, rfl⟩ := e
  exact ⟨_, _, tx.dp o.sub e1, ty.dp o.sub e3, e2, e4, k F H _ (.refl _ _) o (.bl _)⟩
theorem oEq_bl : ∀ x y d, oEq x y = some d → ∃ k, d = .bl k := by
  intro x y d h
  simp only [oEq, Option.ite_none_right_eq_some, Option.some.injEq] at h
  exact ⟨_, h.2.symm⟩
theorem oNe_bl : ∀ x y d, oNe x y = some d → ∃ k, d = .bl k := by
  intro x y d h
  simp only [oNe, Option.ite_none_right_eq_some, Option.some.injEq] at h
  exact ⟨_, h.2.symm⟩
theorem re_eq (hr : Room k X.A) (ha : RE X tb W a fa) (hb : RE X tb W b fb) : RE X tb W (.Compare a [.Eq] [b] pos) (sBin oEq fa fb) := re_cmp (op_eqD hr.units) opC_eq ha hb (nomark _)
theorem re_ne (hr : Room k X.A) (ha : RE X tb W a fa) (hb : RE X tb W b fb) : RE X tb W (.Compare a [.NotEq] [b] pos) (sBin oNe fa fb) := re_cmp (op_neD hr.units) opC_ne ha hb (nomark _)
theorem rt_eq (hr : Room k X.A) (ha : RE X tb W a fa) (hb : RE X tb W b fb) : RT X tb W (.Compare a [.Eq] [b] pos) (sT (sBin oEq fa fb)) := rt_cmp (op_eqD hr.units) opC_eq oEq_bl ha hb (nomark _)
theorem rt_ne (hr : Room k X.A) (ha : RE X tb W a fa) (hb : RE X tb W b fb) : RT X tb W (.Compare a [.NotEq] [b] pos) (sT (sBin oNe fa fb)) := rt_cmp (op_neD hr.units) opC_ne oNe_bl ha hb (nomark _)

/-! ### built-in functions of one argument, read -/
def CallC (X : Cx) (tb : Tb) (r : List V → Hp → VK → Prop) (op : Dv → Option Dv) : Prop :=
  ∀ F ρ m H x v d (Q : VK), Wo X.K tb F ρ m H → Top X.K tb F H x v → op x = some d →
    (∀ F' H' z, Ext F ρ F' ρ → Wo X.K tb F' ρ m H' → Rep X.K tb F' d z → Q z H') → r [v] H Q
theorem sUn_run {r : List V → Hp → VK → Prop} {op : Dv → Option Dv} (c : CallC X tb r op) {σ : L2.St} {H : Hp} {Q : VK} (h : tE X.K tb W (sUn op fa) σ H Q) : tCB r (tCons (tE X.K tb W fa) tNil) σ H Q := by
  obtain ⟨F, ρ, en, m, he, ho, q⟩ := tE_iff.mp h
  refine tE_bind he ho q fun x m1 F1 ρ1 H1 v e1 he1 ho1 r1 q1 => ?_
  split at q1
  · rename_i a ha
    split at q1
    · rename_i d hd
      exact c F1 ρ1 m1 H1 a v d Q ho1 (rv_top ho1 r1 ha) hd fun F' H' z ex o' rz => q1 F' ρ1 H' z ex o' (.d rz)
    · exact q1.elim
  · exact q1.elim
variable {x : Str} {p : Pos} {bid T : String}
theorem re_b1 {r : List V → Hp → VK → Prop} {op : Dv → Option Dv} (hc : CallR X (.builtin bid) r) (c : CallC X tb r op) (hg : Gl X x) (hm : X.mg x = none) (hv : bootBuiltins x = some (.builtin bid)) (ha : RE X tb W e fa) (hn : x ≠ "__name__" := by decide) (hdb : (x == ("__debug__" : Str)) = false := by decide)
    (hs : starEach [e] X.env = (false, eval e X.env) :: starEach [] X.env := by rfl) (hpl : (backTo pos (starEach [] X.env)).any (·.1) = false := by rfl) : RE X tb W (.Call (.Name x p) [e] [] pos) (sUn op fa) :=
  PE.weak (pe_callB hc hg hm hv (pa_cons ha pa_nil hs) hn hdb hs hpl) fun σ H Q q => sUn_run c q
theorem re_t1 {r : List V → Hp → VK → Prop} {op : Dv → Option Dv} (hc : CallR X (.type T) r) (c : CallC X tb r op) (hg : Gl X x) (hm : X.mg x = none) (hv : bootBuiltins x = some (.type T)) (ha : RE X tb W e fa) (hn : x ≠ "__name__" := by decide) (hdb : (x == ("__debug__" : Str)) = false := by decide)
    (hs : starEach [e] X.env = (false, eval e X.env) :: starEach [] X.env := by rfl) (hpl : (backTo pos (starEach [] X.env)).any (·.1) = false := by rfl) : RE X tb W (.Call (.Name x p) [e] [] pos) (sUn op fa) :=
  PE.weak (pe_callTy hc hg hm hv (pa_cons ha pa_nil hs) hn hdb hs hpl) fun σ H Q q => sUn_run c q
def oLen : Dv → Option Dv
  | .lst xs => some (.int xs.length)
  | .tup xs => some (.int xs.length)
  | .scr ns => some (.int ns.length)
  | .str z => if z.length ≤ sizeLine then some (.int z.length) else none
  | _ => none
def rLen (K : PySem.W.Frag) : List V → Hp → VK → Prop := fun xs H Q => (∃ p ys, xs = [.ref p] ∧ (SqL K H p ys ∨ SqT K H p ys) ∧ Q (.int ys.length) H) ∨ (∃ z, xs = [.str z] ∧ z.length ≤ sizeLine ∧ Q (.int z.length) H)
theorem call_len2 : CallR X (.builtin "len") (rLen X.K) := call_len_seq.or call_len_str
theorem callC_len : CallC X tb (rLen X.K) oLen := by
  intro F ρ m H x v d Q o tx e k
  cases x <;> simp only [oLen, Option.some.injEq, Option.ite_none_right_eq_some, reduceCtorEq] at e
  · obtain ⟨e1, rfl⟩ := e
    exact .inr ⟨_, by rw [tx.str], e1, k F H _ (.refl _ _) o (.int _)⟩
  · subst e
    obtain ⟨l, vs, rfl, h1, r1⟩ := tx.sqt o.sub
    exact .inl ⟨l, vs, rfl, .inr h1, by rw [← r1.length]; exact k F H _ (.refl _ _) o (.int _)⟩
  · subst e
    obtain ⟨l, vs, rfl, h1, r1⟩ := tx.sql o.sub
    exact .inl ⟨l, vs, rfl, .inl h1, by rw [← r1.length]; exact k F H _ (.refl _ _) o (.int _)⟩
  · subst e
    cases tx with
    | of tx =>
    cases tx with
    | @scr l ns h1 => exact .inl ⟨l, _, rfl, .inl (o.sub.sql h1), by rw [List.length_map]; exact k F H _ (.refl _ _) o (.int _)⟩
def oAbs : Dv → Option Dv
  | .int i => some (.int (if i < 0 then -i else i))
  | _ => none
theorem callC_abs : CallC X tb (fun xs H Q => ∃ i, xs = [.int i] ∧ Q (.int (if i < 0 then -i else i)) H) oAbs := by
  intro F ρ m H x v d Q o tx e k
  cases x <;> simp only [oAbs, Option.some.injEq, reduceCtorEq] at e
  subst e
  exact ⟨_, by rw [tx.int], k F H _ (.refl _ _) o (.int _)⟩
def oInt : Dv → Option Dv
  | .int i => some (.int i)
  | .bl b => some (.int (if b then 1 else 0))
  | _ => none
theorem callC_int : CallC X tb (fun xs H Q => (∃ i, xs = [.int i] ∧ Q (.int i) H) ∨ ∃ k, xs = [.bl k] ∧ Q (.int (if k then 1 else 0)) H) oInt := by
  intro F ρ m H x v d Q o tx e k
  cases x <;> simp only [oInt, Option.some.injEq, reduceCtorEq] at e
  · subst e
    exact .inr ⟨_, by rw [tx.bl], k F H _ (.refl _ _) o (.int _)⟩
  · subst e
    exact .inl ⟨_, by rw [tx.int], k F H _ (.refl _ _) o (.int _)⟩
/-- lists of intsD, of truths -/
def intsD : List Dv → Option (List Int)
  | [] => some []
  | .int i :: xs => (intsD xs).map (i :: ·)
  | _ :: _ => none
def boolsD : List Dv → Option (List Bool)
  | [] => some []
  | .bl i :: xs => (boolsD xs).map (i :: ·)
  | _ :: _ => none
theorem ints_rep {F : Hp} : ∀ {xs : List Dv} {vs : List V} {ns : List Int}, RepL K tb F xs vs → intsD xs = some ns → vs = ns.map V.int
  | [], _, ns, .nil, e => by cases e; rfl
  | x :: xs, _, ns, .cons h r, e => by
    cases x <;> simp only [intsD, Option.map_eq_some_iff, reduceCtorEq] at e
    obtain ⟨l, h1, rfl⟩ := e
    cases h
    rw [ints_rep r h1]
    rfl
theorem bools_rep {F : Hp} : ∀ {xs : List Dv} {vs : List V} {ns : List Bool}, RepL K tb F xs vs → boolsD xs = some ns → vs = ns.map V.bl
  | [], _, ns, .nil, e => by cases e; rfl
  | x :: xs, _, ns, .cons h r, e => by
    cases x <;> simp only [boolsD, Option.map_eq_some_iff, reduceCtorEq] at e
    obtain ⟨l, h1, rfl⟩ := e
    cases h
    rw [bools_rep r h1]
    rfl
def onInts (g : List Int → Option Dv) : Dv → Option Dv
  | .lst xs => (intsD xs).bind g
  | _ => none
def onBools (g : List Bool → Dv) : Dv → Option Dv
  | .lst xs => (boolsD xs).map g
  | _ => none
abbrev oSum := onInts fun ns => some (.int ns.sum)
def maxI : List Int → Option Int
  | [] => none
  | x :: xs => some (xs.foldl max x)
def minI : List Int → Option Int
  | [] => none
  | x :: xs => some (xs.foldl min x)
abbrev oMax := onInts fun ns => (maxI ns).map Dv.int
abbrev oMin := onInts fun ns => (minI ns).map Dv.int
abbrev oAny := onBools fun bs => .bl (bs.any id)
abbrev oAll := onBools fun bs => .bl (bs.all id)
theorem callC_sum : CallC X tb (rSum X.K) oSum := by
  intro F ρ m H x v d Q o tx e k
  cases x <;> simp only [oSum, onInts, Option.bind_eq_some_iff, Option.some.injEq, reduceCtorEq] at e
  obtain ⟨ns, h1, rfl⟩ := e
  obtain ⟨l, vs, rfl, h2, r1⟩ := tx.sql o.sub
  have := ints_rep r1 h1
  subst this
  exact ⟨l, ns, rfl, h2, k F H _ (.refl _ _) o (.int _)⟩
theorem foldl_max_ge : ∀ (xs : List Int) (a : Int), a ≤ xs.foldl max a ∧ (∀ y ∈ xs, y ≤ xs.foldl max a) ∧ (xs.foldl max a = a ∨ xs.foldl max a ∈ xs)
  | [], a => ⟨Int.le_refl _, fun y h => absurd h (by simp), .inl rfl⟩
  | x :: xs, a => by
    obtain ⟨h1, h2, h3⟩ := foldl_max_ge xs (max a x)
    rw [List.foldl_cons]
    refine ⟨by omega, fun y hy => ?_, ?_⟩
    · rcases List.mem_cons.mp hy with rfl | hy
      · omega
      · exact h2 y hy
    · rcases h3 with h3 | h3
      · rw [h3]
        by_cases hx : a ≤ x
        · exact .inr (by rw [Int.max_eq_right hx]; simp)
        · exact .inl (Int.max_eq_left (by omega))
      · exact .inr (by simp [h3])
theorem foldl_min_le : ∀ (xs : List Int) (a : Int), xs.foldl min a ≤ a ∧ (∀ y ∈ xs, xs.foldl min a ≤ y) ∧ (xs.foldl min a = a ∨ xs.foldl min a ∈ xs)
  | [], a => ⟨Int.le_refl _, fun y h => absurd h (by simp), .inl rfl⟩
  | x :: xs, a => by
    obtain ⟨h1, h2, h3⟩ := foldl_min_le xs (min a x)
    rw [List.foldl_cons]
    refine ⟨by omega, fun y hy => ?_, ?_⟩
    · rcases List.mem_cons.mp hy with rfl | hy
      · omega
      · exact h2 y hy
    · rcases h3 with h3 | h3
      · rw [h3]
        by_cases hx : a ≤ x
        · exact .inl (Int.min_eq_left hx)
        · exact .inr (by rw [Int.min_eq_right (by omega)]; simp)
      · exact .inr (by simp [h3])
theorem maxI_ok {ns : List Int} {m : Int} (h : maxI ns = some m) : m ∈ ns ∧ ∀ y ∈ ns, y ≤ m := by
  cases ns with
  | nil => cases h
  | cons x xs =>
    cases h
    obtain ⟨h1, h2, h3⟩ := foldl_max_ge xs x
    refine ⟨?_, fun y hy => ?_⟩
    · rcases h3 with h3 | h3
      · rw [h3]; simp
      · simp [h3]
    · rcases List.mem_cons.mp hy with rfl | hy
      · exact h1
      · exact h2 y hy
theorem minI_ok {ns : List Int} {m : Int} (h : minI ns = some m) : m ∈ ns ∧ ∀ y ∈ ns, m ≤ y := by
  cases ns with
  | nil => cases h
  | cons x xs =>
    cases h
    obtain ⟨h1, h2, h3⟩ := foldl_min_le xs x
    refine ⟨?_, fun y hy => ?_⟩
    · rcases h3 with h3 | h3
      · rw [h3]; simp
      · simp [h3]
    · rcases List.mem_cons.mp hy with rfl | hy
      · exact h1
      · exact h2 y hy
theorem callC_max : CallC X tb (rMax X.K) oMax := by
  intro F ρ m H x v d Q o tx e k
  cases x <;> simp only [oMax, onInts, Option.bind_eq_some_iff, Option.map_eq_some_iff, reduceCtorEq] at e
  obtain ⟨ns, h1, mx, h3, rfl⟩ := e
  obtain ⟨l, vs, rfl, h2, r1⟩ := tx.sql o.sub
  have := ints_rep r1 h1
  subst this
  obtain ⟨a1, a2⟩ := maxI_ok h3
  refine ⟨l, ns, rfl, h2, List.length_pos_of_mem a1, fun m' b1 b2 => ?_⟩
  have : m' = mx := Int.le_antisymm (a2 _ b1) (b2 _ a1)
  subst this
  exact k F H _ (.refl _ _) o (.int _)
theorem callC_min : CallC X tb (rMin X.K) oMin := by
  intro F ρ m H x v d Q o tx e k
  cases x <;> simp only [oMin, onInts, Option.bind_eq_some_iff, Option.map_eq_some_iff, reduceCtorEq] at e
  obtain ⟨ns, h1, mx, h3, rfl⟩ := e
  obtain ⟨l, vs, rfl, h2, r1⟩ := tx.sql o.sub
  have := ints_rep r1 h1
  subst this
  obtain ⟨a1, a2⟩ := minI_ok h3
  refine ⟨l, ns, rfl, h2, List.length_pos_of_mem a1, fun m' b1 b2 => ?_⟩
  have : m' = mx := Int.le_antisymm (b2 _ a1) (a2 _ b1)
  subst this
  exact k F H _ (.refl _ _) o (.int _)
theorem callC_any : CallC X tb (rAny X.K) oAny := by
  intro F ρ m H x v d Q o tx e k
  cases x <;> simp only [oAny, onBools, Option.map_eq_some_iff, reduceCtorEq] at e
  obtain ⟨ns, h1, rfl⟩ := e
  obtain ⟨l, vs, rfl, h2, r1⟩ := tx.sql o.sub
  have := bools_rep r1 h1
  subst this
  exact ⟨l, ns, rfl, h2, k F H _ (.refl _ _) o (.bl _)⟩
theorem callC_all : CallC X tb (rAll X.K) oAll := by
  intro F ρ m H x v d Q o tx e k
  cases x <;> simp only [oAll, onBools, Option.map_eq_some_iff, reduceCtorEq] at e
  obtain ⟨ns, h1, rfl⟩ := e
  obtain ⟨l, vs, rfl, h2, r1⟩ := tx.sql o.sub
  have := bools_rep r1 h1
  subst this
  exact ⟨l, ns, rfl, h2, k F H _ (.refl _ _) o (.bl _)⟩
/-- tuple(xs) -/
def oTuple : Dv → Option Dv
  | .lst xs => some (.tup xs)
  | .tup xs => some (.tup xs)
  | _ => none
theorem callC_tuple : CallC X tb (fun xs H Q => ∃ p ys, xs = [.ref p] ∧ ((SqL X.K H p ys ∧ ∀ l, H l = none → Q (.ref l) (upd H l (.tup ys))) ∨ (SqT X.K H p ys ∧ Q (.ref p) H))) oTuple := by
  intro F ρ m H x v d Q o tx e k
  cases x <;> simp only [oTuple, Option.some.injEq, reduceCtorEq] at e
  · subst e
    cases tx with
    | of tx =>
    cases tx with
    | @tup l xs vs h1 r1 => exact ⟨l, vs, rfl, .inr ⟨o.sub.sqt h1, k F H _ (.refl _ _) o (.tup h1 r1)⟩⟩
  · subst e
    obtain ⟨l, vs, rfl, h2, r1⟩ := tx.sql o.sub
    refine ⟨l, vs, rfl, .inl ⟨h2, fun p hp => ?_⟩⟩
    obtain ⟨o3, e3⟩ := o.alloc hp (.tup vs)
    exact k _ _ _ e3 o3 (.tup (.inl (.inl upd_same)) (r1.mono e3.le))
theorem re_len (hg : Gl X "len") (hm : X.mg "len" = none) (ha : RE X tb W e fa) (hs : starEach [e] X.env = (false, eval e X.env) :: starEach [] X.env := by rfl) (hpl : (backTo pos (starEach [] X.env)).any (·.1) = false := by rfl) : RE X tb W (.Call (.Name "len" p) [e] [] pos) (sUn oLen fa) := re_b1 call_len2 callC_len hg hm PySem.boot_len ha (by decide) (by decide) hs hpl
theorem re_abs (hg : Gl X "abs") (hm : X.mg "abs" = none) (ha : RE X tb W e fa) (hs : starEach [e] X.env = (false, eval e X.env) :: starEach [] X.env := by rfl) (hpl : (backTo pos (starEach [] X.env)).any (·.1) = false := by rfl) : RE X tb W (.Call (.Name "abs" p) [e] [] pos) (sUn oAbs fa) := re_b1 call_abs callC_abs hg hm (by decide +kernel) ha (by decide) (by decide) hs hpl
theorem re_int1 (hg : Gl X "int") (hm : X.mg "int" = none) (ha : RE X tb W e fa) (hs : starEach [e] X.env = (false, eval e X.env) :: starEach [] X.env := by rfl) (hpl : (backTo pos (starEach [] X.env)).any (·.1) = false := by rfl) : RE X tb W (.Call (.Name "int" p) [e] [] pos) (sUn oInt fa) := re_t1 call_int1 callC_int hg hm (by decide +kernel) ha (by decide) (by decide) hs hpl
theorem re_sum (hc : X.calm = true) (hg : Gl X "sum") (hm : X.mg "sum" = none) (ha : RE X tb W e fa) (hs : starEach [e] X.env = (false, eval e X.env) :: starEach [] X.env := by rfl) (hpl : (backTo pos (starEach [] X.env)).any (·.1) = false := by rfl) : RE X tb W (.Call (.Name "sum" p) [e] [] pos) (sUn oSum fa) := re_b1 (cr_sum hc) callC_sum hg hm (by decide +kernel) ha (by decide) (by decide) hs hpl
theorem re_max (hc : X.calm = true) (hg : Gl X "max") (hm : X.mg "max" = none) (ha : RE X tb W e fa) (hs : starEach [e] X.env = (false, eval e X.env) :: starEach [] X.env := by rfl) (hpl : (backTo pos (starEach [] X.env)).any (·.1) = false := by rfl) : RE X tb W (.Call (.Name "max" p) [e] [] pos) (sUn oMax fa) := re_b1 (cr_max hc) callC_max hg hm (by decide +kernel) ha (by decide) (by decide) hs hpl
theorem re_min (hc : X.calm = true) (hg : Gl X "min") (hm : X.mg "min" = none) (ha : RE X tb W e fa) (hs : starEach [e] X.env = (false, eval e X.env) :: starEach [] X.env := by rfl) (hpl : (backTo pos (starEach [] X.env)).any (·.1) = false := by rfl) : RE X tb W (.Call (.Name "min" p) [e] [] pos) (sUn oMin fa) := re_b1 (cr_min hc) callC_min hg hm (by decide +kernel) ha (by decide) (by decide) hs hpl
theorem re_any (hc : X.calm = true) (hg : Gl X "any") (hm : X.mg "any" = none) (ha : RE X tb W e fa) (hs : starEach [e] X.env = (false, eval e X.env) :: starEach [] X.env := by rfl) (hpl : (backTo pos (starEach [] X.env)).any (·.1) = false := by rfl) : RE X tb W (.Call (.Name "any" p) [e] [] pos) (sUn oAny fa) := re_b1 (cr_any hc) callC_any hg hm (by decide +kernel) ha (by decide) (by decide) hs hpl
theorem re_all (hc : X.calm = true) (hg : Gl X "all") (hm : X.mg "all" = none) (ha : RE X tb W e fa) (hs : starEach [e] X.env = (false, eval e X.env) :: starEach [] X.env := by rfl) (hpl : (backTo pos (starEach [] X.env)).any (·.1) = false := by rfl) : RE X tb W (.Call (.Name "all" p) [e] [] pos) (sUn oAll fa) := re_b1 (cr_all hc) callC_all hg hm (by decide +kernel) ha (by decide) (by decide) hs hpl
theorem re_tuple (hg : Gl X "tuple") (hm : X.mg "tuple" = none) (ha : RE X tb W e fa) (hs : starEach [e] X.env = (false, eval e X.env) :: starEach [] X.env := by rfl) (hpl : (backTo pos (starEach [] X.env)).any (·.1) = false := by rfl) : RE X tb W (.Call (.Name "tuple" p) [e] [] pos) (sUn oTuple fa) := re_t1 call_tuple_of callC_tuple hg hm (by decide +kernel) ha (by decide) (by decide) hs hpl
/-- list(xs): fresh -/
def fUn (op : Dv → Option (List Dv)) (fa : Sem1) : SemF := fun en m => (fa en m).bind fun x m1 => match rv m1 x with
  | some a => (match op a with | some d => .ok d m1 | none => .no)
  | none => .no
def oList : Dv → Option (List Dv)
  | .lst xs => some xs
  | .tup xs => some xs
  | .scr ns => some (ns.map .int)
  | _ => none
theorem rf_list (hg : Gl X "list") (hm : X.mg "list" = none) (ha : RE X tb W e fa) (hs : starEach [e] X.env = (false, eval e X.env) :: starEach [] X.env := by rfl) (hpl : (backTo pos (starEach [] X.env)).any (·.1) = false := by rfl) : RF X tb W (.Call (.Name "list" p) [e] [] pos) (fUn oList fa) := by
  refine PE.weak (pe_callTy call_list_of hg hm (by decide +kernel) (pa_cons ha pa_nil hs) (by decide) (by decide) hs hpl) fun σ H Q q => ?_
  obtain ⟨F, ρ, en, m, he, ho, q⟩ := q
  refine tE_bindF he ho q fun x m1 F1 ρ1 H1 v e1 he1 ho1 r1 q1 => ?_
  split at q1
  · rename_i a ha
    have tx := rv_top ho1 r1 ha
    split at q1
    · rename_i d hd
      cases a <;> simp only [oList, Option.some.injEq, reduceCtorEq] at hd
      · subst hd
        obtain ⟨l, vs, rfl, h2, r2⟩ := tx.sqt ho1.sub
        exact ⟨l, vs, rfl, .inr h2, fun p hp => q1 F1 ρ1 H1 p vs (.refl _ _) ho1 hp r2⟩
      · subst hd
        obtain ⟨l, vs, rfl, h2, r2⟩ := tx.sql ho1.sub
        exact ⟨l, vs, rfl, .inl h2, fun p hp => q1 F1 ρ1 H1 p vs (.refl _ _) ho1 hp r2⟩
      · subst hd
        cases tx with
        | of tx =>
        cases tx with
        | @scr l _ h1 => exact ⟨l, _, rfl, .inl (ho1.sub.sql h1), fun p hp => q1 F1 ρ1 H1 p _ (.refl _ _) ho1 hp (RepL.ints _)⟩
    · exact q1.elim
  · exact q1.elim

/-! ### isinstance of a built-in type -/
def tyName : Dv → Option String
  | .non => some "NoneType"
  | .bl _ => some "bool"
  | .int _ => some "int"
  | .str _ => some "str"
  | .tup _ => some "tuple"
  | .lst _ => some "list"
  | .dic _ => some "dict"
  | .scr _ => some "list"
  | .fn _ => none
def isTyN (T n : String) : Bool := n == T || (n == "bool" && T == "int")
def isTy (T : String) (d : Dv) : Bool := match tyName d with
  | some n => isTyN T n
  | none => false
def knownT (T : String) : Bool := T == "int" || T == "bool" || T == "tuple" || T == "list" || T == "str"
theorem kit_all {d : Dv} {n T : String} (h : tyName d = some n) (hT : knownT T = true) : kitB n T = some (isTy T d) := by
  have e : isTy T d = isTyN T n := by unfold isTy; rw [h]
  rw [e]
  simp only [knownT, Bool.or_eq_true, beq_iff_eq] at hT
  have hn : n = "NoneType" ∨ n = "bool" ∨ n = "int" ∨ n = "str" ∨ n = "tuple" ∨ n = "list" ∨ n = "dict" := by
    cases d <;> simp only [tyName, Option.some.injEq, reduceCtorEq] at h <;> subst h <;> simp
  rcases hn with rfl | rfl | rfl | rfl | rfl | rfl | rfl <;> rcases hT with (((rfl | rfl) | rfl) | rfl) | rfl <;> decide +kernel
theorem sql_tyx {H : Hp} {a : Addr} {vs : List V} (h : SqL K H a vs) : TyX K H (.ref a) (.type "list") := by
  rcases h with (h | ⟨o, h⟩) | ⟨o, its, n, h, hc, _⟩
  · exact .base (.lst h)
  · exact .base (.frz h)
  · exact .kList h hc
theorem sqt_tyx {H : Hp} {a : Addr} {vs : List V} (h : SqT K H a vs) : TyX K H (.ref a) (.type "tuple") := by
  rcases h with (h | ⟨o, h⟩) | ⟨o, its, n, h, hc, _⟩
  · exact .base (.tup h)
  · exact .fTuple h
  · exact .kTuple h hc
theorem Top.tyx {F H : Hp} (l : Le F H) {d : Dv} {v : V} {n : String} (t : Top K tb F H d v) (h : tyName d = some n) : TyX K H v (.type n) := by
  cases t with
  | of r =>
    cases r <;> simp only [tyName, Option.some.injEq, reduceCtorEq] at h <;> subst h
    · exact .base .non
    · exact .base (.bl _)
    · exact .base (.int _)
    · exact .base (.str _)
    · rename_i h1 r1; exact sqt_tyx (l.sqt h1)
    · rename_i h1 r1; exact .base (.lst (l _ _ h1))
    · rename_i h1 r1; exact .base (.dK (l _ _ h1))
    · rename_i h1; exact sql_tyx (l.sql h1)
  | lst h1 r => cases h; exact .base (.lst h1)
  | dic h1 r => cases h; exact .base (.dK h1)
def oIs (T : String) (d : Dv) : Option Dv := match tyName d with
  | some _ => some (.bl (isTy T d))
  | none => none
theorem re_isi {nm : Str} {p2 : Pos} (hT : knownT T = true) (hg : Gl X "isinstance") (hm : X.mg "isinstance" = none) (hn : Gl X nm) (hm2 : X.mg nm = none) (hv : bootBuiltins nm = some (.type T)) (ha : RE X tb W e fa)
    (hne : nm ≠ "__name__" := by decide) (hdb : (nm == ("__debug__" : Str)) = false := by decide)
    (hs : starEach [e, .Name nm p2] X.env = (false, eval e X.env) :: starEach [.Name nm p2] X.env := by rfl) (hpl : (backTo pos (starEach [.Name nm p2] X.env)).any (·.1) = false := by rfl) :
    RE X tb W (.Call (.Name "isinstance" p) [e, .Name nm p2] [] pos) (sUn (oIs T) fa) := by
  refine PE.weak (pe_callB call_isi hg hm (by decide +kernel) (pa_cons ha (pa_cons (pe_bltn (v := .ty T) hn hm2 hv rfl hne hdb) pa_nil) hs) (by decide) (by decide) hs hpl) fun σ H Q q => ?_
  obtain ⟨F, ρ, en, m, he, ho, q⟩ := tE_iff.mp q
  refine tE_bind he ho q fun x m1 F1 ρ1 H1 v e1 he1 ho1 r1 q1 => ?_
  split at q1
  · rename_i a ha
    have tx := rv_top ho1 r1 ha
    split at q1
    · rename_i d hd
      unfold oIs at hd
      split at hd
      · rename_i n hn
        cases hd
        exact ⟨v, .ty T, .type n, .type T, _, rfl, .ty T, tx.tyx ho1.sub hn, kit_ty (kit_all hn hT), q1 F1 ρ1 H1 _ (.refl _ _) ho1 (.d (.bl _))⟩
      · cases hd
    · exact q1.elim
  · exact q1.elim

/-! ### calls of defs -/
/-- the def named x, with its promise on data -/
structure Fo (P : Program) (w : World) (K : PySem.W.Frag) (mg : Str → Option Value) (gb : Heap) (tb : Tb) (k : Nat) (x : Str) (ps : List Str) (g : Fs) (f : Addr) (fd : FuncData) : Prop where
  ok : FnG P w K mg gb k f fd ps (spE K tb ps.length g)
  mg : mg x = some (.ref f)
  kp : PySem.W.keepIn K (.ref f) = true
  bd : Binds K fd ps []
def sCall (g : Fs) (fl : SemL) : Sem1 := fun en m => (fl en m).bind fun xs m1 => g xs m1
theorem spE_of {n : Nat} {g : Fs} {F : Hp} {ρ : List Addr} {m : Store} {H : Hp} {σ : L2.St} {xs : List Sv} {vs : List V} {Q : VK} (hn : xs.length = n) (r : RepSL K tb F ρ xs vs) (o : Wo K tb F ρ m H) (q : PostE K tb W F ρ σ Q (g xs m)) : spE K tb n g vs H Q (WE W σ) := by
  refine ⟨by rw [← r.length, hn], F, ρ, xs, m, r, o, ?_⟩
  cases e : g xs m with
  | ok y m' => rw [e] at q; exact q
  | ex y m' => rw [e] at q; exact q
  | no => rw [e] at q; exact q
/-- the function asks for just so many -/
def Ar (n : Nat) (g : Fs) : Prop := ∀ xs m, xs.length ≠ n → g xs m = .no
theorem ar_of {n : Nat} {g : Fs} (h : Ar n g) {xs : List Sv} {m : Store} {F : Hp} {ρ : List Addr} {σ : L2.St} {Q : VK} (q : PostE K tb W F ρ σ Q (g xs m)) : xs.length = n := by
  by_cases e : xs.length = n
  · exact e
  · rw [h xs m e] at q; exact q.elim
theorem re_call {ps : List Str} {g : Fs} {f : Addr} {fd : FuncData} (F : Fo X.prog X.w X.K X.mg X.base tb k x ps g f fd) (hr : Room k X.A) (hgu : X.A.guards = some []) (tk : Takes X W) (ar : Ar ps.length g) (hg : Gl X x) (ha : RA X tb W (e :: es) fl)
    (hdb : (x == ("__debug__" : Str)) = false := by decide) (hs : starEach (e :: es) X.env = (false, eval e X.env) :: starEach es X.env := by rfl) (hpl : (backTo pos (starEach es X.env)).any (·.1) = false := by rfl) :
    RE X tb W (.Call (.Name x p) (e :: es) [] pos) (sCall g fl) := by
  refine PE.weak (pe_callG F.ok hr hgu hg F.mg F.kp F.bd .nil tk ha hdb hs hpl) fun σ H Q q => ?_
  obtain ⟨F', ρ, en, m, he, ho, q⟩ := tE_iff.mp q
  refine tEL_bind he ho q fun xs m1 F1 ρ1 H1 vs e1 he1 ho1 r1 q1 => ?_
  rw [List.append_nil]
  exact spE_of (ar_of ar q1) r1 ho1 q1
/-- keywords in the parameters' order -/
def KwB (K : PySem.W.Frag) (fd : FuncData) (ps : List Str) (n : Nat) (ks : List Str) : Prop := ∀ (s : Shared) (us ws : List Value), K.In s.heap → us.length = n → (us ++ ws).length = ps.length → BindsTo s fd ⟨us, ks.zip ws⟩ (ps.zip (us ++ ws))
theorem runKG {ps ks : List Str} {n : Nat} {f : Addr} {fd : FuncData} {sp : Sp} {pins : List (Addr × Obj)} {σ : L2.St} {H : Hp} {s : Shared} {Q : VK} {us ws : List Value} {vs zs : List V} (F : FnG X.prog X.w X.K X.mg X.base k f fd ps sp) (hr : Room k X.A) (hg : X.A.guards = some []) (hb : KwB X.K fd ps n ks) (hn : us.length = n) (tk : Takes X W)
    (I : Inv X pins σ H s) (r : Vals vs us) (rz : Vals zs ws) (h : sp (vs ++ zs) H Q (WE W σ)) : wpAny (model X.prog X.w) X.A (call (.ref f) us (ks.zip ws)) (EP X pins σ Q) X.xe s := by
  have rr : Vals (vs ++ zs) (us ++ ws) := r.append rz
  have ln : (us ++ ws).length = ps.length := rr.length.symm.trans (F.cnt _ _ _ _ h)
  refine wpAny_call (codeAny_mono (F.go X.A X.stack s H ⟨us, ks.zip ws⟩ (us ++ ws) (vs ++ zs) Q _ hr hg I.env0 (hb s us ws I.kIn hn ln) rr h) fun res s' hq => ?_)
  match res, hq with
  | .error e, hq => exact passAt tk σ pins H s e s' I hq
  | .ok (.ret u), hq => exact I.after hq
  | .ok .next, hq => exact hq.elim
  | .ok .brk, hq => exact hq.elim
  | .ok .cont, hq => exact hq.elim
abbrev RK (X : Cx) (tb : Tb) (W : WX) (kws : List Keyword) (f : SemL) : Prop := PK X kws (tEL X.K tb W f)
variable {kws : List Keyword} {fk : SemL} {nm : Option Str} {kpos : Pos}
theorem PK.weak {e : List Keyword} {t t' : TA} (h : PK X e t) (w : ∀ σ H Q, t' σ H Q → t σ H Q) : PK X e t' := ⟨fun pos pins s σ H Q I q => h.run pos pins s σ H Q I (w _ _ _ q)⟩
theorem rk_nil : RK X tb W [] lNil := by
  refine PK.weak pk_nil fun σ H Q q => ?_
  obtain ⟨F, ρ, en, m, he, ho, q⟩ := tEL_iff.mp q
  exact q F ρ H [] (.refl _ _) ho .nil
theorem rk_cons (ha : RE X tb W e fa) (hr : RK X tb W kws fk) : RK X tb W (⟨nm, e, kpos⟩ :: kws) (lCons fa fk) := by
  refine PK.weak (pk_cons ha hr) fun σ H Q q => ?_
  obtain ⟨F, ρ, en, m, he, ho, q⟩ := tEL_iff.mp q
  refine tE_bindL he ho q fun x m1 F1 ρ1 H1 v e1 he1 ho1 r1 q1 => ?_
  refine tEL_bindL he1 ho1 q1 fun xs m2 F2 ρ2 H2 vs e2 he2 ho2 r2 q2 => ?_
  exact q2 F2 ρ2 H2 (v :: vs) (.refl _ _) ho2 (.cons (r1.mono e2) r2)
/-- all by keywords -/
theorem re_callK0 {ps ks : List Str} {g : Fs} {f : Addr} {fd : FuncData} (F : Fo X.prog X.w X.K X.mg X.base tb k x ps g f fd) (kb : KwB X.K fd ps 0 ks) (hr : Room k X.A) (hgu : X.A.guards = some []) (tk : Takes X W) (ar : Ar ps.length g) (hg : Gl X x) (ha : RK X tb W kws fl)
    (hall : (backToKw pos (keywordEach kws X.env)).all (·.1.isSome) = true := by rfl) (hks : (backToKw pos (keywordEach kws X.env)).filterMap (·.1) = ks := by rfl) (hdb : (x == ("__debug__" : Str)) = false := by decide)
    (hpl : ((backTo pos (starEach [] X.env)).any (·.1) || (backToKw pos (keywordEach kws X.env)).any (·.1.isNone)) = false := by rfl) :
    RE X tb W (.Call (.Name x p) [] kws pos) (sCall g fl) := by
  refine ⟨fun pins s σ H Q I q => wpAny_Call_Name_kw (ld_glob I hg F.mg ?_ hdb)⟩
  obtain ⟨F', ρ, en, m, he, ho, q⟩ := tE_iff.mp q
  refine PySem.W.callWith_KW0 (h₀ := X.base) I.ok.mod.kin F.kp hall (thn (ha.run pos pins s σ H (fun vs H1 => spE X.K tb ps.length g vs H1 Q (WE W σ)) I ?_) fun us s1 hh => ?_) hpl
  · exact tEL_bind he ho q fun xs m1 F1 ρ1 H1 vs e1 he1 ho1 r1 q1 => spE_of (ar_of ar q1) r1 ho1 q1
  · obtain ⟨vs, H1, I1, r1, q1⟩ := hh
    refine ⟨I1.kIn, ?_⟩
    rw [hks]
    exact runKG (us := []) (vs := []) F.ok hr hgu kb rfl tk I1 .nil r1 q1
end
end EvL
end

section
set_option Elab.async false
set_option linter.all false
set_option maxRecDepth 100000
set_option maxHeartbeats 2000000
/-! E6: statements, the end of a def -/
namespace EvL
open PySem PySem.Spec PyProof.Rows L2
section
variable {K : PySem.W.Frag} {tb : Tb} {W : WX} {X : Cx} {a b c e tg : Expr} {es : List Expr} {fa fb fc f : Sem1} {fl : SemL} {ga gb : SemB} {pos pos' : Pos} {k : Nat} {x : Str} {D : Ends}
theorem tSt.ext {F F' : Hp} {ρ ρ' : List Addr} (ex : Ext F ρ F' ρ') {r : Sr} (h : tSt K tb W F ρ D r) : tSt K tb W F' ρ' D r := by
  cases r with
  | nx en m => exact fun F2 ρ2 σ2 H2 x2 => h F2 ρ2 σ2 H2 (ex.trans x2)
  | rt x m => exact fun F2 ρ2 H2 v x2 => h F2 ρ2 H2 v (ex.trans x2)
  | bk en m => exact fun F2 ρ2 σ2 H2 x2 => h F2 ρ2 σ2 H2 (ex.trans x2)
  | ct en m => exact fun F2 ρ2 σ2 H2 x2 => h F2 ρ2 σ2 H2 (ex.trans x2)
  | ex x en m => exact fun F2 ρ2 σ2 H2 c d x2 => h F2 ρ2 σ2 H2 c d (ex.trans x2)
  | no => exact h
/-! ### an expression, then what follows -/
def Rs.st {α : Type} (r : Rs α) (en : En) (f : α → Store → Sr) : Sr := match r with
  | .ok a m => f a m | .ex x m => .ex x en m | .no => .no
@[simp] theorem Rs.st_ok {α : Type} (a : α) (m : Store) (en : En) (f : α → Store → Sr) : (Rs.ok a m).st en f = f a m := rfl
@[simp] theorem Rs.st_ex {α : Type} (x : Ex) (m : Store) (en : En) (f : α → Store → Sr) : (Rs.ex x m : Rs α).st en f = .ex x en m := rfl
@[simp] theorem Rs.st_no {α : Type} (en : En) (f : α → Store → Sr) : (Rs.no : Rs α).st en f = .no := rfl
theorem tE_st {g : Sv → Store → Sr} {F : Hp} {ρ : List Addr} {en : En} {m : Store} {σ : L2.St} {H : Hp} {Q : VK} (he : EnvOk K tb F ρ en σ) (ho : Wo K tb F ρ m H) (h : tSt K tb W F ρ D ((f en m).st en g))
    (k : ∀ x m' F' ρ' H' v, Ext F ρ F' ρ' → EnvOk K tb F' ρ' en σ → Wo K tb F' ρ' m' H' → RepS K tb F' ρ' x v → tSt K tb W F' ρ' D (g x m') → Q v H') : tE K tb W f σ H Q := by
  refine tE_iff.mpr ⟨F, ρ, en, m, he, ho, ?_⟩
  cases e : f en m with
  | ok x m' =>
    rw [e] at h
    exact fun F' ρ' H' v ex o r => k x m' F' ρ' H' v ex (he.mono ex) o r (tSt.ext ex h)
  | ex x m' =>
    rw [e] at h
    exact fun F' ρ' H' c d ex o r => h F' ρ' σ H' c d ex (he.mono ex) o r
  | no => rw [e] at h; exact h
theorem tF_st {ff : SemF} {g : List Dv → Store → Sr} {F : Hp} {ρ : List Addr} {en : En} {m : Store} {σ : L2.St} {H : Hp} {Q : VK} (he : EnvOk K tb F ρ en σ) (ho : Wo K tb F ρ m H) (h : tSt K tb W F ρ D ((ff en m).st en g))
    (k : ∀ x m' F' ρ' H' p vs, Ext F ρ F' ρ' → EnvOk K tb F' ρ' en σ → Wo K tb F' ρ' m' H' → H' p = none → RepL K tb F' x vs → tSt K tb W F' ρ' D (g x m') → Q (.ref p) (upd H' p (.lst vs))) : tF K tb W ff σ H Q := by
  refine ⟨F, ρ, en, m, he, ho, ?_⟩
  cases e : ff en m with
  | ok x m' =>
    rw [e] at h
    exact fun F' ρ' H' p vs ex o hp r => k x m' F' ρ' H' p vs ex (he.mono ex) o hp r (tSt.ext ex h)
  | ex x m' =>
    rw [e] at h
    exact fun F' ρ' H' c d ex o r => h F' ρ' σ H' c d ex (he.mono ex) o r
  | no => rw [e] at h; exact h
theorem tB_st {g : Bool → Store → Sr} {F : Hp} {ρ : List Addr} {en : En} {m : Store} {σ : L2.St} {H : Hp} {Q : Bool → Hp → Prop} (he : EnvOk K tb F ρ en σ) (ho : Wo K tb F ρ m H) (h : tSt K tb W F ρ D ((ga en m).st en g))
    (k : ∀ x m' F' ρ' H', Ext F ρ F' ρ' → EnvOk K tb F' ρ' en σ → Wo K tb F' ρ' m' H' → tSt K tb W F' ρ' D (g x m') → Q x H') : EvL.tB K tb W ga σ H Q := by
  refine ⟨F, ρ, en, m, he, ho, ?_⟩
  cases e : ga en m with
  | ok x m' =>
    rw [e] at h
    exact fun F' ρ' H' ex o => k x m' F' ρ' H' ex (he.mono ex) o (tSt.ext ex h)
  | ex x m' =>
    rw [e] at h
    exact fun F' ρ' H' c d ex o r => h F' ρ' σ H' c d ex (he.mono ex) o r
  | no => rw [e] at h; exact h

/-! ### blocks -/
def gNext : SemS := fun en m => .nx en m
def gSeq (g1 g2 : SemS) : SemS := fun en m => match g1 en m with
  | .nx en' m' => g2 en' m'
  | r => r
theorem rss_nil : RSs X tb W [] gNext := by
  refine PSs.weak pss_nil fun D σ H q => ?_
  obtain ⟨F, ρ, en, m, he, ho, q⟩ := q
  exact q F ρ σ H (.refl _ _) he ho
variable {st : Stmt} {sts : List Stmt} {g1 g2 : SemS}
theorem rss_cons (h1 : RS X tb W st g1) (h2 : RSs X tb W sts g2) : RSs X tb W (st :: sts) (gSeq g1 g2) := by
  refine PSs.weak (pss_cons h1 h2) fun D σ H q => ?_
  obtain ⟨F, ρ, en, m, he, ho, q⟩ := q
  refine ⟨F, ρ, en, m, he, ho, ?_⟩
  unfold gSeq at q
  cases e : g1 en m with
  | nx en' m' =>
    rw [e] at q
    exact fun F' ρ' σ' H' ex he' ho' => ⟨F', ρ', en', m', he', ho', tSt.ext ex q⟩
  | rt x m' => rw [e] at q; exact q
  | bk x m' => rw [e] at q; exact q
  | ct x m' => rw [e] at q; exact q
  | ex x en' m' => rw [e] at q; exact q
  | no => rw [e] at q; exact q
theorem rss_one (h1 : RS X tb W st g1) : RSs X tb W [st] g1 := pss_one h1
def gPass : SemS := fun en m => .nx en m
def gBreak : SemS := fun en m => .bk en m
def gCont : SemS := fun en m => .ct en m
theorem rs_pass : RS X tb W (.Pass pos) gPass := PS.weak ps_pass fun D σ H ⟨F, ρ, en, m, he, ho, q⟩ => q F ρ σ H (.refl _ _) he ho
theorem rs_break : RS X tb W (.Break pos) gBreak := PS.weak ps_break fun D σ H ⟨F, ρ, en, m, he, ho, q⟩ => q F ρ σ H (.refl _ _) he ho
theorem rs_cont : RS X tb W (.Continue pos) gCont := PS.weak ps_continue fun D σ H ⟨F, ρ, en, m, he, ho, q⟩ => q F ρ σ H (.refl _ _) he ho
def gRet (f : Sem1) : SemS := fun en m => (f en m).st en fun x m' => .rt x m'
theorem rs_ret (he : RE X tb W e f) : RS X tb W (.Return (some e) pos) (gRet f) := by
  refine PS.weak (ps_ret he) fun D σ H q => ?_
  obtain ⟨F, ρ, en, m, he, ho, q⟩ := q
  exact tE_st he ho q fun x m' F' ρ' H' v ex he' ho' r q' => q' F' ρ' H' v (.refl _ _) ho' r
def gExpr (f : Sem1) : SemS := fun en m => (f en m).st en fun x m' => .nx en m'
theorem rs_expr (he : RE X tb W e f) (hs : swapsWith e none pos.line X.env = pure false := by rfl) : RS X tb W (.Expr e pos) (gExpr f) := by
  refine PS.weak (ps_expr he hs) fun D σ H q => ?_
  obtain ⟨F, ρ, en, m, he, ho, q⟩ := q
  exact tE_st he ho q fun x m' F' ρ' H' v ex he' ho' r q' => q' F' ρ' σ H' (.refl _ _) he' ho'
def gIf (t : SemB) (g1 g2 : SemS) : SemS := fun en m => (t en m).st en fun k m' => if k = true then g1 en m' else g2 en m'
theorem rs_if {s1 s2 : List Stmt} (hc : RT X tb W c ga) (h1 : RSs X tb W s1 g1) (h2 : RSs X tb W s2 g2) : RS X tb W (.If c s1 s2 pos) (gIf ga g1 g2) := by
  refine PS.weak (ps_if hc h1 h2) fun D σ H q => ?_
  obtain ⟨F, ρ, en, m, he, ho, q⟩ := q
  refine tB_st he ho q fun k m' F' ρ' H' ex he' ho' q' => ?_
  cases k with
  | true => rw [if_pos rfl] at q' ⊢; exact ⟨F', ρ', en, m', he', ho', q'⟩
  | false => rw [if_neg Bool.false_ne_true] at q' ⊢; exact ⟨F', ρ', en, m', he', ho', q'⟩

/-! ### stores -/
def gSet (i : Nat) (f : Sem1) : SemS := fun en m => (f en m).st en fun x m' => .nx (en.set i (some x)) m'
theorem rs_set {i : Nat} (hN : X.N.Nodup) (hi : X.N[i]? = some x) (hx : Loc X.env.scope x) (he : RE X tb W e f) (hf : X.fn x = true ∨ X.env.scope.names.lookup x = some .local) (hs : swapsWith e (some (.Name x pos')) pos.line X.env = pure false := by rfl) :
    RS X tb W (.Assign [.Name x pos'] e pos) (gSet i f) := by
  refine PS.weak (ps_set hN hi hx he hs hf) fun D σ H q => ?_
  obtain ⟨F, ρ, en, m, he, ho, q⟩ := q
  exact tE_st he ho q fun y m' F' ρ' H' v ex he' ho' r q' => q' F' ρ' _ H' (.refl _ _) (he'.set r i) ho'
/-- a new thing of the store -/
theorem Wo.push {F : Hp} {ρ : List Addr} {m : Store} {H : Hp} {p : Addr} {xs : List Dv} {vs : List V} (o : Wo K tb F ρ m H) (hp : H p = none) (r : RepL K tb F xs vs) : Wo K tb F (ρ ++ [p]) (m ++ [.lst xs]) (upd H p (.lst vs)) ∧ Ext F ρ F (ρ ++ [p]) := by
  have fp : F p = none := by
    cases e : F p with
    | none => rfl
    | some y => rw [o.sub p y e] at hp; cases hp
  have ne : ∀ q ∈ ρ, q ≠ p := fun q h e => o.has q h (by rw [e]; exact hp)
  refine ⟨⟨fun q y e => ?_, by simp [o.len], ?_, fun i q ys h1 h2 => ?_, fun i q ys h1 h2 => ?_, fun q h => ?_⟩, .refl F, List.prefix_append _ _⟩
  · rw [upd_ne (ne_of_none e fp)]; exact o.sub q y e
  · exact List.nodup_append.mpr ⟨o.nd, by simp, fun q h q' h' => by simp at h'; subst h'; exact ne q h⟩
  · by_cases hi : i < ρ.length
    · rw [List.getElem?_append_left hi] at h1
      rw [List.getElem?_append_left (by rw [← o.len]; exact hi)] at h2
      obtain ⟨q1, ws, q2, q3⟩ := o.lst i q ys h1 h2
      exact ⟨q1, ws, by rw [upd_ne (ne q (List.mem_of_getElem? h1))]; exact q2, q3⟩
    · rw [List.getElem?_append_right (by omega)] at h1
      rw [List.getElem?_append_right (by rw [← o.len]; omega)] at h2
      have e0 : i - ρ.length = 0 := by
        cases h : i - ρ.length with
        | zero => rfl
        | succ n => rw [h] at h1; simp at h1
      rw [e0] at h1
      rw [← o.len, e0] at h2
      simp at h1 h2
      subst h1; subst h2
      exact ⟨fp, vs, upd_same, r⟩
  · by_cases hi : i < ρ.length
    · rw [List.getElem?_append_left hi] at h1
      rw [List.getElem?_append_left (by rw [← o.len]; exact hi)] at h2
      obtain ⟨q1, ws, q2, q3⟩ := o.dic i q ys h1 h2
      exact ⟨q1, ws, by rw [upd_ne (ne q (List.mem_of_getElem? h1))]; exact q2, q3⟩
    · rw [List.getElem?_append_right (by rw [← o.len]; omega)] at h2
      cases h : i - m.length with
      | zero => rw [h] at h2; simp at h2
      | succ n => rw [h] at h2; simp at h2
  · rcases List.mem_append.mp h with h | h
    · rw [upd_ne (ne q h)]; exact o.has q h
    · simp at h; subst h; rw [upd_same]; simp
def gNew (i : Nat) (f : SemF) : SemS := fun en m => (f en m).st en fun xs m' => .nx (en.set i (some (.o m'.length))) (m' ++ [.lst xs])
theorem rs_new {i : Nat} {ff : SemF} (hN : X.N.Nodup) (hi : X.N[i]? = some x) (hx : Loc X.env.scope x) (he : RF X tb W e ff) (hf : X.fn x = true ∨ X.env.scope.names.lookup x = some .local) (hs : swapsWith e (some (.Name x pos')) pos.line X.env = pure false := by rfl) :
    RS X tb W (.Assign [.Name x pos'] e pos) (gNew i ff) := by
  refine PS.weak (ps_set hN hi hx he hs hf) fun D σ H q => ?_
  obtain ⟨F, ρ, en, m, he, ho, q⟩ := q
  refine tF_st he ho q fun xs m' F' ρ' H' p vs ex he' ho' hp r q' => ?_
  obtain ⟨o3, e3⟩ := ho'.push hp r
  refine q' F' (ρ' ++ [p]) _ _ e3 ((he'.mono e3).set (.o ?_) i) o3
  rw [← ho'.len, List.getElem?_append_right (Nat.le_refl _)]
  simp
/-! targets -/
abbrev Tgt := Sv → En → Store → Option En
/-- at most the slots sl are changed -/
def But (sl : List Nat) (σ σ' : L2.St) : Prop := σ'.length = σ.length ∧ ∀ i, i ∉ sl → σ'[i]? = σ[i]?
theorem But.trans {sl sl' : List Nat} {σ σ1 σ2 : L2.St} (h : But sl σ σ1) (h' : But sl' σ1 σ2) : But (sl ++ sl') σ σ2 :=
  ⟨h'.1.trans h.1, fun i hi => (h'.2 i fun z => hi (by simp [z])).trans (h.2 i fun z => hi (by simp [z]))⟩
theorem But.mono {sl sl' : List Nat} {σ σ' : L2.St} (h : But sl σ σ') (hs : ∀ i ∈ sl, i ∈ sl') : But sl' σ σ' := ⟨h.1, fun i hi => h.2 i fun z => hi (hs i z)⟩
theorem But.set (σ : L2.St) (i : Nat) (o : Option V) : But [i] σ (σ.set i o) := ⟨by simp, fun j hj => List.getElem?_set_ne (fun e => hj (by simp [e]))⟩
def tG (K : PySem.W.Frag) (tb : Tb) (G : Tgt) (sl : List Nat) : TG := fun v σ H Q => ∃ F ρ en m y, EnvOk K tb F ρ en σ ∧ Wo K tb F ρ m H ∧ RepS K tb F ρ y v ∧ match G y en m with
  | some en' => ∀ σ', EnvOk K tb F ρ en' σ' → But sl σ σ' → Q σ' H
  | none => False
theorem PG.weak {t t' : TG} (h : PG X e t) (w : ∀ v σ H Q, t' v σ H Q → t v σ H Q) : PG X e t' := ⟨fun pins s σ H v u Q I r q => h.run pins s σ H v u Q I r (w _ _ _ _ q)⟩
theorem PGs.weak {t t' : TGs} (h : PGs X es t) (w : ∀ v σ H Q, t' v σ H Q → t v σ H Q) : PGs X es t' := ⟨fun pins s σ H v u Q I r q => h.run pins s σ H v u Q I r (w _ _ _ _ q)⟩
abbrev RG (X : Cx) (tb : Tb) (e : Expr) (G : Tgt) (sl : List Nat) : Prop := PG X e (tG X.K tb G sl)
def tgN (i : Nat) : Tgt := fun y en _ => some (en.set i (some y))
theorem rg_name {i : Nat} (hN : X.N.Nodup) (hi : X.N[i]? = some x) (hx : Loc X.env.scope x) (hf : X.fn x = true ∨ X.env.scope.names.lookup x = some .local) : RG X tb (.Name x pos) (tgN i) [i] := by
  refine PG.weak (pg_name hN hi hx hf) fun v σ H Q q => ?_
  obtain ⟨F, ρ, en, m, y, he, ho, r, q⟩ := q
  exact q _ (he.set r i) (But.set _ _ _)
abbrev Tgts := List Dv → En → Store → Option En
def tGs (K : PySem.W.Frag) (tb : Tb) (G : Tgts) (sl : List Nat) : TGs := fun vs σ H Q => ∃ F ρ en m ys, EnvOk K tb F ρ en σ ∧ Wo K tb F ρ m H ∧ RepL K tb F ys vs ∧ match G ys en m with
  | some en' => ∀ σ', EnvOk K tb F ρ en' σ' → But sl σ σ' → Q σ' H
  | none => False
abbrev RGs (X : Cx) (tb : Tb) (es : List Expr) (G : Tgts) (sl : List Nat) : Prop := PGs X es (tGs X.K tb G sl)
def tgNil : Tgts := fun ys en _ => match ys with | [] => some en | _ => none
def tgCons (G : Tgt) (Gs : Tgts) : Tgts := fun ys en m => match ys with
  | y :: r => (match G (.d y) en m with | some en' => Gs r en' m | none => none)
  | [] => none
theorem rgs_nil : RGs X tb [] tgNil [] := by
  refine PGs.weak pgs_nil fun vs σ H Q q => ?_
  obtain ⟨F, ρ, en, m, ys, he, ho, r, q⟩ := q
  cases r with
  | nil => exact ⟨rfl, q σ he ⟨rfl, fun _ _ => rfl⟩⟩
  | cons h r => exact q.elim
theorem rgs_cons {G : Tgt} {Gs : Tgts} {s1 s2 : List Nat} (h1 : RG X tb e G s1) (h2 : RGs X tb es Gs s2) (hs : (assignEach (e :: es) X.env).map (·.2) = assign e X.env :: (assignEach es X.env).map (·.2) := by rfl) : RGs X tb (e :: es) (tgCons G Gs) (s1 ++ s2) := by
  refine PGs.weak (pgs_cons h1 h2 hs) fun vs σ H Q q => ?_
  obtain ⟨F, ρ, en, m, ys, he, ho, r, q⟩ := q
  cases r with
  | nil => exact q.elim
  | @cons y v ys vs h r =>
    refine ⟨v, vs, rfl, F, ρ, en, m, .d y, he, ho, .d h, ?_⟩
    unfold tgCons at q
    dsimp only at q
    cases e : G (.d y) en m with
    | none => rw [e] at q; exact q.elim
    | some en' =>
      rw [e] at q
      refine fun σ' he' hb => ⟨F, ρ, en', m, ys, he', ho, r, ?_⟩
      dsimp only at q
      cases e2 : Gs ys en' m with
      | none => rw [e2] at q; exact q.elim
      | some en2 =>
        rw [e2] at q
        exact fun σ2 he2 hb2 => q σ2 he2 (hb.trans hb2)
def tgTup (n : Nat) (Gs : Tgts) : Tgt := fun y en m => match y with
  | .d (.tup xs) => if xs.length = n then Gs xs en m else none
  | _ => none
theorem rg_tup {n : Nat} {k : Nat} {Gs : Tgts} {sl : List Nat} (hc : X.calm = true) (h : RGs X tb es Gs sl) (hn : (assignEach es X.env).length = n := by rfl) (hst : (assignEach es X.env).findIdx? (·.1) = none := by rfl) : RG X tb (.Tuple es k pos) (tgTup n Gs) sl := by
  refine PG.weak (pg_tup hc h hn hst) fun v σ H Q q => ?_
  obtain ⟨F, ρ, en, m, y, he, ho, r, q⟩ := q
  cases r with
  | @d y v r =>
    cases r with
    | @tup a xs vs h1 r1 =>
      unfold tgTup at q
      dsimp only at q
      split at q
      · rename_i en' hq
        split at hq
        · rename_i hl
          refine ⟨a, vs, rfl, ho.sub.sqt h1, by rw [← r1.length]; exact hl, F, ρ, en, m, xs, he, ho, r1, ?_⟩
          rw [hq]
          exact q
        · cases hq
      · exact q.elim
    | _ => exact q.elim
  | o h => exact q.elim
/-- a list unpacked -/
def tgLst (n : Nat) (Gs : Tgts) : Tgt := fun y en m => match y with
  | .d (.lst xs) => if xs.length = n then Gs xs en m else none
  | _ => none
theorem rg_lst {n : Nat} {k : Nat} {Gs : Tgts} {sl : List Nat} (hc : X.calm = true) (h : RGs X tb es Gs sl) (hn : (assignEach es X.env).length = n := by rfl) (hst : (assignEach es X.env).findIdx? (·.1) = none := by rfl) : RG X tb (.Tuple es k pos) (tgLst n Gs) sl := by
  refine PG.weak (pg_lst hc h hn hst) fun v σ H Q q => ?_
  obtain ⟨F, ρ, en, m, y, he, ho, r, q⟩ := q
  cases r with
  | @d y v r =>
    cases r with
    | @lst a xs vs h1 r1 =>
      unfold tgLst at q
      dsimp only at q
      split at q
      · rename_i en' hq
        split at hq
        · rename_i hl
          refine ⟨a, vs, rfl, .inl (.inl (ho.sub _ _ h1)), by rw [← r1.length]; exact hl, F, ρ, en, m, xs, he, ho, r1, ?_⟩
          rw [hq]
          exact q
        · cases hq
      · exact q.elim
    | _ => exact q.elim
  | o h => exact q.elim
def gAsg (f : Sem1) (G : Tgt) : SemS := fun en m => (f en m).st en fun x m' => match G x en m' with
  | some en' => .nx en' m'
  | none => .no
theorem rs_asg {G : Tgt} {sl : List Nat} (he : RE X tb W e f) (hg : RG X tb tg G sl) (hs : swapsWithSole [tg] e pos.line X.env = pure false := by rfl) (hw : swappedStores [tg] e X.env = pure none := by rfl)
    (h1 : (assignEach [tg] X.env).map (·.2) = [assign tg X.env] := by rfl) : RS X tb W (.Assign [tg] e pos) (gAsg f G) := by
  refine PS.weak (ps_asg he hg hs hw h1) fun D σ H q => ?_
  obtain ⟨F, ρ, en, m, he, ho, q⟩ := q
  refine tE_st he ho q fun y m' F' ρ' H' v ex he' ho' r q' => ?_
  refine ⟨F', ρ', en, m', y, he', ho', r, ?_⟩
  cases e : G y en m' with
  | none => rw [e] at q'; exact q'.elim
  | some en' =>
    rw [e] at q'
    exact fun σ' he2 _ => q' F' ρ' σ' H' (.refl _ _) he2 ho'
/-- a, b = x, y -/
def gPar (i j : Nat) (fl : SemL) : SemS := fun en m => (fl en m).st en fun xs m' => match xs with
  | [u, w] => .nx ((en.set i (some u)).set j (some w)) m'
  | _ => .no
theorem tEL_st {g : List Sv → Store → Sr} {F : Hp} {ρ : List Addr} {en : En} {m : Store} {σ : L2.St} {H : Hp} {Q : List V → Hp → Prop} (he : EnvOk K tb F ρ en σ) (ho : Wo K tb F ρ m H) (h : tSt K tb W F ρ D ((fl en m).st en g))
    (k : ∀ x m' F' ρ' H' v, Ext F ρ F' ρ' → EnvOk K tb F' ρ' en σ → Wo K tb F' ρ' m' H' → RepSL K tb F' ρ' x v → tSt K tb W F' ρ' D (g x m') → Q v H') : tEL K tb W fl σ H Q := by
  refine tEL_iff.mpr ⟨F, ρ, en, m, he, ho, ?_⟩
  cases e : fl en m with
  | ok x m' =>
    rw [e] at h
    exact fun F' ρ' H' v ex o r => k x m' F' ρ' H' v ex (he.mono ex) o r (tSt.ext ex h)
  | ex x m' =>
    rw [e] at h
    exact fun F' ρ' H' c d ex o r => h F' ρ' σ H' c d ex (he.mono ex) o r
  | no => rw [e] at h; exact h
variable {i j : Nat} {y : Str} {px py pt pt2 : Pos} {kt k2 : Nat}
theorem rs_par (hc : X.calm = true) (hN : X.N.Nodup) (hi : X.N[i]? = some x) (hj : X.N[j]? = some y) (hij : i ≠ j) (hx : X.env.scope.names.lookup x = some .local) (hy : X.env.scope.names.lookup y = some .local) (ha : RA X tb W [a, b] fl)
    (hw : swappedStores [.Tuple [.Name x px, .Name y py] kt pt] (.Tuple [a, b] k2 pt2) X.env = pure (some [x, y]) := by rfl) (hs : swapsWithSole [.Tuple [.Name x px, .Name y py] kt pt] (.Tuple [a, b] k2 pt2) pos.line X.env = pure false := by rfl) :
    RS X tb W (.Assign [.Tuple [.Name x px, .Name y py] kt pt] (.Tuple [a, b] k2 pt2) pos) (gPar i j fl) := by
  refine PS.weak (ps_par hc hN hi hj hij hx hy ha hw hs) fun D σ H q => ?_
  obtain ⟨F, ρ, en, m, he, ho, q⟩ := q
  refine tEL_st he ho q fun xs m' F' ρ' H' vs ex he' ho' r q' => ?_
  cases r with
  | nil => exact q'.elim
  | cons r1 r =>
    cases r with
    | nil => exact q'.elim
    | cons r2 r =>
      cases r with
      | nil => exact ⟨_, _, rfl, q' F' ρ' _ H' (.refl _ _) ((he'.set r1 i).set r2 j) ho'⟩
      | cons r3 r => exact q'.elim
/-- x += e of ints -/
def gAug (i : Nat) (op : Int → Int → Int) (f : Sem1) : SemS := fun en m => match en[i]? with
  | some (some (.d (.int u))) => (f en m).st en fun y m' => match rv m' y with
    | some (.int w) => .nx (en.set i (some (.d (.int (op u w))))) m'
    | _ => .no
  | _ => .no
theorem rs_aug {op : Operator} {g : Int → Int → Int} (ho : PIp X op (ipI g)) (hN : X.N.Nodup) (hi : X.N[i]? = some x) (hx : Loc X.env.scope x) (he : RE X tb W e f) (hf : X.fn x = true ∨ X.env.scope.names.lookup x = some .local) :
    RS X tb W (.AugAssign (.Name x pos') op e pos) (gAug i g f) := by
  refine PS.weak (ps_aug hN hi hx he ho hf) fun D σ H q => ?_
  obtain ⟨F, ρ, en, m, he, ho, q⟩ := q
  unfold gAug at q
  split at q
  · rename_i u hu
    obtain ⟨v, hv, r⟩ := he.at_ i _ hu
    cases r with
    | d r =>
    cases r
    refine ⟨_, hv, tE_st he ho q fun y m' F' ρ' H' w ex he' ho' r q' => ?_⟩
    split at q'
    · rename_i w' hw
      exact ⟨u, w', rfl, (rv_top ho' r hw).int, q' F' ρ' _ H' (.refl _ _) (he'.set (.d (.int _)) i) ho'⟩
    · exact q'.elim
  · exact q.elim
/-! ### lists of the store, changed -/
theorem Wo.setL {F : Hp} {ρ : List Addr} {m : Store} {H : Hp} {i : Nat} {p : Addr} {xs ys : List Dv} {vs : List V} (o : Wo K tb F ρ m H) (hp : ρ[i]? = some p) (hm : m[i]? = some (.lst xs)) (r : RepL K tb F ys vs) : Wo K tb F ρ (m.set i (.lst ys)) (upd H p (.lst vs)) := by
  obtain ⟨q1, ws, q2, q3⟩ := o.lst i p xs hp hm
  refine ⟨fun q y e => ?_, by rw [List.length_set]; exact o.len, o.nd, fun l q zs h1 h2 => ?_, fun l q zs h1 h2 => ?_, fun q h => ?_⟩
  · rw [upd_ne (ne_of_none e q1)]; exact o.sub q y e
  · by_cases h : i = l
    · subst h
      rw [hp] at h1; cases h1
      rw [List.getElem?_set_self (List.getElem?_eq_some_iff.mp hm).1] at h2
      cases h2
      exact ⟨q1, vs, upd_same, r⟩
    · rw [List.getElem?_set_ne h] at h2
      obtain ⟨a1, ws', a2, a3⟩ := o.lst l q zs h1 h2
      exact ⟨a1, ws', by rw [upd_ne (get_nodup o.nd h1 hp (Ne.symm h))]; exact a2, a3⟩
  · by_cases h : i = l
    · subst h
      rw [List.getElem?_set_self (List.getElem?_eq_some_iff.mp hm).1] at h2
      cases h2
    · rw [List.getElem?_set_ne h] at h2
      obtain ⟨a1, ws', a2, a3⟩ := o.dic l q zs h1 h2
      exact ⟨a1, ws', by rw [upd_ne (get_nodup o.nd h1 hp (Ne.symm h))]; exact a2, a3⟩
  · by_cases h' : q = p
    · subst h'; rw [upd_same]; simp
    · rw [upd_ne h']; exact o.has q h
def gApp (i : Nat) (f : Sem1) : SemS := fun en m => match en[i]? with
  | some (some (.o j)) => (match m[j]? with
    | some (.lst _) => (f en m).st en fun y m' => match frz m' y with
      | some (d, m2) => (match m2[j]? with
        | some (.lst xs) => if fits (xs.length + 1) then .nx en (m2.set j (.lst (xs ++ [d]))) else .no
        | _ => .no)
      | none => .no
    | _ => .no)
  | _ => .no
variable {p1 p2 p3 : Pos}
theorem rs_app (hi : PE X (.Name x p1) (tVar i)) (he : RE X tb W e f) (hs : swapsWith (.Call (.Attribute (.Name x p1) "append" p2) [e] [] p3) none pos.line X.env = pure false := by rfl)
    (hst : starEach [e] X.env = (false, eval e X.env) :: starEach [] X.env := by rfl)
    (hb : PE X (.Call (.Attribute (.Name x p1) "append" p2) [e] [] p3) (tBM X.K "list" rAppend (tVar i) (tCons (tE X.K tb W f) tNil))) : RS X tb W (.Expr (.Call (.Attribute (.Name x p1) "append" p2) [e] [] p3) pos) (gApp i f) := by
  refine PS.weak (ps_expr hb hs) fun D σ H q => ?_
  obtain ⟨F, ρ, en, m, he, ho, q⟩ := q
  unfold gApp at q
  split at q
  · rename_i j hj
    obtain ⟨v, hv, r⟩ := he.at_ i _ hj
    cases r with
    | @o j p hp =>
    split at q
    · rename_i ys hys
      obtain ⟨_, ws, hws, _⟩ := ho.lst j p ys hp hys
      refine ⟨_, hv, .inl ⟨rfl, ws, .inl (.inl hws)⟩, tE_st he ho q fun y m' F' ρ' H' w ex he' ho' r q' => ?_⟩
      split at q'
      · rename_i d m2 hd
        obtain ⟨F2, e2, o2, r2⟩ := frz_ok ho' r hd
        split at q'
        · rename_i xs hx
          split at q'
          · rename_i hz
            have hp' := pre_get ex.pre hp
            obtain ⟨_, us, hus, ru⟩ := o2.lst j p xs hp' hx
            refine ⟨p, us, w, rfl, rfl, hus, ?_, ?_⟩
            · rw [← ru.length]
              exact Nat.lt_of_lt_of_le (Nat.lt_succ_self _) (fits_ok hz)
            · exact q' F2 ρ' σ _ e2 (he'.mono e2) (o2.setL hp' hx (ru.append (.cons r2 .nil)))
          · exact q'.elim
        · exact q'.elim
      · exact q'.elim
    · exact q.elim
  · exact q.elim
/-- xs[a] = e, xs a list of the store -/
def gPutL (i : Nat) (fa f : Sem1) : SemS := fun en m => (f en m).st en fun y m1 => match en[i]? with
  | some (some (.o j)) => (fa en m1).st en fun z m2 => match frz m2 y with
    | some (d, m3) => (match rv m3 z, m3[j]? with
      | some (.int l), some (.lst xs) => (match ixN xs.length l with | some n => .nx en (m3.set j (.lst (xs.set n d))) | none => .no)
      | _, _ => .no)
    | none => .no
  | _ => .no
theorem rs_putL (hi : PE X (.Name x p1) (tVar i)) (hx : RE X tb W a fa) (he : RE X tb W e f)
    (ha : ∀ v, assign (.Subscript (.Name x p1) a p2) X.env v = (do
      let ov ← holding [v] (eval (.Name x p1) X.env)
      let iv ← holding [v, ov] (eval a X.env)
      standAt p2
      holding [v, ov, iv] (setItem ov iv v)
      release [v, ov, iv] []) := by intro _; rfl)
    (hs : swapsWithSole [.Subscript (.Name x p1) a p2] e pos.line X.env = pure false := by rfl) (hw : swappedStores [.Subscript (.Name x p1) a p2] e X.env = pure none := by rfl)
    (h1 : (assignEach [.Subscript (.Name x p1) a p2] X.env).map (·.2) = [assign (.Subscript (.Name x p1) a p2) X.env] := by rfl) : RS X tb W (.Assign [.Subscript (.Name x p1) a p2] e pos) (gPutL i fa f) := by
  refine PS.weak (ps_asg he (pg_sub hi hx set_list ha) hs hw h1) fun D σ H q => ?_
  obtain ⟨F, ρ, en, m, he, ho, q⟩ := q
  refine tE_st he ho q fun y m1 F1 ρ1 H1 v e1 he1 ho1 r1 q1 => ?_
  split at q1
  · rename_i j hj
    obtain ⟨u, hu, r⟩ := he1.at_ i _ hj
    refine ⟨u, hu, tE_st he1 ho1 q1 fun z m2 F2 ρ2 H2 w e2 he2 ho2 r2 q2 => ?_⟩
    cases r with
    | @o j p hp =>
    split at q2
    · rename_i d m3 hd
      obtain ⟨F3, e3, o3, r3⟩ := frz_ok ho2 (r1.mono e2) hd
      split at q2
      · rename_i l xs hl hx
        split at q2
        · rename_i n hn
          have hp' := pre_get e2.pre hp
          obtain ⟨_, us, hus, ru⟩ := o3.lst j p xs hp' hx
          refine ⟨p, us, l, n, rfl, (rv_top o3 (r2.mono e3) hl).int, hus, by rw [← ru.length]; exact hn, ?_⟩
          exact q2 F3 ρ2 σ _ e3 (he2.mono e3) (o3.setL hp' hx (ru.set r3 n))
        · exact q2.elim
      · exact q2.elim
    · exact q2.elim
  · exact q1.elim
end
end EvL
end

section
set_option Elab.async false
set_option linter.all false
set_option maxRecDepth 100000
set_option maxHeartbeats 2000000
/-! E7: what is walked, for, while, comprehensions -/
namespace EvL
open PySem PySem.Spec PyProof.Rows L2 RZ
section
variable {K : PySem.W.Frag} {tb : Tb} {W : WX} {X : Cx} {a b c e tg : Expr} {es : List Expr} {fa fb fc f : Sem1} {fl : SemL} {ga gb : SemB} {pos pos' : Pos} {k : Nat} {x : Str} {D : Ends}
theorem PI.weak {iter : Expr} {t t' : TI} (h : PI X tg iter t) (w : ∀ σ H R, t' σ H R → t σ H R) : PI X tg iter t' := ⟨fun pins s σ H R I q => h.run pins s σ H R I (w _ _ _ q)⟩
/-- J walks these items over F -/
def WalkE (K : PySem.W.Frag) (tb : Tb) (F : Hp) (J : It) (items : List Dv) : Prop := ∃ (G : Hp → Prop) (Y : Nat → Hp → V → Hp → Prop), Walk J items.length G Y ∧ (∀ H, Le F H → G H) ∧
  ∀ i H x H' F1 ρ1 m1, i < items.length → Le F F1 → Wo K tb F1 ρ1 m1 H → Y i H x H' → ∃ F2 d, Ext F1 ρ1 F2 ρ1 ∧ Wo K tb F2 ρ1 m1 H' ∧ items[i]? = some d ∧ Rep K tb F2 d x
def PostI (K : PySem.W.Frag) (tb : Tb) (W : WX) (F : Hp) (ρ : List Addr) (σ : L2.St) (R : It → Hp → Prop) : Rs (List Dv) → Prop
  | .ok items m' => ∀ F' ρ' H' J, Ext F ρ F' ρ' → Wo K tb F' ρ' m' H' → WalkE K tb F' J items → R J H'
  | .ex x m' => ∀ F' ρ' H' c d, Ext F ρ F' ρ' → Wo K tb F' ρ' m' H' → XRep K tb F' x c d → W c d σ H'
  | .no => False
def tI (K : PySem.W.Frag) (tb : Tb) (W : WX) (fi : SemF) : TI := fun σ H R => ∃ F ρ en m, EnvOk K tb F ρ en σ ∧ Wo K tb F ρ m H ∧ PostI K tb W F ρ σ R (fi en m)
abbrev RI (X : Cx) (tb : Tb) (W : WX) (tg iter : Expr) (fi : SemF) : Prop := PI X tg iter (tI X.K tb W fi)
theorem PostI.ext {F F' : Hp} {ρ ρ' : List Addr} {σ : L2.St} {R : It → Hp → Prop} (ex : Ext F ρ F' ρ') {r : Rs (List Dv)} (h : PostI K tb W F ρ σ R r) : PostI K tb W F' ρ' σ R r := by
  cases r with
  | ok y m2 => exact fun F2 ρ2 H2 J x2 => h F2 ρ2 H2 J (ex.trans x2)
  | ex y m2 => exact fun F2 ρ2 H2 c d x2 => h F2 ρ2 H2 c d (ex.trans x2)
  | no => exact h
theorem tE_bindI {g : Sv → Store → Rs (List Dv)} {F : Hp} {ρ : List Addr} {en : En} {m : Store} {σ : L2.St} {H : Hp} {Q : VK} {R : It → Hp → Prop} (he : EnvOk K tb F ρ en σ) (ho : Wo K tb F ρ m H) (h : PostI K tb W F ρ σ R ((f en m).bind g))
    (k : ∀ x m' F' ρ' H' v, Ext F ρ F' ρ' → EnvOk K tb F' ρ' en σ → Wo K tb F' ρ' m' H' → RepS K tb F' ρ' x v → PostI K tb W F' ρ' σ R (g x m') → Q v H') : tE K tb W f σ H Q := by
  refine tE_iff.mpr ⟨F, ρ, en, m, he, ho, ?_⟩
  cases e : f en m with
  | ok x m' =>
    rw [e] at h
    exact fun F' ρ' H' v ex o r => k x m' F' ρ' H' v ex (he.mono ex) o r (PostI.ext ex h)
  | ex x m' => rw [e] at h; exact h
  | no => rw [e] at h; exact h
theorem tEL_bindI {g : List Sv → Store → Rs (List Dv)} {F : Hp} {ρ : List Addr} {en : En} {m : Store} {σ : L2.St} {H : Hp} {Q : List V → Hp → Prop} {R : It → Hp → Prop} (he : EnvOk K tb F ρ en σ) (ho : Wo K tb F ρ m H) (h : PostI K tb W F ρ σ R ((fl en m).bind g))
    (k : ∀ x m' F' ρ' H' v, Ext F ρ F' ρ' → EnvOk K tb F' ρ' en σ → Wo K tb F' ρ' m' H' → RepSL K tb F' ρ' x v → PostI K tb W F' ρ' σ R (g x m') → Q v H') : tEL K tb W fl σ H Q := by
  refine tEL_iff.mpr ⟨F, ρ, en, m, he, ho, ?_⟩
  cases e : fl en m with
  | ok x m' =>
    rw [e] at h
    exact fun F' ρ' H' v ex o r => k x m' F' ρ' H' v ex (he.mono ex) o r (PostI.ext ex h)
  | ex x m' => rw [e] at h; exact h
  | no => rw [e] at h; exact h

/-! ### lists, tuples -/
def iAny (K : PySem.W.Frag) (tl : TE) : TI := fun σ H R => tl σ H fun x H1 => ∃ p, x = .ref p ∧ ((∃ xs, SqL K H1 p xs ∧ R (Itl K p) H1) ∨ (∃ xs, SqT K H1 p xs ∧ R (Itt K p) H1))
theorem pi_any {l : Expr} {tl : TE} (hl : PE X l tl) : PI X tg l (iAny X.K tl) := by
  refine ⟨fun pins s σ H R I h => thn (hl.run pins s σ H _ I h) fun v s1 hh => ?_⟩
  obtain ⟨y, H1, I1, r1, p, rfl, hq⟩ := hh
  obtain rfl : v = Value.ref p := r1
  have fp : ∀ q : List Addr, ∀ b ∈ [s1.heap.objs.size], FpOk X pins H1 b := fun _ b hb => by
    obtain rfl : b = s1.heap.objs.size := by simpa using hb
    exact I1.fpOk (Nat.le_refl _) (I1.hok.fresh (Nat.le_refl _))
  rcases hq with ⟨xs, hq, q⟩ | ⟨xs, hq, q⟩
  · obtain ⟨its, rv, pl, hz⟩ := I1.list hq
    exact wpAny_pyIter_list pl.isList ⟨_, _, _, _, H1, rfl, I1.kept (t' := s1.toks) fun b o z => Heap.get?_push_of_some _ z, turn_list p _, ⟨_, Heap.get?_push_size _ rfl, rfl, rfl⟩, fp [], q⟩
  · obtain ⟨its, rv, pl, hz⟩ := I1.tuple hq
    exact wpAny_pyIter_tuple (show s1.heap.IsTuple p its.toArray from pl) ⟨_, _, _, _, H1, rfl, I1.kept (t' := s1.toks) fun b o z => Heap.get?_push_of_some _ z, turn_tuple p _, ⟨_, Heap.get?_push_size _ rfl, rfl, rfl⟩, fp [], q⟩
theorem walkE_list {F : Hp} {p : Addr} {xs : List Dv} {vs : List V} (h : SqL K F p vs) (r : RepL K tb F xs vs) : WalkE K tb F (Itl K p) xs := by
  refine ⟨fun H => SqL K H p vs, YAt vs, by rw [r.length]; exact walk_list, fun H l => l.sql h, fun i H y H' F1 ρ1 m1 hi l o q => ?_⟩
  obtain ⟨rfl, hx⟩ := q
  obtain ⟨d, hd, rr⟩ := r.getV hx
  exact ⟨F1, d, .refl _ _, o, hd, rr.mono l⟩
theorem walkE_tup {F : Hp} {p : Addr} {xs : List Dv} {vs : List V} (h : SqT K F p vs) (r : RepL K tb F xs vs) : WalkE K tb F (Itt K p) xs := by
  refine ⟨fun H => SqT K H p vs, YAt vs, by rw [r.length]; exact walk_tup, fun H l => l.sqt h, fun i H y H' F1 ρ1 m1 hi l o q => ?_⟩
  obtain ⟨rfl, hx⟩ := q
  obtain ⟨d, hd, rr⟩ := r.getV hx
  exact ⟨F1, d, .refl _ _, o, hd, rr.mono l⟩
def items (d : Dv) : Option (List Dv) := match d with
  | .lst xs => some xs
  | .tup xs => some xs
  | .scr ns => some (ns.map .int)
  | _ => none
def iSeq (f : Sem1) : SemF := fun en m => (f en m).bind fun x m1 => match frz m1 x with
  | some (d, m2) => (match items d with | some xs => .ok xs m2 | none => .no)
  | none => .no
theorem ri_seq {l : Expr} (hl : RE X tb W l f) : RI X tb W tg l (iSeq f) := by
  refine PI.weak (pi_any hl) fun σ H R q => ?_
  obtain ⟨F, ρ, en, m, he, ho, q⟩ := q
  refine tE_bindI he ho q fun y m1 F1 ρ1 H1 v e1 he1 ho1 r1 q1 => ?_
  split at q1
  · rename_i d m2 hd
    obtain ⟨F2, e2, o2, r2⟩ := frz_ok ho1 r1 hd
    split at q1
    · rename_i xs hx
      cases r2 <;> simp only [items, Option.some.injEq, reduceCtorEq] at hx
      · subst hx
        rename_i p ys vs h r
        exact ⟨p, rfl, .inr ⟨vs, o2.sub.sqt h, q1 F2 ρ1 H1 _ e2 o2 (walkE_tup h r)⟩⟩
      · subst hx
        rename_i p ys vs h r
        exact ⟨p, rfl, .inl ⟨vs, .inl (.inl (o2.sub _ _ h)), q1 F2 ρ1 H1 _ e2 o2 (walkE_list (.inl (.inl h)) r)⟩⟩
      · subst hx
        rename_i p ns h
        exact ⟨p, rfl, .inl ⟨_, o2.sub.sql h, q1 F2 ρ1 H1 _ e2 o2 (walkE_list h (RepL.ints ns))⟩⟩
    · exact q1.elim
  · exact q1.elim
/-! ### range -/
def rngOk (i : Int) : Bool := decide (-(2 ^ 62) ≤ i) && decide (i < 2 ^ 62)
def rng (lo hi : Int) : List Dv := (List.range (hi - lo).toNat).map fun (i : Nat) => Dv.int (lo + (i : Int))
theorem walkE_rng {F : Hp} {lo : Int} {n : Nat} : WalkE K tb F (Itr lo n) ((List.range n).map fun (i : Nat) => Dv.int (lo + (i : Int))) := by
  refine ⟨fun _ => True, YFn fun i => .int (lo + (i : Int)), by rw [List.length_map, List.length_range]; exact walk_range, fun _ _ => trivial, fun i H y H' F1 ρ1 m1 hi l o q => ?_⟩
  obtain ⟨rfl, rfl⟩ := q
  rw [List.length_map, List.length_range] at hi
  exact ⟨F1, .int (lo + (i : Int)), .refl _ _, o, by simp [hi], .int _⟩
def iRange1 (f : Sem1) : SemF := fun en m => (f en m).bind fun x m1 => match rv m1 x with
  | some (.int j) => if rngOk j then .ok (rng 0 j) m1 else .no
  | _ => .no
variable {p : Pos}
theorem ri_range1 (hg : Gl X "range") (hm : X.mg "range" = none) (ha : RE X tb W a fa) (hs : starEach [a] X.env = [(false, eval a X.env)] := by rfl) (hs2 : starEach [a] X.env = (false, eval a X.env) :: starEach [] X.env := by rfl) : RI X tb W tg (.Call (.Name "range" p) [a] [] pos) (iRange1 fa) := by
  refine PI.weak (pi_range1 hg hm (pa_cons ha pa_nil hs2) hs) fun σ H R q => ?_
  obtain ⟨F, ρ, en, m, he, ho, q⟩ := q
  refine tE_bindI he ho q fun y m1 F1 ρ1 H1 v e1 he1 ho1 r1 q1 => ?_
  split at q1
  · rename_i j hj
    split at q1
    · rename_i hz
      simp only [rngOk, Bool.and_eq_true, decide_eq_true_eq] at hz
      refine ⟨j, by rw [(rv_top ho1 r1 hj).int], hz.1, hz.2, q1 F1 ρ1 H1 _ (.refl _ _) ho1 ?_⟩
      have := walkE_rng (K := X.K) (tb := tb) (F := F1) (lo := 0) (n := j.toNat)
      unfold rng
      rw [Int.sub_zero]
      exact this
    · exact q1.elim
  · exact q1.elim
def iRange2 (f g : Sem1) : SemF := fun en m => (f en m).bind fun x m1 => (g en m1).bind fun y m2 => match rv m2 x, rv m2 y with
  | some (.int i), some (.int j) => if rngOk i && rngOk j then .ok (rng i j) m2 else .no
  | _, _ => .no
theorem ri_range2 (hg : Gl X "range") (hm : X.mg "range" = none) (ha : RE X tb W a fa) (hb : RE X tb W b fb) (hs : starEach [a, b] X.env = [(false, eval a X.env), (false, eval b X.env)] := by rfl) (hs2 : starEach [a, b] X.env = (false, eval a X.env) :: starEach [b] X.env := by rfl) (hs3 : starEach [b] X.env = (false, eval b X.env) :: starEach [] X.env := by rfl) (hs4 : starEach [b] X.env = [(false, eval b X.env)] := by rfl) :
    RI X tb W tg (.Call (.Name "range" p) [a, b] [] pos) (iRange2 fa fb) := by
  refine PI.weak (pi_range2 hg hm (pa_cons ha (pa_cons hb pa_nil hs3) hs2) hs hs4) fun σ H R q => ?_
  obtain ⟨F, ρ, en, m, he, ho, q⟩ := q
  refine tE_bindI he ho q fun y m1 F1 ρ1 H1 v e1 he1 ho1 r1 q1 => ?_
  refine tE_bindI he1 ho1 q1 fun z m2 F2 ρ2 H2 w e2 he2 ho2 r2 q2 => ?_
  split at q2
  · rename_i i j hi hj
    split at q2
    · rename_i hz
      simp only [rngOk, Bool.and_eq_true, decide_eq_true_eq] at hz
      exact ⟨i, j, by rw [(rv_top ho2 (r1.mono e2) hi).int, (rv_top ho2 r2 hj).int], ⟨hz.1.1, hz.1.2, hz.2.1, hz.2.2⟩, q2 F2 ρ2 H2 _ (.refl _ _) ho2 walkE_rng⟩
    · exact q2.elim
  · exact q2.elim
/-! ### zip of two lists, of two tuples -/
def pairs (xs ys : List Dv) : List Dv := List.zipWith (fun x y => Dv.tup [x, y]) xs ys
theorem walkE_pair {F : Hp} {J : It} {xs ys : List Dv} {vs ws : List V} {G : Hp → Prop} {n : Nat} (hn : n = min vs.length ws.length) (w : Walk J n G (YPair (fun i => vs[i]?) (fun i => ws[i]?))) (g : ∀ H, Le F H → G H) (r1 : RepL K tb F xs vs) (r2 : RepL K tb F ys ws) : WalkE K tb F J (pairs xs ys) := by
  have ln : (pairs xs ys).length = n := by rw [hn]; unfold pairs; rw [List.length_zipWith, r1.length, r2.length]
  refine ⟨G, _, by rw [ln]; exact w, g, fun i H y H' F1 ρ1 m1 hi l o q => ?_⟩
  obtain ⟨T, u, z, rfl, hT, rfl, hu, hz⟩ := q
  obtain ⟨d1, h1, s1⟩ := r1.getV hu
  obtain ⟨d2, h2, s2⟩ := r2.getV hz
  obtain ⟨o3, e3⟩ := o.alloc hT (.tup [u, z])
  refine ⟨_, .tup [d1, d2], e3, o3, ?_, .tup (.inl (.inl upd_same)) (.cons ((s1.mono l).mono e3.le) (.cons ((s2.mono l).mono e3.le) .nil))⟩
  unfold pairs
  rw [List.getElem?_zipWith, h1, h2]
def zipD (x y : Dv) : Option (List Dv) := match x, y with
  | .lst xs, .lst ys => some (pairs xs ys)
  | .tup xs, .tup ys => some (pairs xs ys)
  | _, _ => none
def iZip (f g : Sem1) : SemF := fun en m => (f en m).bind fun x m1 => (g en m1).bind fun y m2 => match frz m2 x with
  | some (d, m3) => (match frz m3 y with
    | some (e, m4) => (match zipD d e with | some xs => .ok xs m4 | none => .no)
    | none => .no)
  | none => .no
theorem ri_zip {elts : List Expr} {kk : Nat} {tpos : Pos} (hg : Gl X "zip") (hm : X.mg "zip" = none) (ha : RE X tb W a fa) (hb : RE X tb W b fb) (hs : starEach [a, b] X.env = (false, eval a X.env) :: starEach [b] X.env := by rfl) (hs3 : starEach [b] X.env = (false, eval b X.env) :: starEach [] X.env := by rfl) (hpl : (backTo pos (starEach [b] X.env)).any (·.1) = false := by rfl) :
    RI X tb W (.Tuple elts kk tpos) (.Call (.Name "zip" p) [a, b] [] pos) (iZip fa fb) := by
  refine PI.weak (pi_zipA hg hm (pa_cons ha (pa_cons hb pa_nil hs3) hs) hs hpl) fun σ H R q => ?_
  obtain ⟨F, ρ, en, m, he, ho, q⟩ := q
  refine tE_bindI he ho q fun y m1 F1 ρ1 H1 v e1 he1 ho1 r1 q1 => ?_
  refine tE_bindI he1 ho1 q1 fun z m2 F2 ρ2 H2 w e2 he2 ho2 r2 q2 => ?_
  split at q2
  · rename_i d m3 hd
    obtain ⟨F3, e3, o3, r3⟩ := frz_ok ho2 (r1.mono e2) hd
    split at q2
    · rename_i d' m4 hd'
      obtain ⟨F4, e4, o4, r4⟩ := frz_ok o3 (r2.mono e3) hd'
      have r5 := r3.mono e4.le
      split at q2
      · rename_i xs hx
        cases r5 <;> cases r4 <;> simp only [zipD, Option.some.injEq, reduceCtorEq] at hx
        · subst hx
          rename_i p1 ys vs h r p2 ys2 vs2 h2 r2'
          exact ⟨p1, p2, vs, vs2, rfl, .inr ⟨o4.sub.sqt h, o4.sub.sqt h2, q2 F4 ρ2 H2 _ (e3.trans e4) o4 (walkE_pair rfl (walk_zipT rfl) (fun H l => ⟨l.sqt h, l.sqt h2⟩) r r2')⟩⟩
        · subst hx
          rename_i p1 ys vs h r p2 ys2 vs2 h2 r2'
          exact ⟨p1, p2, vs, vs2, rfl, .inl ⟨.inl (.inl (o4.sub _ _ h)), .inl (.inl (o4.sub _ _ h2)), q2 F4 ρ2 H2 _ (e3.trans e4) o4 (walkE_pair rfl (walk_zip rfl) (fun H l => ⟨.inl (.inl (l _ _ h)), .inl (.inl (l _ _ h2))⟩) r r2')⟩⟩
      · exact q2.elim
    · exact q2.elim
  · exact q2.elim
where
  walk_zipT {K : PySem.W.Frag} {a b : Addr} {xs ys : List V} {n : Nat} (hn : n = min xs.length ys.length) : Walk (ItzT K a b) n (fun H => SqT K H a xs ∧ SqT K H b ys) (YPair (fun i => xs[i]?) (fun i => ys[i]?)) := by
    subst hn
    refine ⟨fun i H hi q => ⟨xs, ys, xs[i]'(by omega), ys[i]'(by omega), q.1, q.2, by simp, by simp⟩, fun H q => ⟨xs, ys, q.1, q.2, by omega⟩, fun i H v H' hi q z => ?_⟩
    obtain ⟨T, u, w, h1, h2, h3, h4, h5⟩ := z
    exact ⟨T, u, w, h1, h2, h3, h4 xs q.1, h5 ys q.2⟩

/-! ### for -/
def loop (G : Tgt) (body : SemS) : List Dv → SemS
  | [], en, m => .nx en m
  | d :: ds, en, m => match G (.d d) en m with
    | none => .no
    | some en' => match body en' m with
      | .nx e2 m2 => loop G body ds e2 m2
      | .ct e2 m2 => loop G body ds e2 m2
      | .bk e2 m2 => .nx e2 m2
      | .rt y m2 => .rt y m2
      | .ex y e2 m2 => .ex y e2 m2
      | .no => .no
def gFor (fi : SemF) (G : Tgt) (body : SemS) : SemS := fun en m => (fi en m).st en fun xs m' => loop G body xs en m'
theorem tI_st {fi : SemF} {g : List Dv → Store → Sr} {F : Hp} {ρ : List Addr} {en : En} {m : Store} {σ : L2.St} {H : Hp} {R : It → Hp → Prop} (he : EnvOk K tb F ρ en σ) (ho : Wo K tb F ρ m H) (h : tSt K tb W F ρ D ((fi en m).st en g))
    (k : ∀ xs m' F' ρ' H' J, Ext F ρ F' ρ' → EnvOk K tb F' ρ' en σ → Wo K tb F' ρ' m' H' → WalkE K tb F' J xs → tSt K tb W F' ρ' D (g xs m') → R J H') : tI K tb W fi σ H R := by
  refine ⟨F, ρ, en, m, he, ho, ?_⟩
  cases e : fi en m with
  | ok x m' =>
    rw [e] at h
    exact fun F' ρ' H' J ex o w => k x m' F' ρ' H' J ex (he.mono ex) o w (tSt.ext ex h)
  | ex x m' =>
    rw [e] at h
    exact fun F' ρ' H' c d ex o r => h F' ρ' σ H' c d ex (he.mono ex) o r
  | no => rw [e] at h; exact h
variable {iter : Expr} {fi : SemF} {G : Tgt} {sl : List Nat} {body : List Stmt} {g : SemS}
theorem rs_for (hp : PassesOwn (model X.prog X.w) X.A X.env X.xe) (hc : X.calm = true) (hi : RI X tb W tg iter fi) (hg : RG X tb tg G sl) (hb : RSs X tb W body g) (hfs : ∀ x, foldedSetIterable iter X.env x = pure x := by intro _; rfl) : RS X tb W (.For tg iter body [] pos) (gFor fi G g) := by
  refine PS.weak (ps_for hp hc hi hg hb hfs) fun D σ H q => ?_
  obtain ⟨F, ρ, en, m, he, ho, q⟩ := q
  refine tI_st he ho q fun xs m' F' ρ' H' J ex he' ho' w q' => ?_
  obtain ⟨Gp, Y, wk, hG, hY⟩ := w
  refine for_it wk (fun i σ1 H1 => ∃ F1 ρ1 en1 m1, Ext F' ρ' F1 ρ1 ∧ EnvOk X.K tb F1 ρ1 en1 σ1 ∧ Wo X.K tb F1 ρ1 m1 H1 ∧ tSt X.K tb W F1 ρ1 D (loop G g (xs.drop i) en1 m1)) ⟨F', ρ', en, m', .refl _ _, he', ho', q'⟩ (fun i σ1 H1 _ ⟨F1, ρ1, en1, m1, e1, _, o1, _⟩ => hG H1 (e1.le.trans o1.sub)) ?_ ?_
  · rintro i y σ1 H1 H2 hi ⟨F1, ρ1, en1, m1, e1, he1, o1, q1⟩ hy
    obtain ⟨F2, d, e2, o2, hd, rd⟩ := hY i H1 y H2 F1 ρ1 m1 hi e1.le o1 hy
    rw [List.drop_eq_getElem_cons hi] at q1
    have hd' : xs[i] = d := by
      rw [List.getElem?_eq_getElem hi] at hd
      exact Option.some.inj hd
    rw [hd'] at q1
    refine ⟨F2, ρ1, en1, m1, .d d, he1.mono e2, o2, .d rd, ?_⟩
    have q1 := tSt.ext e2 q1
    unfold loop at q1
    cases eg : G (.d d) en1 m1 with
    | none => rw [eg] at q1; exact q1.elim
    | some en' =>
      rw [eg] at q1
      refine fun σ' he2 _ => ⟨F2, ρ1, en', m1, he2, o2, ?_⟩
      dsimp only at q1
      cases eb : g en' m1 with
      | nx e3 m3 => rw [eb] at q1; exact fun F3 ρ3 σ3 H3 x3 he3 o3 => ⟨F3, ρ3, e3, m3, (e1.trans e2).trans x3, he3, o3, tSt.ext x3 q1⟩
      | ct e3 m3 => rw [eb] at q1; exact fun F3 ρ3 σ3 H3 x3 he3 o3 => ⟨F3, ρ3, e3, m3, (e1.trans e2).trans x3, he3, o3, tSt.ext x3 q1⟩
      | bk e3 m3 => rw [eb] at q1; exact q1
      | rt y3 m3 => rw [eb] at q1; exact q1
      | ex y3 e3 m3 => rw [eb] at q1; exact q1
      | no => rw [eb] at q1; exact q1
  · rintro σ1 H1 ⟨F1, ρ1, en1, m1, e1, he1, o1, q1⟩
    rw [List.drop_length] at q1
    exact q1 F1 ρ1 σ1 H1 (.refl _ _) he1 o1
/-! ### while -/
def gWhile (t : SemB) (body : SemS) : Nat → SemS
  | 0, _, _ => .no
  | n + 1, en, m => match t en m with
    | .ok true m1 => (match body en m1 with
      | .nx e2 m2 => gWhile t body n e2 m2
      | .ct e2 m2 => gWhile t body n e2 m2
      | .bk e2 m2 => .nx e2 m2
      | .rt y m2 => .rt y m2
      | .ex y e2 m2 => .ex y e2 m2
      | .no => .no)
    | .ok false m1 => .nx en m1
    | .ex y m1 => .ex y en m1
    | .no => .no
theorem rs_while (n : Nat) (hp : PassesOwn (model X.prog X.w) X.A X.env X.xe) (hc : RT X tb W c ga) (hb : RSs X tb W body g) : RS X tb W (.While c body [] pos) (gWhile ga g n) := by
  refine PS.weak (ps_while hp hc hb) fun D σ H q => ?_
  obtain ⟨F, ρ, en, m, he, ho, q⟩ := q
  refine ⟨fun k σ1 H1 => ∃ F1 ρ1 en1 m1, Ext F ρ F1 ρ1 ∧ EnvOk X.K tb F1 ρ1 en1 σ1 ∧ Wo X.K tb F1 ρ1 m1 H1 ∧ tSt X.K tb W F1 ρ1 D (gWhile ga g k en1 m1), ⟨n, F, ρ, en, m, .refl _ _, he, ho, q⟩, ?_⟩
  rintro k σ1 H1 ⟨F1, ρ1, en1, m1, e1, he1, o1, q1⟩
  cases k with
  | zero => exact q1.elim
  | succ k =>
    unfold gWhile at q1
    refine ⟨F1, ρ1, en1, m1, he1, o1, ?_⟩
    cases et : ga en1 m1 with
    | ok kk m2 =>
      rw [et] at q1
      intro F2 ρ2 H2 x2 o2
      cases kk with
      | false =>
        rw [if_neg Bool.false_ne_true]
        exact q1 F2 ρ2 σ1 H2 x2 (he1.mono x2) o2
      | true =>
        rw [if_pos rfl]
        dsimp only at q1
        refine ⟨fun σ3 H3 => ∃ F3 ρ3 e3 m3, Ext F ρ F3 ρ3 ∧ EnvOk X.K tb F3 ρ3 e3 σ3 ∧ Wo X.K tb F3 ρ3 m3 H3 ∧ tSt X.K tb W F3 ρ3 D (gWhile ga g k e3 m3), fun σ3 H3 h3 => ⟨k, Nat.lt_succ_self _, h3⟩, F2, ρ2, en1, m2, he1.mono x2, o2, ?_⟩
        have q1 := tSt.ext x2 q1
        cases eb : g en1 m2 with
        | nx e3 m3 => rw [eb] at q1; exact fun F3 ρ3 σ3 H3 x3 he3 o3 => ⟨F3, ρ3, e3, m3, (e1.trans x2).trans x3, he3, o3, tSt.ext x3 q1⟩
        | ct e3 m3 => rw [eb] at q1; exact fun F3 ρ3 σ3 H3 x3 he3 o3 => ⟨F3, ρ3, e3, m3, (e1.trans x2).trans x3, he3, o3, tSt.ext x3 q1⟩
        | bk e3 m3 => rw [eb] at q1; exact q1
        | rt y3 m3 => rw [eb] at q1; exact q1
        | ex y3 e3 m3 => rw [eb] at q1; exact q1
        | no => rw [eb] at q1; exact q1
    | ex y m2 =>
      rw [et] at q1
      exact fun F' ρ' H' cc d ex o r => q1 F' ρ' σ1 H' cc d ex (he1.mono ex) o r
    | no => rw [et] at q1; exact q1
end
end EvL
end

section
set_option Elab.async false
set_option linter.all false
set_option maxRecDepth 100000
set_option maxHeartbeats 2000000
/-! E8: comprehensions -/
namespace EvL
open PySem PySem.Spec PyProof.Rows L2
section
variable {K : PySem.W.Frag} {tb : Tb} {W : WX} {X : Cx} {a b c e tg elt iter : Expr} {ifs : List Expr} {fa fb fc f : Sem1} {fi : SemF} {ga gb : SemB} {pos pos' : Pos} {k : Nat} {x : Str} {own : List (Str × Nat)} {scope : Scope} {G : Tgt} {sl : List Nat}
/-- no error is taken -/
def WN : WX := fun _ _ _ _ => False
theorem takesN {s : Shared} {H : Hp} {scope : Scope} {cenv : Env} {fp : List Addr} : Takes (X.blk s H scope cenv fp) WN := fun _ _ ⟨_, _, _, _, _, _, _, _, _, _, _, _, _, _, _, _, w⟩ => w.elim
/-- a block's own slots are empty at the start -/
def wipeE (en : En) : List Nat → En
  | [] => en
  | v :: vs => (wipeE en vs).set v none
theorem EnvOk.wipes {F : Hp} {ρ : List Addr} {en : En} {σ : L2.St} (h : EnvOk K tb F ρ en σ) : ∀ vs : List Nat, EnvOk K tb F ρ (wipeE en vs) (L2.wipe σ vs)
  | [] => h
  | v :: vs => (EnvOk.wipes h vs).wipe v none
theorem wipe_len {σ : L2.St} : ∀ vs : List Nat, (wipe σ vs).length = σ.length
  | [] => rfl
  | v :: vs => by unfold wipe; rw [List.length_set, wipe_len vs]
theorem wipe_at {σ : L2.St} {i : Nat} : ∀ vs : List Nat, (wipe σ vs)[i]? = if i ∈ vs then (if i < σ.length then some none else none) else σ[i]?
  | [] => by simp [wipe]
  | v :: vs => by
    unfold wipe
    by_cases h : v = i
    · subst h
      by_cases hl : v < σ.length
      · rw [List.getElem?_set_self (by rw [wipe_len]; exact hl)]; simp [hl]
      · rw [List.getElem?_eq_none (by rw [List.length_set, wipe_len]; omega)]; simp [hl]
    · rw [List.getElem?_set_ne h, wipe_at vs]
      have : (i ∈ v :: vs) ↔ i ∈ vs := by simp [Ne.symm h]
      by_cases h2 : i ∈ vs
      · rw [if_pos h2, if_pos (this.mpr h2)]
      · rw [if_neg h2, if_neg (fun z => h2 (this.mp z))]
theorem But.wiped {σ σ' : L2.St} {vs : List Nat} (h : But sl (wipe σ vs) σ') (hs : ∀ i ∈ sl, i ∈ vs) : wipe σ' vs = wipe σ vs := by
  apply List.ext_getElem?
  intro i
  have hl : σ'.length = σ.length := by rw [h.1, wipe_len]
  rw [wipe_at, wipe_at, hl]
  by_cases hi : i ∈ vs
  · rw [if_pos hi, if_pos hi]
  · rw [if_neg hi, if_neg hi]
    have := h.2 i fun z => hi (hs i z)
    rw [this, wipe_at, if_neg hi]
/-- the tests of a block -/
def bYes : SemB := fun _ m => .ok true m
abbrev RTs (X : Cx) (tb : Tb) (W : WX) (es : List Expr) (f : SemB) : Prop := PTs X es (tB X.K tb W f)
theorem PTs.weak {t t' : TT} {es : List Expr} (h : PTs X es t) (w : ∀ σ H Q, t' σ H Q → t σ H Q) : PTs X es t' := ⟨fun pins s σ H Q I q => h.run pins s σ H Q I (w _ _ _ q)⟩
theorem rts_nil : RTs X tb W [] bYes := PTs.weak pts_nil fun σ H Q ⟨F, ρ, en, m, he, ho, q⟩ => q F ρ H (.refl _ _) ho
theorem rts_one (h : RT X tb W c ga) : RTs X tb W [c] ga := pts_one h
/-- the turns of a comprehension; the list that grows is the store's thing n -/
def lcLoop (n : Nat) (G : Tgt) (t : SemB) (f : Sem1) (en : En) : List Dv → Store → Rs (List Dv)
  | [], m => if m.length = n + 1 then (match m[n]? with | some (.lst acc) => .ok acc (m.take n) | _ => .no) else .no
  | d :: ds, m => match G (.d d) en m with
    | none => .no
    | some en' => match t en' m with
      | .ok true m1 => (match f en' m1 with
        | .ok y m2 => (match frz m2 y with
          | some (z, m3) => (match m3[n]? with
            | some (.lst acc) => if fits (acc.length + 1) then lcLoop n G t f en ds (m3.set n (.lst (acc ++ [z]))) else .no
            | _ => .no)
          | none => .no)
        | _ => .no)
      | .ok false m1 => lcLoop n G t f en ds m1
      | _ => .no
def fComp (fi : SemF) (G : Tgt) (t : SemB) (f : Sem1) (vs : List Nat) : SemF := fun en m => (fi en m).bind fun xs m1 => lcLoop m1.length G t f (wipeE en vs) xs (m1 ++ [.lst []])
theorem tI_bind {fi : SemF} {g : List Dv → Store → Rs (List Dv)} {F : Hp} {ρ : List Addr} {en : En} {m : Store} {σ : L2.St} {H : Hp} {Q : VK} {R : It → Hp → Prop} (he : EnvOk K tb F ρ en σ) (ho : Wo K tb F ρ m H) (h : PostF K tb W F ρ σ Q ((fi en m).bind g))
    (k : ∀ xs m' F' ρ' H' J, Ext F ρ F' ρ' → EnvOk K tb F' ρ' en σ → Wo K tb F' ρ' m' H' → WalkE K tb F' J xs → PostF K tb W F' ρ' σ Q (g xs m') → R J H') : tI K tb W fi σ H R := by
  refine ⟨F, ρ, en, m, he, ho, ?_⟩
  cases e : fi en m with
  | ok x m' =>
    rw [e] at h
    exact fun F' ρ' H' J ex o w => k x m' F' ρ' H' J ex (he.mono ex) o w (PostF.ext ex h)
  | ex x m' =>
    rw [e] at h
    exact h
  | no => rw [e] at h; exact h
/-- the last thing of the store let go -/
theorem Wo.pop {F : Hp} {ρ ρ' : List Addr} {m : Store} {H : Hp} {D : Addr} {acc : List Dv} {vs : List V} (o : Wo K tb F ρ' m H) (hp : ρ ++ [D] <+: ρ') (hl : m.length = ρ.length + 1) (hm : m[ρ.length]? = some (.lst acc)) : Wo K tb F ρ (m.take ρ.length) (fun a => if a = D then none else H a) ∧
    ∃ vs, H D = some (.lst vs) ∧ RepL K tb F acc vs := by
  have e : ρ' = ρ ++ [D] := by
    obtain ⟨t, rfl⟩ := hp
    have := o.len
    rw [hl] at this
    simp at this
    rw [this, List.append_nil]
  subst e
  have hD : (ρ ++ [D])[ρ.length]? = some D := by simp
  obtain ⟨q1, vs, q2, q3⟩ := o.lst _ _ _ hD hm
  have nd := o.nd
  rw [List.nodup_append] at nd
  have dj : ∀ a ∈ ρ, a ≠ D := fun a ha => nd.2.2 a ha D (by simp)
  have up : ∀ {i : Nat} {a : Addr}, ρ[i]? = some a → (ρ ++ [D])[i]? = some a ∧ i < ρ.length ∧ a ≠ D := fun {i a} h => by
    obtain ⟨hi, _⟩ := List.getElem?_eq_some_iff.mp h
    exact ⟨by rw [List.getElem?_append_left hi]; exact h, hi, dj a (List.mem_of_getElem? h)⟩
  refine ⟨⟨fun a x h => ?_, by simp [hl], nd.1, fun i a xs h1 h2 => ?_, fun i a xs h1 h2 => ?_, fun a ha => ?_⟩, vs, q2, q3⟩
  · have : a ≠ D := fun z => by rw [z, q1] at h; cases h
    simp only [this, if_false]
    exact o.sub a x h
  · obtain ⟨h3, hi, hne⟩ := up h1
    rw [List.getElem?_take_of_lt hi] at h2
    obtain ⟨p1, ws, p2, p3⟩ := o.lst i a xs h3 h2
    exact ⟨p1, ws, by simp only [hne, if_false]; exact p2, p3⟩
  · obtain ⟨h3, hi, hne⟩ := up h1
    rw [List.getElem?_take_of_lt hi] at h2
    obtain ⟨p1, ws, p2, p3⟩ := o.dic i a xs h3 h2
    exact ⟨p1, ws, by simp only [hne, if_false]; exact p2, p3⟩
  · have hne := dj a ha
    simp only [hne, if_false]
    exact o.has a (by simp [ha])
theorem fits_lt {n : Nat} (h : fits (n + 1) = true) : n < sizeLine := by
  have := fits_ok h
  omega
theorem comp_run {own : List Nat} {σ : L2.St} {H : Hp} {Q : VK} (hsl : ∀ i ∈ sl, i ∈ own) (q : tF K tb W (fComp fi G ga f own) σ H Q) : tLc (tI K tb W fi) (tG K tb G sl) (tB K tb WN ga) (tE K tb WN f) own σ H Q := by
  obtain ⟨F, ρ, en, m, he, ho, q⟩ := q
  refine tI_bind he ho q fun xs m1 F1 ρ1 H1 J e1 he1 ho1 w q1 => ?_
  intro D hD
  obtain ⟨Gp, Y, wk, hG, hY⟩ := w
  obtain ⟨o0, x0⟩ := ho1.push (xs := []) (vs := []) hD .nil
  have hl : ρ1.length = m1.length := ho1.len
  refine lc_it wk (fun i H1 => ∃ F2 ρ2 m2, Ext F1 (ρ1 ++ [D]) F2 ρ2 ∧ Wo K tb F2 ρ2 m2 H1 ∧ PostF K tb W F2 ρ1 σ Q (lcLoop m1.length G ga f (wipeE en own) (xs.drop i) m2)) ⟨F1, _, _, .refl _ _, o0, q1⟩ (fun i H2 _ ⟨F2, ρ2, m2, e2, o2, _⟩ => hG H2 (e2.le.trans o2.sub)) ?_ ?_
  · rintro i y H2 H3 hi ⟨F2, ρ2, m2, e2, o2, q2⟩ hy
    obtain ⟨F3, d, e3, o3, hd, rd⟩ := hY i H2 y H3 F2 ρ2 m2 hi e2.le o2 hy
    rw [List.drop_eq_getElem_cons hi] at q2
    have hd' : xs[i] = d := by
      rw [List.getElem?_eq_getElem hi] at hd
      exact Option.some.inj hd
    rw [hd'] at q2
    have q2 := PostF.ext (⟨e3.le, List.prefix_refl _⟩ : Ext F2 ρ1 F3 ρ1) q2
    have he3 : EnvOk K tb F3 ρ2 (wipeE en own) (wipe σ own) := (((he1.mono x0).mono e2).mono e3).wipes _
    refine ⟨F3, ρ2, _, m2, .d d, he3, o3, .d rd, ?_⟩
    unfold lcLoop at q2
    cases eg : G (.d d) (wipeE en own) m2 with
    | none => rw [eg] at q2; exact q2.elim
    | some en' =>
      rw [eg] at q2
      dsimp only at q2
      refine fun σ' he' bu => ⟨But.wiped bu hsl, F3, ρ2, en', m2, he', o3, ?_⟩
      cases et : ga en' m2 with
      | no => rw [et] at q2; exact q2.elim
      | ex _ _ => rw [et] at q2; exact q2.elim
      | ok kk m3 =>
        rw [et] at q2
        intro F4 ρ4 H4 x4 o4
        cases kk with
        | false =>
          rw [if_neg Bool.false_ne_true]
          exact ⟨F4, ρ4, m3, (e2.trans e3).trans x4, o4, PostF.ext ⟨x4.le, List.prefix_refl _⟩ q2⟩
        | true =>
          rw [if_pos rfl]
          dsimp only at q2
          refine ⟨F4, ρ4, en', m3, he'.mono x4, o4, ?_⟩
          cases ef : f en' m3 with
          | no => rw [ef] at q2; exact q2.elim
          | ex _ _ => rw [ef] at q2; exact q2.elim
          | ok z m4 =>
            rw [ef] at q2
            dsimp only at q2
            intro F5 ρ5 H5 v x5 o5 r5
            split at q2
            · rename_i zz m5 hz
              obtain ⟨F6, x6, o6, r6⟩ := frz_ok o5 r5 hz
              split at q2
              · rename_i acc hacc
                have hD6 : ρ5[m1.length]? = some D := pre_get (((e2.trans e3).trans x4).trans x5).pre (by rw [← hl]; simp)
                obtain ⟨p1, vs, p2, p3⟩ := o6.lst _ _ _ hD6 hacc
                split at q2
                · rename_i hf
                  refine ⟨vs, p2, by rw [← p3.length]; exact fits_lt hf, F6, ρ5, _, (((e2.trans e3).trans x4).trans x5).trans x6, o6.setL hD6 hacc (p3.append (.cons r6 .nil)), ?_⟩
                  exact PostF.ext ⟨(x4.le.trans x5.le).trans x6.le, List.prefix_refl _⟩ q2
                · exact q2.elim
              · exact q2.elim
            · exact q2.elim
  · rintro H2 ⟨F2, ρ2, m2, e2, o2, q2⟩
    rw [List.drop_length] at q2
    unfold lcLoop at q2
    split at q2
    · rename_i hlen
      split at q2
      · rename_i acc hacc
        rw [← hl] at hacc q2 hlen
        obtain ⟨o3, vs, p2, p3⟩ := Wo.pop (vs := []) o2 e2.pre hlen hacc
        have := q2 F2 ρ1 _ D vs (.refl _ _) o3 (by simp) p3
        have e : upd (fun a => if a = D then none else H2 a) D (.lst vs) = H2 := by
          funext a
          by_cases h : a = D
          · subst h; rw [upd_same]; exact p2.symm
          · rw [upd_ne h, if_neg h]
        rw [e] at this
        exact this
      · exact q2.elim
    · exact q2.elim
theorem rf_comp (hc : X.calm = true) (hN : X.N.Nodup) (hi : RI X tb W tg iter fi) (ok : BlkOk X.N X.env.scope scope own)
    (hg : ∀ (s : Shared) (H : Hp) (C : Addr) (cl : List (Str × Addr)) (fp : List Addr), RG (X.blk s H scope (compEnvC scope cl C X.env) fp) tb tg G sl)
    (ht : ∀ (s : Shared) (H : Hp) (C : Addr) (cl : List (Str × Addr)) (fp : List Addr), RTs (X.blk s H scope (compEnvC scope cl C X.env) fp) tb WN ifs ga)
    (he : ∀ (s : Shared) (H : Hp) (C : Addr) (cl : List (Str × Addr)) (fp : List Addr), RE (X.blk s H scope (compEnvC scope cl C X.env) fp) tb WN elt f)
    (hsl : ∀ i ∈ sl, i ∈ own.map (·.2)) (hs : ∀ x, foldedSetIterable iter X.env x = pure x := by intro _; rfl) :
    RF X tb W (.ListComp elt [⟨tg, iter, ifs, 0⟩] scope pos) (fComp fi G ga f (own.map (·.2))) :=
  PE.weak (pe_lc (g := tG X.K tb G sl) (tt := tB X.K tb WN ga) (te := tE X.K tb WN f) hc hN hi ok hg ht he hs) fun σ H Q q => comp_run hsl q
/-- name = [..] on one line -/
theorem rs_newC {i : Nat} {y : Str} {py spos : Pos} (hc : X.calm = true) (hN : X.N.Nodup) (hy : X.N[i]? = some y) (hyl : X.env.scope.names.lookup y = some .local)
    (hsw : swapsWith (.ListComp elt [⟨tg, iter, ifs, 0⟩] scope pos) (some (.Name y py)) spos.line X.env = pure true) (hi : RI X tb W tg iter fi) (ok : BlkOk X.N X.env.scope scope own)
    (hg : ∀ (s : Shared) (H : Hp) (C : Addr) (cl : List (Str × Addr)) (fp : List Addr), RG (X.blk s H scope (compEnvC scope cl C X.env) fp) tb tg G sl)
    (ht : ∀ (s : Shared) (H : Hp) (C : Addr) (cl : List (Str × Addr)) (fp : List Addr), RTs (X.blk s H scope (compEnvC scope cl C X.env) fp) tb WN ifs ga)
    (he : ∀ (s : Shared) (H : Hp) (C : Addr) (cl : List (Str × Addr)) (fp : List Addr), RE (X.blk s H scope (compEnvC scope cl C X.env) fp) tb WN elt f)
    (hsl : ∀ i ∈ sl, i ∈ own.map (·.2)) (hs : ∀ x, foldedSetIterable iter X.env x = pure x := by intro _; rfl) :
    RS X tb W (.Assign [.Name y py] (.ListComp elt [⟨tg, iter, ifs, 0⟩] scope pos) spos) (gNew i (fComp fi G ga f (own.map (·.2)))) := by
  refine PS.weak (ps_setLc (g := tG X.K tb G sl) (tt := tB X.K tb WN ga) (te := tE X.K tb WN f) hc hN hy hyl hsw hi ok hg ht he hs) fun D σ H q => ?_
  obtain ⟨F, ρ, en, m, he, ho, q⟩ := q
  refine comp_run hsl ?_
  refine tF_st he ho q fun xs m1 F1 ρ1 H1 p vs e1 he1 ho1 hp r1 q1 => ?_
  obtain ⟨o2, e2⟩ := ho1.push hp r1
  exact q1 F1 _ _ _ e2 ((he1.mono e2).set (.o (by rw [← ho1.len]; simp)) i) o2
end
end EvL
end

section
set_option Elab.async false
set_option linter.all false
set_option maxRecDepth 100000
set_option maxHeartbeats 2000000
/-! E9: dicts with text keys; the end of a def -/
namespace EvL
open PySem PySem.Spec PyProof.Rows L2
section
variable {K : PySem.W.Frag} {tb : Tb} {W : WX} {X : Cx} {a b c e : Expr} {fa fb fc f : Sem1} {fl : SemL} {pos p1 p2 p3 : Pos} {k : Nat} {x : Str} {D : Ends} {j : Nat}
theorem Wo.pushD {F : Hp} {ρ : List Addr} {m : Store} {H : Hp} {p : Addr} {xs : List (Key × Dv)} {vs : List (Key × V)} (o : Wo K tb F ρ m H) (hp : H p = none) (r : RepK K tb F xs vs) : Wo K tb F (ρ ++ [p]) (m ++ [.dic xs]) (upd H p (.dK vs)) ∧ Ext F ρ F (ρ ++ [p]) := by
  have fp : F p = none := by
    cases e : F p with
    | none => rfl
    | some y => rw [o.sub p y e] at hp; cases hp
  have ne : ∀ q ∈ ρ, q ≠ p := fun q h e => o.has q h (by rw [e]; exact hp)
  refine ⟨⟨fun q y e => ?_, by simp [o.len], ?_, fun i q ys h1 h2 => ?_, fun i q ys h1 h2 => ?_, fun q h => ?_⟩, .refl F, List.prefix_append _ _⟩
  · rw [upd_ne (ne_of_none e fp)]; exact o.sub q y e
  · exact List.nodup_append.mpr ⟨o.nd, by simp, fun q h q' h' => by simp at h'; subst h'; exact ne q h⟩
  · by_cases hi : i < ρ.length
    · rw [List.getElem?_append_left hi] at h1
      rw [List.getElem?_append_left (by rw [← o.len]; exact hi)] at h2
      obtain ⟨q1, ws, q2, q3⟩ := o.lst i q ys h1 h2
      exact ⟨q1, ws, by rw [upd_ne (ne q (List.mem_of_getElem? h1))]; exact q2, q3⟩
    · rw [List.getElem?_append_right (by rw [← o.len]; omega)] at h2
      cases h : i - m.length with
      | zero => rw [h] at h2; simp at h2
      | succ n => rw [h] at h2; simp at h2
  · by_cases hi : i < ρ.length
    · rw [List.getElem?_append_left hi] at h1
      rw [List.getElem?_append_left (by rw [← o.len]; exact hi)] at h2
      obtain ⟨q1, ws, q2, q3⟩ := o.dic i q ys h1 h2
      exact ⟨q1, ws, by rw [upd_ne (ne q (List.mem_of_getElem? h1))]; exact q2, q3⟩
    · rw [List.getElem?_append_right (by omega)] at h1
      rw [List.getElem?_append_right (by rw [← o.len]; omega)] at h2
      have e0 : i - ρ.length = 0 := by
        cases h : i - ρ.length with
        | zero => rfl
        | succ n => rw [h] at h1; simp at h1
      rw [e0] at h1
      rw [← o.len, e0] at h2
      simp at h1 h2
      subst h1; subst h2
      exact ⟨fp, vs, upd_same, r⟩
  · rcases List.mem_append.mp h with h | h
    · rw [upd_ne (ne q h)]; exact o.has q h
    · simp at h; subst h; rw [upd_same]; simp
theorem Wo.setD {F : Hp} {ρ : List Addr} {m : Store} {H : Hp} {i : Nat} {p : Addr} {xs ys : List (Key × Dv)} {vs : List (Key × V)} (o : Wo K tb F ρ m H) (hp : ρ[i]? = some p) (hm : m[i]? = some (.dic xs)) (r : RepK K tb F ys vs) : Wo K tb F ρ (m.set i (.dic ys)) (upd H p (.dK vs)) := by
  obtain ⟨q1, ws, q2, q3⟩ := o.dic i p xs hp hm
  refine ⟨fun q y e => ?_, by rw [List.length_set]; exact o.len, o.nd, fun l q zs h1 h2 => ?_, fun l q zs h1 h2 => ?_, fun q h => ?_⟩
  · rw [upd_ne (ne_of_none e q1)]; exact o.sub q y e
  · by_cases h : i = l
    · subst h
      rw [List.getElem?_set_self (List.getElem?_eq_some_iff.mp hm).1] at h2
      cases h2
    · rw [List.getElem?_set_ne h] at h2
      obtain ⟨a1, ws', a2, a3⟩ := o.lst l q zs h1 h2
      exact ⟨a1, ws', by rw [upd_ne (get_nodup o.nd h1 hp (Ne.symm h))]; exact a2, a3⟩
  · by_cases h : i = l
    · subst h
      rw [hp] at h1; cases h1
      rw [List.getElem?_set_self (List.getElem?_eq_some_iff.mp hm).1] at h2
      cases h2
      exact ⟨q1, vs, upd_same, r⟩
    · rw [List.getElem?_set_ne h] at h2
      obtain ⟨a1, ws', a2, a3⟩ := o.dic l q zs h1 h2
      exact ⟨a1, ws', by rw [upd_ne (get_nodup o.nd h1 hp (Ne.symm h))]; exact a2, a3⟩
  · by_cases h' : q = p
    · subst h'; rw [upd_same]; simp
    · rw [upd_ne h']; exact o.has q h
/-! keys -/
def kGet (kvs : List (Key × Dv)) (k : Key) : Option Dv := match kvs with
  | [] => none
  | (j, d) :: r => if j = k then some d else kGet r k
def kHas (kvs : List (Key × Dv)) (k : Key) : Bool := match kvs with
  | [] => false
  | (j, _) :: r => decide (j = k) || kHas r k
def kPut (kvs : List (Key × Dv)) (k : Key) (v : Dv) : List (Key × Dv) := if kHas kvs k = true then kvs.map (fun kv => if kv.1 = k then (kv.1, v) else kv) else kvs ++ [(k, v)]
theorem RepK.get {F : Hp} {k : Key} {d : Dv} : ∀ {kvs : List (Key × Dv)} {vs : List (Key × V)}, RepK K tb F kvs vs → kGet kvs k = some d → ∃ v, valV vs k = some v ∧ Rep K tb F d v
  | _, _, .nil, h => by cases h
  | _, _, .cons (k := j) (xs := r) h t, e => by
    unfold kGet at e
    by_cases z : j = k
    · rw [if_pos z] at e
      cases e
      exact ⟨_, valV_pos z, h⟩
    · rw [if_neg z] at e
      obtain ⟨v, h1, h2⟩ := RepK.get t e
      exact ⟨v, by rw [valV_neg z]; exact h1, h2⟩
theorem RepK.has {F : Hp} {k : Key} : ∀ {kvs : List (Key × Dv)} {vs : List (Key × V)}, RepK K tb F kvs vs → (vs.any fun kv => decide (kv.1 = k)) = kHas kvs k
  | _, _, .nil => rfl
  | _, _, .cons (k := j) (xs := r) h t => by
    rw [List.any_cons, RepK.has t]
    rfl
theorem RepK.app {F : Hp} {k : Key} {d : Dv} {v : V} (q : Rep K tb F d v) : ∀ {kvs : List (Key × Dv)} {vs : List (Key × V)}, RepK K tb F kvs vs → RepK K tb F (kvs ++ [(k, d)]) (vs ++ [(k, v)])
  | _, _, .nil => .cons q .nil
  | _, _, .cons h t => .cons h (RepK.app q t)
theorem RepK.map {F : Hp} {k : Key} {d : Dv} {v : V} (q : Rep K tb F d v) : ∀ {kvs : List (Key × Dv)} {vs : List (Key × V)}, RepK K tb F kvs vs → RepK K tb F (kvs.map (fun kv => if kv.1 = k then (kv.1, d) else kv)) (vs.map (fun kv => if kv.1 = k then (kv.1, v) else kv))
  | _, _, .nil => .nil
  | _, _, .cons (k := j) h t => by
    rw [List.map_cons, List.map_cons]
    by_cases z : j = k
    · simp only [z, if_true]
      exact .cons q (RepK.map q t)
    · simp only [z, if_false]
      exact .cons h (RepK.map q t)
theorem RepK.put {F : Hp} {k : Key} {d : Dv} {v : V} {kvs : List (Key × Dv)} {vs : List (Key × V)} (r : RepK K tb F kvs vs) (q : Rep K tb F d v) : RepK K tb F (kPut kvs k d) (putK vs k v) := by
  unfold kPut putK
  rw [r.has]
  split
  · exact r.map q
  · exact r.app q
/-! x['k'] -/
theorem Top.dk {F H : Hp} {xs : List (Key × Dv)} {v : V} (l : Le F H) (t : Top K tb F H (.dic xs) v) : ∃ a vs, v = .ref a ∧ H a = some (.dK vs) ∧ RepK K tb F xs vs := by
  cases t with
  | of h => cases h with | dic h r => exact ⟨_, _, rfl, l _ _ h, r⟩
  | dic h r => exact ⟨_, _, rfl, h, r⟩
def oDGet (k : Str) : Dv → Option Dv
  | .dic kvs => kGet kvs (.inr k)
  | _ => none
theorem noSl_str {k : Str} {j : Nat} {p : Pos} : NoSl (.Constant (.str k) j p) := fun _ _ => rfl
theorem re_dget {kk : Str} (hu : X.A.units + 1 < cLine) (ha : RE X tb W a fa) : RE X tb W (.Subscript a (.Constant (.str kk) j p1) pos) (sUn (oDGet kk) fa) := by
  refine PE.weak (pe_dget hu ha pe_str noSl_str) fun σ H Q q => ?_
  obtain ⟨F, ρ, en, m, he, ho, q⟩ := tE_iff.mp q
  refine tE_bind he ho q fun x m1 F1 ρ1 H1 v e1 he1 ho1 r1 q1 => ?_
  split at q1
  · rename_i d hd
    split at q1
    · rename_i r hr
      have t := rv_top ho1 r1 hd
      cases d <;> simp only [oDGet, reduceCtorEq] at hr
      obtain ⟨p, vs, rfl, h1, h2⟩ := t.dk ho1.sub
      obtain ⟨u, hu', ru⟩ := h2.get hr
      refine ⟨p, u, rfl, ?_, q1 F1 ρ1 H1 u (.refl _ _) ho1 (.d ru)⟩
      have := DGet.k (k := .inr kk) h1
      rw [hu'] at this
      exact this
    · exact q1.elim
  · exact q1.elim
/-! x['k'] = e -/
def gPutD (i : Nat) (k : Str) (f : Sem1) : SemS := fun en m => (f en m).st en fun y m1 => match en[i]? with
  | some (some (.o j)) => (match frz m1 y with
    | some (d, m2) => (match m2[j]? with
      | some (.dic kvs) => if fits (kvs.length + 1) then .nx en (m2.set j (.dic (kPut kvs (.inr k) d))) else .no
      | _ => .no)
    | none => .no)
  | _ => .no
theorem rs_putD {i : Nat} {kk : Str} (hu : X.A.units + 1 < cLine) (hi : PE X (.Name x p1) (tVar i)) (he : RE X tb W e f) (hs : swapsWith e (some (.Subscript (.Name x p1) (.Constant (.str kk) j p3) p2)) pos.line X.env = pure false := by rfl) :
    RS X tb W (.Assign [.Subscript (.Name x p1) (.Constant (.str kk) j p3) p2] e pos) (gPutD i kk f) := by
  refine PS.weak (ps_dput hu hi pe_str he hs) fun D σ H q => ?_
  obtain ⟨F, ρ, en, m, he, ho, q⟩ := q
  refine tE_st he ho q fun y m1 F1 ρ1 H1 v e1 he1 ho1 r1 q1 => ?_
  split at q1
  · rename_i jj hj
    obtain ⟨u, hu, r⟩ := he1.at_ i _ hj
    cases r with
    | @o jj p hp =>
    split at q1
    · rename_i d m2 hd
      obtain ⟨F2, e2, o2, r2⟩ := frz_ok ho1 r1 hd
      split at q1
      · rename_i kvs hk
        split at q1
        · rename_i hf
          obtain ⟨_, vs, h1, h2⟩ := o2.dic jj p kvs hp hk
          refine ⟨_, hu, p, _, rfl, DPut.k (k := .inr kk) h1 (by rw [← h2.length]; exact fits_lt hf), ?_⟩
          exact q1 F2 ρ1 σ _ e2 (he1.mono e2) (o2.setD hp hk (h2.put r2))
        · exact q1.elim
      · exact q1.elim
    · exact q1.elim
  · exact q1.elim
/-! {'k': e, ..} -/
structure RD (X : Cx) (tb : Tb) (W : WX) (pos : Pos) (ks : List Str) (keys : List (Option Expr)) (values : List Expr) (fl : SemL) : Prop where
  ex : ∃ trs, PPs X pos keys values trs ∧ ∀ σ H (Q : List (V × V) → Hp → Prop), tEL X.K tb W fl σ H (fun vs H' => Q ((ks.zip vs).map fun p => (V.str p.1, p.2)) H') → tPairs trs σ H Q
  all : keys.all (·.isSome) = true
  len : keys.length = values.length
  lenk : keys.length = ks.length
theorem rd_nil : RD X tb W pos [] [] [] lNil := by
  refine ⟨⟨[], pps_nil, fun σ H Q q => ?_⟩, rfl, rfl, rfl⟩
  obtain ⟨F, ρ, en, m, he, ho, q⟩ := tEL_iff.mp q
  exact q F ρ H [] (.refl _ _) ho .nil
theorem rd_cons {kk : Str} {ks : List Str} {keys : List (Option Expr)} {values : List Expr} (he : RE X tb W e f) (hr : RD X tb W pos ks keys values fl) : RD X tb W pos (kk :: ks) (some (.Constant (.str kk) j p1) :: keys) (e :: values) (lCons f fl) := by
  obtain ⟨⟨trs, h1, h2⟩, h3, h4, h5⟩ := hr
  refine ⟨⟨_, pps_cons pe_str he h1, fun σ H Q q => ?_⟩, by rw [List.all_cons, h3]; rfl, by simp [h4], by simp [h5]⟩
  obtain ⟨F, ρ, en, m, he, ho, q⟩ := tEL_iff.mp q
  refine tE_bindL he ho q fun x m1 F1 ρ1 H1 v e1 he1 ho1 r1 q1 => h2 _ _ _ ?_
  refine tEL_bindL he1 ho1 q1 fun xs m2 F2 ρ2 H2 vs e2 he2 ho2 r2 q2 => ?_
  exact q2 F2 ρ2 H2 (v :: vs) (.refl _ _) ho2 (.cons (r1.mono e2) r2)
def kMerge (kvs : List (Key × Dv)) : List (Str × Dv) → List (Key × Dv)
  | [] => kvs
  | p :: r => kMerge (kPut kvs (.inr p.1) p.2) r
/-- a new dict in the store -/
def sDisp (ks : List Str) (fl : SemL) : Sem1 := fun en m => (fl en (m ++ [.dic []])).bind fun xs m1 => match frzL m1 xs with
  | some (ds, m2) => (match m2[m.length]? with
    | some (.dic []) => .ok (.o m.length) (m2.set m.length (.dic (kMerge [] (ks.zip ds))))
    | _ => .no)
  | none => .no
theorem kMerge_ok {F : Hp} : ∀ {ks : List Str} {ds : List Dv} {vs : List V} {kvs : List (Key × Dv)} {us : List (Key × V)}, RepL K tb F ds vs → RepK K tb F kvs us → RepK K tb F (kMerge kvs (ks.zip ds)) (mergeK us ((ks.zip vs).map fun p => (Sum.inr p.1, p.2)))
  | [], _, _, _, _, _, r => by simpa [kMerge, mergeK] using r
  | _ :: _, _, _, _, _, .nil, r => by simpa [kMerge, mergeK] using r
  | k :: ks, _, _, _, _, .cons h t, r => by
    have := kMerge_ok (ks := ks) t (r.put (k := Sum.inr k) h)
    simpa [kMerge, mergeK] using this
theorem re_disp {ks : List Str} {keys : List (Option Expr)} {values : List Expr} (h : RD X tb W pos ks keys values fl) (h0 : ks ≠ [] := by simp) (h15 : ks.length ≤ 15 := by decide) : RE X tb W (.Dict keys values pos) (sDisp ks fl) := by
  obtain ⟨⟨trs, h1, h2⟩, h3, h4, h5⟩ := h
  refine PE.weak (pe_disp h1 h3 h4 (fun z => h0 (by rw [z] at h5; exact List.eq_nil_of_length_eq_zero h5.symm)) (by omega)) fun σ H Q q => ?_
  obtain ⟨F, ρ, en, m, he, ho, q⟩ := tE_iff.mp q
  intro p hp
  refine h2 _ _ _ ?_
  obtain ⟨o1, e1⟩ := ho.pushD hp (.nil : RepK X.K tb F [] [])
  have q := PostE.ext e1 q
  refine tEL_bind (he.mono e1) o1 q fun xs m1 F1 ρ1 H1 vs e2 he2 ho2 r2 q2 => ?_
  split at q2
  · rename_i ds m2 hd
    obtain ⟨F2, e3, o3, r3⟩ := frzL_ok ho2 r2 hd
    split at q2
    · rename_i hk
      have hp' : ρ1[m.length]? = some p := pre_get e2.pre (by rw [← ho.len]; simp)
      obtain ⟨_, us, u1, u2⟩ := o3.dic _ p _ hp' hk
      cases u2
      refine ⟨u1, (ks.zip vs).map fun p => (Sum.inr p.1, p.2), by simp [kV], ?_, ?_⟩
      · rw [List.length_map, List.length_zip]; omega
      · refine q2 F2 ρ1 _ _ e3 (o3.setD hp' hk (kMerge_ok r3 .nil)) (.o hp')
    · exact q2.elim
  · exact q2.elim
end
end EvL
end

section
set_option Elab.async false
set_option linter.all false
set_option maxRecDepth 100000
set_option maxHeartbeats 2000000
/-! E10: the end of a def -/
namespace EvL
open PySem PySem.Spec PyProof.Rows L2
def fnEnd (n : Nat) : Sr → Rs Sv
  | .nx _ m => .ok (.d .non) (m.take n)
  | .rt (.d d) m => .ok (.d d) (m.take n)
  | .rt (.o i) m => if i < n then .ok (.o i) (m.take n) else match m[i]? with
    | some (.lst xs) => .ok (.d (.lst xs)) (m.take n)
    | some (.dic kvs) => .ok (.o (m.take n).length) (m.take n ++ [.dic kvs])
    | _ => .no
  | .ex x _ m => .ex x (m.take n)
  | _ => .no
def start0 (ns : Nat) (xs : List Sv) : En := xs.map some ++ List.replicate (ns - xs.length) none
def fnS (ns np : Nat) (g : SemS) : Fs := fun xs m => if xs.length = np then fnEnd m.length (g (start0 ns xs) m) else .no
theorem ar_fnS {ns np : Nat} {g : SemS} : Ar np (fnS ns np g) := fun xs m h => by unfold fnS; rw [if_neg h]
section
variable {K : PySem.W.Frag} {tb : Tb} {P : Program} {w : World} {mg : Str → Option Value} {gb : Heap}
theorem Wo.cut {F : Hp} {ρ : List Addr} {m : Store} {H : Hp} (o : Wo K tb F ρ m H) (n : Nat) : Wo K tb F (ρ.take n) (m.take n) H := by
  refine ⟨o.sub, by simp [o.len], o.nd.sublist (List.take_sublist _ _), fun i a xs h1 h2 => ?_, fun i a xs h1 h2 => ?_, fun a h => o.has a (List.mem_of_mem_take h)⟩
  · rw [List.getElem?_take] at h1 h2
    split at h1
    · rename_i hi
      rw [if_pos hi] at h2
      exact o.lst i a xs h1 h2
    · cases h1
  · rw [List.getElem?_take] at h1 h2
    split at h1
    · rename_i hi
      rw [if_pos hi] at h2
      exact o.dic i a xs h1 h2
    · cases h1
theorem Wo.one {F : Hp} {ρ : List Addr} {m : Store} {H : Hp} (o : Wo K tb F ρ m H) {n i : Nat} {a : Addr} {kvs : List (Key × Dv)} (hn : n ≤ i) (ha : ρ[i]? = some a) (hm : m[i]? = some (.dic kvs)) : Wo K tb F (ρ.take n ++ [a]) (m.take n ++ [.dic kvs]) H := by
  have c := o.cut n
  obtain ⟨q1, vs, q2, q3⟩ := o.dic i a kvs ha hm
  have na : ∀ b ∈ ρ.take n, b ≠ a := fun b hb => by
    obtain ⟨j, hj⟩ := List.getElem?_of_mem hb
    rw [List.getElem?_take] at hj
    split at hj
    · exact get_nodup o.nd hj ha (by omega)
    · cases hj
  have ln : (ρ.take n).length = (m.take n).length := c.len
  refine ⟨c.sub, by simp [ln], List.nodup_append.mpr ⟨c.nd, by simp, fun b hb b' hb' => by simp at hb'; subst hb'; exact na b hb⟩, fun j b xs h1 h2 => ?_, fun j b xs h1 h2 => ?_, fun b hb => ?_⟩
  · by_cases hj : j < (ρ.take n).length
    · rw [List.getElem?_append_left hj] at h1
      rw [List.getElem?_append_left (by omega)] at h2
      exact c.lst j b xs h1 h2
    · rw [List.getElem?_append_right (by omega)] at h2
      cases h : j - (m.take n).length with
      | zero => rw [h] at h2; simp at h2
      | succ k => rw [h] at h2; simp at h2
  · by_cases hj : j < (ρ.take n).length
    · rw [List.getElem?_append_left hj] at h1
      rw [List.getElem?_append_left (by omega)] at h2
      exact c.dic j b xs h1 h2
    · rw [List.getElem?_append_right (by omega)] at h1
      rw [List.getElem?_append_right (by omega)] at h2
      cases h : j - (m.take n).length with
      | zero =>
        rw [ln, h] at h1
        rw [h] at h2
        simp at h1 h2
        subst h1; subst h2
        exact ⟨q1, vs, q2, q3⟩
      | succ k => rw [h] at h2; simp at h2
  · rcases List.mem_append.mp hb with hb | hb
    · exact c.has b hb
    · simp at hb; subst hb; rw [q2]; simp
theorem pre_take {ρ ρ' : List Addr} (h : ρ <+: ρ') {n : Nat} (hn : ρ.length = n) : ρ'.take n = ρ := by
  obtain ⟨t, rfl⟩ := h
  subst hn
  simp
theorem start_ok {F : Hp} {ρ : List Addr} {N : List Str} : ∀ {xs : List Sv} {vs : List V}, RepSL K tb F ρ xs vs → ∀ k, EnvOk K tb F ρ (xs.map some ++ List.replicate k none) (vs.map some ++ List.replicate k none)
  | _, _, .nil, k => ⟨by simp, fun i x q => by
    simp only [List.map_nil, List.nil_append, List.getElem?_replicate] at q
    split at q <;> cases q⟩
  | _, _, .cons (x := y) (v := u) h t, k => by
    have ih := start_ok (N := N) t k
    refine ⟨by simpa using ih.len, fun i x q => ?_⟩
    cases i with
    | zero =>
      simp at q
      subst q
      exact ⟨u, by simp, h⟩
    | succ i => exact ih.at_ i x (by simpa using q)
theorem fnE {x qual : Str} {st : Stmt} {f : Addr} {fd : FuncData} {N ps : List Str} {k : Nat} {g : SemS} (F : Fun K x qual st f fd) (S : FnScope N ps (defScope st))
    (body : ∀ (cdv : Value) (A : Around) (up : List Env) (s : Shared) (H : Hp) (E : XK), Room k (A.deeper (envOfC qual (defScope st) s.heap.objs.size f cdv)) → A.guards = some [] →
      ∀ W : WX, Takes (cxOf (L2.CX P w) P w K mg gb N qual (defScope st) f cdv A up s H E) W → RSs (cxOf (L2.CX P w) P w K mg gb N qual (defScope st) f cdv A up s H E) tb W (defBody st) g) :
    FnG P w K mg gb (k + 1) f fd ps (spE K tb ps.length (fnS N.length ps.length g)) := by
  refine fnG_of F S (fun vs H Q E q => q.1) fun cdv A up s H vs Q E hr hg q => ?_
  have tk : Takes (cxOf (L2.CX P w) P w K mg gb N qual (defScope st) f cdv A up s H E) (fun cls d _ H => E cls d H) := takes_of rfl rfl rfl rfl
  refine ⟨_, body cdv A up s H E hr hg _ tk, ?_⟩
  obtain ⟨hl, F0, ρ, xs, m, r, o, q⟩ := q
  refine ⟨F0, ρ, start0 N.length xs, m, ?_, o, ?_⟩
  · unfold start0 L2.start
    rw [r.length]
    exact start_ok (N := N) r _
  · unfold fnS at q
    rw [if_pos (by rw [r.length]; exact hl)] at q
    have hlen : ρ.length = m.length := o.len
    cases e : g (start0 N.length xs) m with
    | nx en m1 =>
      rw [e] at q
      intro F' ρ' σ' H' ex he ho
      have c := ho.cut m.length
      rw [pre_take ex.pre hlen] at c
      exact q F' ρ H' .non ⟨ex.le, List.prefix_refl _⟩ c (.d .non)
    | rt y m1 =>
      rw [e] at q
      intro F' ρ' H' v ex ho r'
      have c := ho.cut m.length
      rw [pre_take ex.pre hlen] at c
      cases r' with
      | d r' => exact q F' ρ H' v ⟨ex.le, List.prefix_refl _⟩ c (.d r')
      | @o i a ha =>
        unfold fnEnd at q
        dsimp only at q
        by_cases hi : i < m.length
        · rw [if_pos hi] at q
          have ha' : ρ[i]? = some a := by
            rw [← pre_take ex.pre hlen, List.getElem?_take, if_pos hi]
            exact ha
          exact q F' ρ H' _ ⟨ex.le, List.prefix_refl _⟩ c (.o ha')
        · rw [if_neg hi] at q
          cases em : m1[i]? with
          | none => rw [em] at q; exact q.elim
          | some so => cases so with
            | gone => rw [em] at q; exact q.elim
            | lst ys =>
              rw [em] at q
              obtain ⟨q1, ws, q2, q3⟩ := ho.lst i a ys ha em
              obtain ⟨o', ex'⟩ := ho.gone ha q1 q2
              have c' := o'.cut m.length
              rw [pre_take ex.pre hlen] at c'
              have e1 : (m1.set i .gone).take m.length = m1.take m.length := by
                apply List.ext_getElem?
                intro j
                rw [List.getElem?_take, List.getElem?_take]
                split
                · rw [List.getElem?_set_ne (by omega)]
                · rfl
              rw [e1] at c'
              exact q _ ρ H' _ ⟨ex.le.trans ex'.le, List.prefix_refl _⟩ c' (.d (.lst upd_same (q3.mono ex'.le)))
            | dic ys =>
              rw [em] at q
              have c' := ho.one (Nat.le_of_not_lt hi) ha em
              rw [pre_take ex.pre hlen] at c'
              have ln : ρ.length = (m1.take m.length).length := c.len
              exact q F' (ρ ++ [a]) H' _ ⟨ex.le, List.prefix_append _ _⟩ c' (.o (by rw [← ln]; simp))
    | bk _ _ => rw [e] at q; exact q.elim
    | ct _ _ => rw [e] at q; exact q.elim
    | no => rw [e] at q; exact q.elim
    | ex y en m1 =>
      rw [e] at q
      intro F' ρ' σ' H' c d ex he ho xr
      have c' := ho.cut m.length
      rw [pre_take ex.pre hlen] at c'
      exact q F' ρ H' c d ⟨ex.le, List.prefix_refl _⟩ c' xr
end
end EvL
end

section
set_option Elab.async false
set_option linter.all false
set_option maxRecDepth 100000
set_option maxHeartbeats 2000000
/-! E11: an own error whose __init__ says super().__init__(f'..{v!r}') and keeps v -/
namespace PySem
namespace EvX
open PySem.W PySem.Calls PyProof.Rows PySem.HandSPX
/-- the text of such an __init__ -/
def eArgs (f : Str) (p1 p2 : Pos) : Arguments := { posonlyargs := [], args := [{ arg := "self", annotation := none, pos := p1 }, { arg := f, annotation := none, pos := p2 }], vararg := none, kwonlyargs := [], kw_defaults := [], kwarg := none, defaults := [] }
def eMsg (pref f : Str) (j : Nat) (q4 q5 q6 q7 : Pos) : Expr := .JoinedStr [.Constant (.str pref) j q4, .FormattedValue (.Name f q5) 114 none q6] q7
def eBody (pref f : Str) (j : Nat) (q1 q2 q3 q4 q5 q6 q7 q8 q9 q10 q11 q12 q13 : Pos) : List Stmt :=
  [.Expr (.Call (.Attribute (.Call (.Name "super" q1) [] [] q2) "__init__" q3) [eMsg pref f j q4 q5 q6 q7] [] q8) q9, .Assign [.Attribute (.Name "self" q10) f q11] (.Name f q12) q13]
def eScope (f : Str) : Scope := { kind := .function, names := [(PySem.Str.ofString "self", .local), (f, .local), (PySem.Str.ofString "__class__", .free), (PySem.Str.ofString "super", .globalImplicit)], isGenerator := false, isCoroutine := false, more := [] }
/-- a name of a field -/
def okF (f : Str) : Bool := !(f == ("self" : Str)) && !(f == ("__class__" : Str)) && !(f == ("super" : Str)) && !(f == ("__debug__" : Str)) && !(f == ("__classdict__" : Str))
/-- what the written part says of the class x at C, of its __init__ at fI -/
structure ErrTxt (P : Program) (K : Frag) (mg : Str → Option Value) (x f pref : Str) (C fI : Addr) : Prop where
  gC : mg x = some (.ref C)
  cls : ∃ nm q N bs bm sn sub ab col dd k0 k1 k2 k3 k5, K.lookup C = some (excClassObj nm q C N bs bm true sn sub ab col dd k0 k1 k2 k3 k5 "ValueError.__new__") ∧ refsVE bm = true
  sa : findIn K (.ref C) "__setattr__" = some (some (.builtin "object.__setattr__"))
  noN : findIn K (.ref C) f = some none
  iC : findIn K (.ref C) "__init__" = some (some (.ref fI))
  tC : typeIn K (.ref fI) = some (.type "function")
  kC : keepIn K (.ref C) = true
  exC : subIn K (.ref C) (.type "BaseException") = some true
  veC : subIn K (.ref C) (.type "ValueError") = some true
  tyC : typeIn K (.ref C) = some (.type "type")
  su : ks_superIn K C C "__init__" = some (some (.builtin "ValueError.__init__"))
  op : nsIn K cStatics "thirdparty.any" = some none
  mr : mroIn K C (.ref C) = some true
  fn : ∃ (oc : Value) (od : Option Addr) (qual : Str) (doc pm kV : Value) (an : Option Addr) (ct : Value) (osl : Array (Option Value)) (cda cc : Addr) (j : Nat) (p1 p2 q1 q2 q3 q4 q5 q6 q7 q8 q9 q10 q11 q12 q13 : Pos),
    K.lookup fI = some ⟨oc, od, .func (fnX "__init__" qual (eArgs f p1 p2) (eBody pref f j q1 q2 q3 q4 q5 q6 q7 q8 q9 q10 q11 q12 q13) (eScope f) [("__class__", cc)] .none kV doc pm an (.ref cda) ct), osl⟩ ∧ (q3.endLine == q8.line) = true ∧ (∀ a b : Value, bindArgs (fnX "__init__" qual (eArgs f p1 p2) (eBody pref f j q1 q2 q3 q4 q5 q6 q7 q8 q9 q10 q11 q12 q13) (eScope f) [("__class__", cc)] .none kV doc pm an (.ref cda) ct) ⟨[a, b], []⟩ = (pure [(("self" : Str), a), (f, b)] : Sem (List (Str × Value)))) ∧ codeIn K (.ref cda) qual = true ∧
    (∃ ccl cdd vs ccs file tf, K.lookup cda = some ⟨ccl, cdd, .fields vs, ccs⟩ ∧ vs[2]? = some (.str file tf) ∧ ((P.main.file : Str) == file) = true) ∧ (∃ cl cld csl, K.lookup cc = some ⟨cl, cld, .cell (some (.ref C)), csl⟩)
  sp : mg "super" = none
  top : (P.main.scope.names.lookup ("super" : Str)).isSome = false
  okf : okF f = true
  hp : pref.length ≤ 1000
/-- the text of a value -/
def Shows (P : Program) (w : World) (h₀ : Heap) (v : Value) (y : Str) (n : Nat) : Prop := ∀ (A : Around) (s : Shared) (Q : Value → Shared → Prop) (E : Value → Shared → Prop), A.guards = some [] → A.units + n < cLine → (∀ b o, h₀.get? b = some o → s.heap.get? b = some o) →
  (∀ h' u tk, (∀ b o, s.heap.get? b = some o → h'.get? b = some o) → Q (.str y u) { s with heap := h', toks := tk }) → wpAny (model P w) A (pyReprObj v) Q E s
structure InitEnd (h h' : Heap) (x C dx t1 : Addr) (f : Str) (v : Value) : Prop where
  keep : ∀ b o, b ≠ x → h.get? b = some o → h'.get? b = some o
  obj : h'.get? x = some { cls := .ref C, dict := some dx, data := .fields #[.ref t1, .none, .none, .none, .bool false, .none] }
  dbig : h.objs.size ≤ dx
  dne : dx ≠ x
  ns : h'.Ns1 dx (fun y => if y = f then some v else none)
section
variable {P : Program} {w : World} {A : Around} {E : Value → Shared → Prop} {R : Result → Shared → Prop} {s : Shared} {K : Frag} {mg mb : Str → Option Value} {C fI : Addr} {x f pref : Str}
theorem kind_f {f qual : Str} {L a : Addr} {cd : Value} {cl : List (Str × Addr)} (ok : okF f = true) : (envX qual (eScope f) L a cd cl).kindOf f = some .local ∧ (envX qual (eScope f) L a cd cl).kindOf "self" = some .local ∧ (envX qual (eScope f) L a cd cl).kindOf "__class__" = some .free ∧ (envX qual (eScope f) L a cd cl).kindOf "super" = some .globalImplicit := by
  unfold okF at ok
  simp only [Bool.and_eq_true, Bool.not_eq_true'] at ok
  obtain ⟨⟨⟨⟨h1, h2⟩, h3⟩, h4⟩, h5⟩ := ok
  have h1' : f ≠ ("self" : Str) := by simpa using h1
  have h2' : f ≠ ("__class__" : Str) := by simpa using h2
  have h3' : f ≠ ("super" : Str) := by simpa using h3
  have e1 : (("self" : Str) == ("__class__" : Str)) = false := by decide
  have e2 : (("super" : Str) == ("self" : Str)) = false := by decide
  have e3 : (("super" : Str) == ("__class__" : Str)) = false := by decide
  have e4 : (("__class__" : Str) == ("self" : Str)) = false := by decide
  refine ⟨?_, ?_, ?_, ?_⟩
  · show List.lookup f _ = _
    simp [eScope, List.lookup, h1]
  · rfl
  · show List.lookup _ _ = _
    have : (("__class__" : Str) == f) = false := by simpa using Ne.symm h2'
    simp [eScope, List.lookup, e4, this]
  · show List.lookup _ _ = _
    have : (("super" : Str) == f) = false := by simpa using Ne.symm h3'
    simp [eScope, List.lookup, e2, e3, this]
theorem call_mw {h : Heap} {g : Array GenState} {d : Drawn} {t : Nat} {os : OsState} {nm q : Str} {N : Addr} {bs bm : List Value} {hdct : Bool} {sn : List Str} {sub : List Value} {ab : Bool} {col : Option Bool} {dd : Option Addr} {k0 k1 k2 k3 k5 : Option Value} {u e t0 : Addr} {m : Value} {Q : Value → Shared → Prop}
    (hC : h.get? C = some (excClassObj nm q C N bs bm hdct sn sub ab col dd k0 k1 k2 k3 k5 "ValueError.__new__")) (he : h.get? e = some (excO C t0)) (hu : h.get? u = some (kxs_mw "ValueError.__init__" e))
    (hq : ∀ h' t1, (∀ b o, b ≠ e → h.get? b = some o → h'.get? b = some o) → h'.get? e = some (excO C t1) → Q .none ⟨h', g, d, t, os⟩) : wpAny (model P w) A (call (.ref u) [m]) Q E ⟨h, g, d, t, os⟩ := by
  have FB := F.excBase_ValueError
  refine wpAny_call (codeAny_of_tree ?_)
  show wpAny _ A.in1 (callAny (.ref u) ⟨[m], []⟩) _ _ _
  unfold callAny
  refine wpAny_bind (wpAny_load hu ?_)
  have z : (Value.type "method-wrapper" == Value.type "method" || Value.type "method-wrapper" == Value.type "builtin_function_or_method" || Value.type "method-wrapper" == Value.type "method-wrapper") = true := by decide
  simp only [kxs_mw, z, if_true]
  refine KFB.if_so (by decide) (wpAny_bind (check_bound_init FB.toExcCallFacts hC he rfl (wpAny_bind (wpAny_pure (wpAny_pure ?_)))))
  refine ⟨plainId_quiet FB.init.plain _, codeAny_builtin FB.initEntry ?_⟩
  exact exc_init_tree (cls := .ref C) (t0 := t0) (dv := none) (c2 := .none) (c3 := .none) (b4 := .bool false) he (by rw [sizeLine_eq]; exact (by decide : (1 : Nat) ≤ 16777216)) fun h' a1 a2 _ => hq h' _ a1 a2
theorem loc_ev {M : Model} {env : Env} {y : Str} {m : Str → Option Value} {p : Pos} {v : Value} {Q : Value → Shared → Prop} (hk : env.scope.kind = .function) (hl : env.kindOf y = some .local) (hn : s.heap.Ns env.locals m) (hv : m y = some v) (hd : (y == ("__debug__" : Str)) = false) (h : Q v s) : wpAny M A (eval (.Name y p) env) Q E s :=
  wpAny_Name (wpAny_loadName_local hk hl hn hv h) hd
theorem kf_deb (ok : okF f = true) : (f == ("__debug__" : Str)) = false := by
  unfold okF at ok
  simp only [Bool.and_eq_true, Bool.not_eq_true'] at ok
  exact ok.1.2
theorem kf_self (ok : okF f = true) : (f == ("self" : Str)) = false := by
  unfold okF at ok
  simp only [Bool.and_eq_true, Bool.not_eq_true'] at ok
  exact ok.1.1.1.1
/-- the message -/
theorem msg_ev {env : Env} {m : Str → Option Value} {j n : Nat} {q4 q5 q6 q7 : Pos} {v : Value} {y : Str} {h₀ : Heap} {Q : Value → Shared → Prop} (hk : env.scope.kind = .function) (hl : env.kindOf f = some .local) (hn : s.heap.Ns env.locals m) (hv : m f = some v) (hd : (f == ("__debug__" : Str)) = false)
    (sh : Shows P w h₀ v y n) (hg : A.guards = some []) (hu : A.units + n < cLine) (k0 : ∀ b o, h₀.get? b = some o → s.heap.get? b = some o) (hp : pref.length ≤ 1000) (hy : y.length ≤ 1000000)
    (h : ∀ h' tk u, (∀ b o, s.heap.get? b = some o → h'.get? b = some o) → Q (.str (Str.empty ++ pref ++ y) u) { s with heap := h', toks := tk }) : wpAny (model P w) A (eval (eMsg pref f j q4 q5 q6 q7) env) Q E s := by
  have zp : (Str.empty ++ pref).length ≤ 1000 := by rw [strLen_append]; have z : Str.empty.length = 0 := rfl; omega
  have zy : (Str.empty ++ pref ++ y).length ≤ sizeLine := by rw [strLen_append, sizeLine_eq]; omega
  refine wpAny_JoinedStr ?_
  have e1 : evalEach [Expr.Constant (.str pref) j q4, Expr.FormattedValue (.Name f q5) 114 none q6] env = [eval (.Constant (.str pref) j q4) env, eval (.FormattedValue (.Name f q5) 114 none q6) env] := by first | rfl | simp [evalEach]
  rw [e1]
  show wpAny _ _ _ _ _ _
  refine Constant_str ⟨pref, s.toks, rfl, by rw [sizeLine_eq]; omega, ?_⟩
  show wpAny _ _ _ _ _ _
  refine wpAny_FormattedValue_repr (loc_ev hk hl hn hv hd (sh A _ _ _ hg hu k0 fun h' u tk kk => ?_))
  have zy' : y.length ≤ sizeLine := by rw [sizeLine_eq]; omega
  exact wpAny_formatField_str ⟨y, u, rfl, zy, zy, h h' _ _ kk⟩ ⟨y, tk, rfl, zy, zy, h h' _ _ kk⟩ zy'
/-- __init__ runs -/
theorem err_init (T : ErrTxt P K mg x f pref C fI) {h₀ : Heap} {e t0 : Addr} {v : Value} {y : Str} {n : Nat} (X : K.In s.heap) (hlim : s.heap.NoLimit) (G : s.heap.Ns mainGlobals mg) (Gb : s.heap.Ns builtinsNs mb) (hb : mb "super" = some (.type "super")) (he : s.heap.get? e = some (excO C t0)) (hne : K.lookup e = none)
    (hroom : A.depth < recursionLimit) (hg : A.guards = some []) (hu : A.units + n + 10 < cLine) (sh : Shows P w h₀ v y n) (k0 : ∀ b o, h₀.get? b = some o → s.heap.get? b = some o) (hy : y.length ≤ 1000000)
    (hq : ∀ h' tk dx t1, InitEnd s.heap h' e C dx t1 f v → R (.ok (.ret .none)) { s with heap := h', toks := tk }) :
    codeAny (model P w) A (.call (.ref fI) ⟨[.ref e, v], []⟩) R s := by
  obtain ⟨oc, od, qual, doc, pm, kV, an, ct, osl, cda, cc, j, p1, p2, q1, q2, q3, q4, q5, q6, q7, q8, q9, q10, q11, q12, q13, ho, hln, hbn, hcd, ⟨ccl, cdd, vs, ccs, file, tf, hcode, hvs, hfile⟩, ⟨cl, cld, csl, hcell⟩⟩ := T.fn
  obtain ⟨nm, q, N, bs, bm, sn, sub, ab, col, dd, k0', k1, k2, k3, k5, hC, hbm⟩ := T.cls
  have hcl : clsIn K C = some { name := nm, bases := bs, mro := .ref C :: bm, ns := N, qualname := q, hasDict := true, slotNames := sn, subclasses := sub, abstract := ab, collection := col, hasDel := false } := by unfold clsIn; rw [hC] <;> rfl
  have nf := kf_self T.okf
  have nf' : ("self" : Str) ≠ f := fun z => by rw [← z] at nf; cases nf
  refine ks_codeAny_call_defAt (binds := [(("self" : Str), Value.ref e), (f, v)]) hroom (X _ _ ho) rfl hlim (codeRec_of X hcd) rfl (BindsTo.of_eq (hbn _ _)) ?_ ?_ (fun h₁ hns kk => ?_) rfl rfl rfl
  · intro z hz
    simp only [eScope, List.mem_cons, List.not_mem_nil, or_false] at hz
    rcases hz with rfl | rfl | rfl | rfl <;> simp
  · intro z hz
    obtain ⟨w1, w2, _⟩ := kind_f (f := f) (qual := qual) (L := 0) (a := 0) (cd := .none) (cl := []) T.okf
    simp only [List.mem_cons, List.not_mem_nil, or_false] at hz
    rcases hz with rfl | rfl
    · exact w2
    · exact w1
  obtain ⟨w1, w2, w3, w4⟩ := kind_f (f := f) (qual := qual) (L := s.heap.objs.size) (a := fI) (cd := .ref cda) (cl := [("__class__", cc)]) T.okf
  have X1 : K.In h₁ := X.keeps kk
  have hC1 := X1 _ _ hC
  have he1 := kk _ _ he
  have eC : e ≠ C := fun z => by rw [z, hC] at hne; cases hne
  have eL : s.heap.objs.size ≠ e := Nat.ne_of_gt (Heap.lt_size he)
  have ms : ([(("self" : Str), Value.ref e), (f, v)].reverse).lookup ("self" : Str) = some (.ref e) := by
    have : (("self" : Str) == f) = false := by simpa using nf'
    simp [List.lookup, this]
  have mf : ([(("self" : Str), Value.ref e), (f, v)].reverse).lookup f = some v := by simp [List.lookup]
  have nsK : ∀ {h' : Heap}, (∀ b o, b ≠ e → h₁.get? b = some o → h'.get? b = some o) → h'.Ns s.heap.objs.size (fun y => [(("self" : Str), Value.ref e), (f, v)].reverse.lookup y) := fun {h'} k => by
    obtain ⟨oL, es, ep, hL, r⟩ := hns
    exact ⟨oL, es, ep, k _ _ eL hL, r⟩
  refine ks_wpAt_execs_cons (ks_wpAt_Expr_any (ks_wpAt_MethodCall (pl := L2.plainOf (.Call (.Name "super" q1) [] [] q2) (envX qual (eScope f) s.heap.objs.size fI (.ref cda) [("__class__", cc)])) ?_ ?_))
  rotate_left
  · rw [arm_eval_Call]
    refine congrArg _ (funext fun ov => ?_)
    refine congrArg _ (funext fun _ => ?_)
    exact L2.mcall_line (by rfl) hln
  refine ks_wpAt_super_base (env := envX qual (eScope f) s.heap.objs.size fI (.ref cda) [("__class__", cc)]) w4 w3 (by decide) rfl (X1 _ _ ho) rfl rfl rfl (X1 _ _ hcode) rfl hvs hfile T.top ?_
  refine ks_loadName_global rfl w4 (loadGlobal_builtin (env := envX qual (eScope f) s.heap.objs.size fI (.ref cda) [("__class__", cc)]) (G.keeps kk) T.sp (Gb.keeps kk) hb ⟨rfl, ?_⟩)
  refine wpAny_loadName_free rfl w3 rfl ⟨_, X1 _ _ hcell, rfl⟩ ?_
  refine wpAny_loadName_local rfl w2 hns ms ?_
  refine ks_wpAny_isType_cls hC1 rfl ⟨rfl, ?_⟩
  refine ks_wpAny_call_super hC1 rfl he1 rfl (fun c z => by cases z) (looks_mroIn X1 T.mr) fun h2 eso k2 => ?_
  have X2 : K.In h2 := X1.keeps k2
  have he2 := k2 _ _ he1
  have I2 : InstAt h2 e (excO C t0) C none := ⟨he2, rfl, rfl, trivial⟩
  have su := T.su
  unfold ks_superIn at su
  rw [hcl] at su
  refine kxs_getMethod kxs_ValueError eso (looks_opaque X2 T.op) (fun A Q E s k q => wpAny_bind ((looks_clsIn X2 hcl) A _ E s k (wpAny_pure q))) rfl X2 su (I2.type.andThen (looks_subIn X2 T.veC)) eC (by decide) ?_
  have k3 : ∀ b o, h2.get? b = some o → (h2.push (kxs_mw "ValueError.__init__" e)).get? b = some o := fun b o z => Heap.get?_push_of_some _ z
  have hu3 : (h2.push (kxs_mw "ValueError.__init__" e)).get? h2.objs.size = some (kxs_mw "ValueError.__init__" e) := Heap.get?_push_at rfl rfl
  show wpAny _ _ (callWith _ _ _ _ _) _ _ _
  refine kxs_callWith (i := "ValueError.__init__") (x := e) (by rfl) (evalArgs_plain ?_)
  show wpAny _ _ (spliced ((false, _) :: [])) _ _ _
  refine spliced_cons (msg_ev (y := y) (q7 := q7) rfl w1 (nsK fun b o _ z => k3 _ _ (k2 _ _ z)) mf (kf_deb T.okf) sh hg (by show A.units + 3 + n < cLine; omega) (fun b o z => k3 _ _ (k2 _ _ (kk _ _ (k0 b o z)))) T.hp hy fun h4 tk4 u4 k4 => spliced_nil ?_)
  have keepA : ∀ b o, h₁.get? b = some o → h4.get? b = some o := fun b o z => k4 _ _ (k3 _ _ (k2 _ _ z))
  have hu4 := k4 _ _ hu3
  refine ⟨hu4, ?_⟩
  refine call_mw (keepA _ _ hC1) (keepA _ _ he1) hu4 fun h5 t1 k5' he5 => ?_
  have keepB : ∀ b o, b ≠ e → h₁.get? b = some o → h5.get? b = some o := fun b o hb z => k5' _ _ hb (keepA _ _ z)
  have keepS : ∀ b o, b ≠ e → s.heap.get? b = some o → h5.get? b = some o := fun b o hb z => keepB _ _ hb (kk _ _ z)
  have X5 : K.In h5 := fun a o z => keepB a o (fun q => by rw [q, hne] at z; cases z) (X1 a o z)
  have ns5 := nsK keepB
  show wpAt _ _ _ _ _ _ _
  refine wpAt_of_wpAny (wpAny_execs_cons (plainObj_wpAny_Assign_Attribute ?_))
  refine loc_ev rfl w1 ns5 mf (kf_deb T.okf) (loc_ev rfl w2 ns5 ms (by decide) ?_)
  refine set_plain X5 (ox := excO C t1) (od := none) ⟨he5, rfl, rfl, trivial⟩ T.sa ?_
  refine exc_osa X5 he5 hcl (show refsVE (.ref C :: bm) = true from hbm) rfl T.noN fun h6 tk6 dx k6 dn dne hx6 hn6 => ?_
  show wpAny _ _ (execs _ _) _ _ _
  refine wpAny_execs_nil (hq h6 tk6 dx t1 ⟨fun b o hb z => k6 b o hb (keepS b o hb z), hx6, ?_, dne, hn6⟩)
  exact Nat.le_of_lt (Nat.lt_of_lt_of_le ns5.lt dn)
end
end EvX
end PySem
end

section
set_option Elab.async false
set_option linter.all false
set_option maxRecDepth 100000
set_option maxHeartbeats 2000000
/-! E12: raise -/
namespace PySem
namespace EvX
open PySem.W PySem.Calls PyProof.Rows PySem.HandSPX
theorem shows_of {P : Program} {w : World} {h₀ : Heap} {v : Value} {d : PyData} {as : List Addr} (r : Reads h₀ v d as) (hs : d.showable = true) (hd : d.hasDict = false) (hsz : d.shown.length ≤ 1000000) : Shows P w h₀ v d.shown (d.depth + 1) := by
  intro A s Q E hg hu k0 hq
  have hz : d.shown.length ≤ sizeLine := by rw [sizeLine_eq]; omega
  cases v with
  | ref a => exact pyReprObj_of_reads r hs (fun z => by rw [hd] at z; cases z) hg (by omega) k0 (fun h' u tk k => hq h' u tk k) hz
  | none => cases r; exact pyReprObj_none (hq _ _ _ fun _ _ z => z)
  | bool b => cases r; exact pyReprObj_bool (by cases b <;> exact hq _ _ _ fun _ _ z => z)
  | int i t =>
    cases r
    refine pyReprObj_int (by simpa [PyData.showable] using hs) ?_
    exact hq _ _ _ fun _ _ z => z
  | str x t => cases r; exact pyReprObj_str (hq _ _ _ fun _ _ z => z) hz
  | _ => cases r
structure Made (h h' : Heap) (e C d : Addr) (f : Str) (v : Value) : Prop where
  keep : ∀ b o, h.get? b = some o → h'.get? b = some o
  new : h.objs.size ≤ e
  obj : ∃ oe vs, h'.get? e = some oe ∧ oe.cls = .ref C ∧ oe.dict = some d ∧ oe.data = .fields vs ∧ vs[1]? = some .none
  dbig : h.objs.size ≤ d
  dne : d ≠ e
  ns : h'.Ns1 d (fun y => if y = f then some v else none)
section
variable {P : Program} {w : World} {A : Around} {E : Value → Shared → Prop} {R : Result → Shared → Prop} {s : Shared} {K : Frag} {mg mb : Str → Option Value} {C fI : Addr} {x f pref : Str}
theorem err_made (T : ErrTxt P K mg x f pref C fI) {v : Value} {y : Str} {n : Nat} (X : K.In s.heap) (hlim : s.heap.NoLimit) (G : s.heap.Ns mainGlobals mg) (Gb : s.heap.Ns builtinsNs mb) (hb : mb "super" = some (.type "super"))
    (hroom : A.depth + 1 < recursionLimit) (hg : A.guards = some []) (hu : A.units + n + 20 < cLine) (sh : Shows P w s.heap v y n) (hy : y.length ≤ 1000000)
    (hq : ∀ h' tk e d, Made s.heap h' e C d f v → R (.ok (.ret (.ref e))) { s with heap := h', toks := tk }) :
    codeAny (model P w) A (.call (.ref C) ⟨[v], []⟩) R s := by
  obtain ⟨nm, q, N, bs, bm, sn, sub, ab, col, dd, k0, k1, k2, k3, k5, hC, hbm⟩ := T.cls
  obtain ⟨hp, g, dr, tk, os⟩ := s
  have k : ∀ b o, hp.get? b = some o → ((hp.push (kdv_tup [v])).push (excO C hp.objs.size)).get? b = some o := fun b o e => Heap.get?_push_of_some _ (Heap.get?_push_of_some _ e)
  have hget : ((hp.push (kdv_tup [v])).push (excO C hp.objs.size)).get? (hp.objs.size + 1) = some (excO C hp.objs.size) := by heap_get
  have hnx : K.lookup (hp.objs.size + 1) = none := by
    cases e : K.lookup (hp.objs.size + 1) with
    | none => rfl
    | some o => exact absurd (Nat.lt_of_succ_lt (Heap.lt_size (show hp.get? (hp.objs.size + 1) = some o from X _ _ e))) (Nat.lt_irrefl _)
  refine call_own F.excBase_ValueError (fun X => refsVE_contains X bm hbm) (X _ _ hC) (looks_findIn X T.iC) (fun self => bind_fn X self T.tC) (by show 1 ≤ sizeLine; rw [sizeLine_eq]; decide) ?_
  refine err_init (s := ⟨(hp.push (kdv_tup [v])).push (excO C hp.objs.size), g, dr, tk, os⟩) (h₀ := hp) T (X.keeps k) (hlim.keeps k) (G.keeps k) (Gb.keeps k) hb hget hnx ?_ ?_ ?_ sh k hy fun h' tk' dx t1 ⟨k', hx, dn, dne, hns⟩ => ?_
  · exact hroom
  · exact hg
  · have z : (Code.builtin "type.__call__" ⟨[Value.ref C, v], []⟩).cUnits ≤ 4 := by
      first
        | exact Nat.le_of_eq (show _ = 4 by rfl)
        | exact Nat.le_trans (Nat.le_of_eq (show _ = 1 by rfl)) (by decide)
    show A.units + (Code.builtin "type.__call__" ⟨[Value.ref C, v], []⟩).cUnits + n + 10 < cLine
    omega
  · have old : ∀ b o, hp.get? b = some o → h'.get? b = some o := fun b o e => k' b o (Nat.ne_of_lt (Nat.lt_succ_of_lt (Heap.lt_size e))) (k b o e)
    have z : hp.objs.size + 1 + 1 ≤ dx := by
      have q := dn
      rw [Heap.size_push, Heap.size_push] at q
      exact q
    exact ⟨rfl, hq h' tk' (hp.objs.size + 1) dx ⟨old, Nat.le_succ _, ⟨_, _, hx, rfl, rfl, rfl, rfl⟩, Nat.le_trans (Nat.le_trans (Nat.le_succ _) (Nat.le_succ _)) z, dne, hns⟩⟩
end
end EvX
end PySem
namespace EvL
open PySem PySem.Spec PyProof.Rows L2
/-- data whose repr is told -/
def showOk (d : Dv) : Bool := good d && (cv d).showable && !(cv d).hasDict && decide ((cv d).shown.length ≤ 1000000) && decide ((cv d).depth ≤ 100)
theorem showOk_iff {d : Dv} (h : showOk d = true) : flat d = true ∧ (cv d).showable = true ∧ (cv d).hasDict = false ∧ (cv d).shown.length ≤ 1000000 ∧ (cv d).depth ≤ 100 := by
  unfold showOk good at h
  simp only [Bool.and_eq_true, Bool.not_eq_true', decide_eq_true_eq] at h
  exact ⟨h.1.1.1.1.1, h.1.1.1.2, h.1.1.2, h.1.2, h.2⟩
theorem relO_one {v : V} {v' : Value} (r : RelV v v') (f g : Str) : RelO (List.lookup g [(f, v)]) (if g = f then some v' else none) := by
  by_cases h : g = f
  · subst h
    rw [if_pos rfl]
    have q : List.lookup g [(g, v)] = some v := by simp [List.lookup]
    rw [q]
    exact r
  · rw [if_neg h]
    have q : (g == f) = false := by simpa using h
    have q2 : List.lookup g [(f, v)] = none := by simp [List.lookup, q]
    rw [q2]
    trivial
section
variable {K : PySem.W.Frag} {tb : Tb} {W : WX} {X : Cx} {a : Expr} {fa : Sem1} {k ci : Nat} {C fI : Addr} {x f pref : Str} {p pos pos2 p2 : Pos} {j : Nat}
/-- x(e) -/
def tMkE (K : PySem.W.Frag) (C : Addr) (f : Str) (ta : TA) : L2.St → Hp → XK → Prop := fun σ H Q => ta σ H fun vs H1 => ∃ (v : V) (d : PyData), vs = [v] ∧ Dp K H1 v d ∧ d.showable = true ∧ d.hasDict = false ∧ d.shown.length ≤ 1000000 ∧ d.depth ≤ 100 ∧ ∀ dd, H1 dd = none → Q (.ref C) (some dd) (upd H1 dd (.xd [(f, v)]))
theorem pmk_err {ta : TA} (T : PySem.EvX.ErrTxt X.prog X.K X.mg x f pref C fI) (hr : Room k X.A) (hgu : X.A.guards = some []) (ha : PA X [a] ta) (hg : Gl X x) (hdb : (x == ("__debug__" : Str)) = false := by decide)
    (he : starEach (a :: []) X.env = (false, eval a X.env) :: starEach [] X.env := by rfl) (hpl : (backTo pos (starEach [] X.env)).any (·.1) = false := by rfl) : PMk X (.Call (.Name x p) [a] [] pos) (tMkE X.K C f ta) := by
  intro pins s σ H Q I h
  refine wpAny_Call_Name_kw (ld_glob I hg T.gC ?_ hdb)
  refine PySem.W.callWith_K (h₀ := X.base) I.ok.mod.kin T.kC (thn (ha.run pos pins s σ H _ I h) fun us s1 hh => ?_) he hpl
  obtain ⟨vs, H1, I1, r1, v, d, ev, dp, z1, z2, z3, z4, q1⟩ := hh
  subst ev
  refine ⟨I1.kIn, ?_⟩
  cases r1 with
  | cons rv rn =>
    rename_i v' us'
    cases rn
    show wpAny _ _ (call (.ref C) [v']) _ _ _
    obtain ⟨as, rds⟩ := Dp.reads I1 d v v' dp rv
    obtain ⟨mb, hmb, hbb⟩ := I1.ok.mod.blt
    have kb : ∀ b o, X.base.get? b = some o → s1.heap.get? b = some o := fun b o e => (I1.env0.bs b o e).1
    have hlim := I1.nolimit
    obtain ⟨hp, g, dr, tk, os⟩ := s1
    refine wpAny_call (PySem.EvX.err_made (n := d.depth + 1) T I1.kIn hlim (I1.ok.mod.glob.keeps kb) (hmb.keeps kb) ((hbb _ (by decide)).trans (by kernel_rfl)) (by have := hr.dp; omega) hgu (by have := hr.un; omega) (PySem.EvX.shows_of rds z1 z2 z3) z3 fun h' tk' e d M => ?_)
    show MkP X pins σ Q (.ref e) ⟨h', g, dr, tk', os⟩
    obtain ⟨oe, fv, hoe, hc, hd, hdat, h1⟩ := M.obj
    have hns := M.ns
    obtain ⟨G', g1, g2⟩ := restrict h' fun b => decide (b ≠ e)
    have gk : ∀ b, b ≠ e → G'.get? b = h'.get? b := fun b hb => g1 b (decide_eq_true hb)
    have ge : G'.get? e = none := g2 e (by simp)
    have old : ∀ b o, hp.get? b = some o → G'.get? b = some o := fun b o q => (gk b (Nat.ne_of_lt (Nat.lt_of_lt_of_le (Heap.lt_size q) M.new))).trans (M.keep b o q)
    have ob : ObjOk X.prog X.w (upd H1 d (.xd [(f, v)])) G' d (.xd [(f, v)]) := ⟨_, hns.at (fun o q => (gk d M.dne).trans q), fun y => relO_one rv f y⟩
    have J : Inv X pins σ (upd H1 d (.xd [(f, v)])) ⟨G', g, dr, tk', os⟩ := I1.laid (t' := tk') old M.dbig ob
    refine ⟨e, oe, fv, ⟨G', g, dr, tk', os⟩, _, .ref C, some d, rfl, J, fun b o q => ?_, ge, hoe, ⟨hc, hd⟩, hdat, h1, ?_, rfl, I1.bare, raises_own T.exC T.tyC, q1 d (I1.hok.fresh M.dbig)⟩
    · by_cases hb : b = e
      · have q' : G'.get? b = some o := q
        rw [hb, ge] at q'; cases q'
      · exact (gk b hb).symm.trans q
    · rw [upd_ne (Ne.symm M.dne)]
      exact I1.hok.fresh M.new
/-- raise x(e) -/
def gRaise (ci : Nat) (f : Str) (fa : Sem1) : SemS := fun en m => (fa en m).st en fun y m1 => match frz m1 y with
  | some (d, m2) => if showOk d then .ex ⟨ci, some (f, d)⟩ en m2 else .no
  | none => .no
theorem rs_raise (hc : X.calm = true) (tk : Takes X W) (T : PySem.EvX.ErrTxt X.prog X.K X.mg x f pref (tb.clA ci) fI) (hr : Room k X.A) (hgu : X.A.guards = some []) (ha : RE X tb W a fa) (hg : Gl X x) (hdb : (x == ("__debug__" : Str)) = false := by decide)
    (he : starEach (a :: []) X.env = (false, eval a X.env) :: starEach [] X.env := by rfl) (hpl : (backTo pos (starEach [] X.env)).any (·.1) = false := by rfl) : RS X tb W (.Raise (some (.Call (.Name x p) [a] [] pos)) none pos2) (gRaise ci f fa) := by
  refine PS.weak (ps_raise hc tk (pmk_err T hr hgu (pa_cons ha pa_nil he) hg hdb he hpl)) fun D σ H q => ?_
  obtain ⟨F, ρ, en, m, he, ho, q⟩ := q
  refine tE_st he ho q fun y m1 F1 ρ1 H1 v e1 he1 ho1 r1 q1 => ?_
  split at q1
  · rename_i d m2 hd
    split at q1
    · rename_i hs
      obtain ⟨F2, e2, o2, r2⟩ := frz_ok ho1 r1 hd
      obtain ⟨s1, s2, s3, s4, s5⟩ := showOk_iff hs
      refine ⟨v, cv d, rfl, r2.dp o2.sub s1, s2, s3, s4, s5, fun dd hdd => ?_⟩
      obtain ⟨o3, e3⟩ := o2.alloc hdd (.xd [(f, v)])
      exact q1 _ ρ1 σ _ _ (some dd) (e2.trans e3) (he1.mono (e2.trans e3)) o3 ⟨rfl, dd, v, rfl, upd_same, r2.mono e3.le⟩
    · exact q1.elim
  · exact q1.elim
/-- raise x('..'), x without an __init__ of its own -/
def gRaise0 (ci : Nat) : SemS := fun en m => .ex ⟨ci, none⟩ en m
theorem rs_raise0 {m : Str} {bmB : List Value} {B newId initId : String} (hc : X.calm = true) (tk : Takes X W) (F : ExcBaseFacts B newId initId bmB) (q : PySem.W.excIn X.K (tb.clA ci) bmB newId = true) (gC : X.mg x = some (.ref (tb.clA ci))) (kC : PySem.W.keepIn X.K (.ref (tb.clA ci)) = true) (r : Raises X (.ref (tb.clA ci))) (hg : Gl X x)
    (hdb : (x == ("__debug__" : Str)) = false := by decide) : RS X tb W (.Raise (some (.Call (.Name x p) [.Constant (.str m) j p2] [] pos)) none pos2) (gRaise0 ci) := by
  refine PS.weak (ps_raise hc tk (pmk_own F q gC kC r hg hdb)) fun D σ H q => ?_
  obtain ⟨F, ρ, en, m, he, ho, q⟩ := q
  exact q F ρ σ H _ none (.refl _ _) he ho ⟨rfl, trivial⟩
end
end EvL
end

section
set_option Elab.async false
set_option linter.all false
set_option maxRecDepth 100000
set_option maxHeartbeats 2000000
/-! E13: try with clauses in a row, each with or without a name -/
namespace EvL
open PySem PySem.Spec PyProof.Rows L2
abbrev Suit := Addr → Value → Option Addr → TS
/-- an end of a suite whose name is taken back -/
def clrE (i : Nat) (D : Ends) : Ends := { nx := fun σ H => D.nx (σ.set i none) H, rt := D.rt, bk := fun σ H => D.bk (σ.set i none) H, ct := fun σ H => D.ct (σ.set i none) H }
def wCl (K : PySem.W.Frag) (Wout : WX) (D : Ends) : List (Value × Option Nat × Suit) → WX
  | [] => Wout
  | (c, o, ts) :: more => fun cls d σ H => ∃ b, PySem.W.exmOne K cls c = some b ∧
      (b = true → ∀ a, H a = none → match o with | none => ts a cls d D σ H | some i => ts a cls d (clrE i D) (σ.set i (some (.ref a))) H) ∧ (b = false → wCl K Wout D more cls d σ H)
def SuitOk (X : Cx) (sts : List Stmt) (ts : Suit) : Prop := ∀ (a : Addr) (oe : Obj) (cls : Value) (d : Option Addr) (pn : List (Addr × Obj)), Zc cls d oe → (∃ vs, oe.data = .fields vs) → PSs (X.suite a ((a, oe) :: pn)) sts (ts a cls d)
inductive Cls (X : Cx) : List ExceptHandler → List (Value × Option Nat × Suit) → Prop
  | nil : Cls X [] []
  | bare {x : Str} {c : Value} {ts : Suit} {st : Stmt} {sts : List Stmt} {np hp : Pos} {hs : List ExceptHandler} {l : List (Value × Option Nat × Suit)} (hc : Names X x c) (hsu : SuitOk X (st :: sts) ts) (r : Cls X hs l) :
      Cls X (.ExceptHandler (some (.Name x np)) none (st :: sts) hp :: hs) ((c, none, ts) :: l)
  | named {x n : Str} {i : Nat} {c : Value} {ts : Suit} {st : Stmt} {sts : List Stmt} {np hp : Pos} {hs : List ExceptHandler} {l : List (Value × Option Nat × Suit)} (hi : X.N[i]? = some n) (hln : X.env.kindOf n = some .local) (hc : Names X x c) (hsu : SuitOk X (st :: sts) ts) (r : Cls X hs l) :
      Cls X (.ExceptHandler (some (.Name x np)) (some n) (st :: sts) hp :: hs) ((c, some i, ts) :: l)
section
variable {X : Cx} {body : List Stmt} {hd₀ : ExceptHandler} {hs : List ExceptHandler} {l : List (Value × Option Nat × Suit)} {pos : Pos} {tbd : WX → TS} {Wout : WX}
theorem ps_tryC (hstk : X.stack = X.env :: X.outer) (hfrm : X.env.frame = some X.env.locals) (hN : X.N.Nodup) (tk : Takes X Wout)
    (hb : ∀ (W : WX) (pn : List (Addr × Obj)) (xe : Value → Shared → Prop), Takes (X.tr pn xe) W → PassesOwn (model X.prog X.w) X.A X.env xe → PSs (X.tr pn xe) body (tbd W))
    (hh : Cls X (hd₀ :: hs) l) : PS X (.Try body (hd₀ :: hs) [] [] pos) (fun D σ H => tbd (wCl X.K Wout D l) D σ H) := by
  refine ⟨fun pins s σ H D I q0 => ?_⟩
  have ok := I.ok
  have frs0 : X.A.frames = some (X.env :: X.outer) := by rw [ok.frames, hstk]
  refine wpAny_Try_except ?_
  let after : Value → Shared → Prop := fun e s₁ => wpAny (model X.prog X.w) X.A (noteFrame e X.env) (fun _ s₂ => wpAny (model X.prog X.w) X.A (setFlight e none) (fun _ s₃ => wpAny (model X.prog X.w) X.A (handleBy e X.env (hd₀ :: hs)) (SP X pins D) X.xe s₃) X.xe s₂) X.xe s₁
  have tk2 : Takes (X.tr (X.pn ++ pins) after) (wCl X.K Wout D l) := by
    rintro u s' ⟨a, B, sI, pins', σ', H', cls, d, rfl, J0, nb, up, sky, na, os, ag, wish⟩
    have J : Inv X pins σ' H' sI := J0.ofTry ok
    have sky2 : Sky B (X.env :: X.outer) a (Zc cls d) X.env.locals s'.heap := by rw [← hstk]; exact sky
    show wpAny (model X.prog X.w) X.A (noteFrame (.ref a) X.env) _ _ _
    refine Sky.land Zc.steady frs0 hfrm sky2 fun hA flA upA => ?_
    have JA : Inv X pins σ' H' { s' with heap := hA } := J.landed nb flA.1 (up.trans upA) os ag
    obtain ⟨oeA, vsA, heA, hzA, hdA⟩ := flA.there
    have apart : a ∉ frs (X.env :: X.outer) := fun hm => by
      obtain ⟨_, o', e', hnf⟩ := flA.2.2.1.mem hm
      rw [heA] at e'
      cases e'
      exact hnf _ hdA
    have nL : a ≠ X.env.locals := fun z => apart (List.mem_filterMap.mpr ⟨X.env, List.mem_cons_self, by rw [hfrm, z]⟩)
    have nF : a ∉ X.fs := fun hm => by
      obtain ⟨e, he, q⟩ := List.mem_filterMap.mp hm
      exact apart (List.mem_filterMap.mpr ⟨e, List.mem_cons_of_mem _ he, q⟩)
    have SA := JA.suite heA hdA na nL nF
    have LT : PySem.W.Looks (model X.prog X.w) hA (typeOf (.ref a)) cls := fun A Q E s k q => wpAny_typeOf_ref (k _ _ heA) (by rw [hzA.1]; exact q)
    have named : ∀ {x : Str} {c : Value} {np : Pos} {Q : Value → Shared → Prop} {E : Value → Shared → Prop}, Names X x c → Q c { s' with heap := hA } → wpAny (model X.prog X.w) (X.A.mark (some (.ref a))) (eval (.Name x np) X.env) Q E { s' with heap := hA } := fun {x c np Q E} hc q => by
      obtain ⟨hg, hdbg, hm | ⟨hm, hv, hnn⟩⟩ := hc
      · exact ld_glob (X := X.suite a ((a, oeA) :: (X.pn ++ pins))) SA hg hm q hdbg
      · exact ld_blt (X := X.suite a ((a, oeA) :: (X.pn ++ pins))) SA hg hm hv q hnn hdbg
    have run : ∀ {hs' : List ExceptHandler} {l' : List (Value × Option Nat × Suit)}, Cls X hs' l' → wCl X.K Wout D l' cls d σ' H' → wpAny (model X.prog X.w) X.A (handleBy (.ref a) X.env hs') (SP X pins D) X.xe { s' with heap := hA } := by
      intro hs' l' hk
      induction hk with
      | nil =>
        intro wish
        refine wpAny_handleBy_nil ?_
        obtain ⟨_, _, _, oe, vs, T, _, _, he, hz, hd, h1, _⟩ := id flA
        unfold PySem.passOn
        refine wpAny_bind (wpAny_field he hd h1 ?_)
        rw [if_neg (show ¬ ((Value.ref T == Value.none) = true) from by simp)]
        have off : wpAny (model X.prog X.w) X.A (setFlight (.ref a) X.env.frame) (fun _ s4 => wpAny (model X.prog X.w) X.A (throw (.ref a) : Sem Flow) (SP X pins D) X.xe s4) X.xe { s' with heap := hA } := by
          rw [hfrm]
          refine HandSPX.setFlight_upZ flA fun hB held upB => wpAny_throw (tk _ _ ?_)
          exact ⟨a, B, sI, pins, σ', H', cls, d, rfl, J, nb, (up.trans upA).trans upB, .inr (.inr (by rw [hstk]; exact held)), na, os, ag, wish⟩
        first
          | exact wpAny_bind (wpAny_pure (wpAny_bind off))
          | exact wpAny_bind off
      | @bare x c ts st sts np hp more lm hc hsu r ih =>
        rintro ⟨b, m1, yes, no⟩
        refine wpAny_handleBy_cons (codeAny_handlers_test ?_) (by intro q; cases q)
        refine named hc ((PySem.W.exm_one (M := model X.prog X.w) (JA.kIn) LT m1).here ?_)
        cases b with
        | false =>
          show wpAny _ X.A (handleBy (.ref a) X.env more) _ _ _
          exact ih (no rfl)
        | true =>
          refine codeAny_handlers_suite (HandSPX.lands_againZ flA fun hB flB upB => ?_)
          have JB : Inv X pins σ' H' { s' with heap := hB } := J.landed nb flB.1 ((up.trans upA).trans upB) os ag
          obtain ⟨oeB, vsB, heB, hzB, hdB⟩ := flB.there
          have SB := JB.suite heB hdB na nL nF
          refine wpAny_mono ((hsu a oeB cls d (X.pn ++ pins) hzB ⟨_, hdB⟩).run [] _ _ H' _ SB (yes rfl a na)) (fun fl s6 hsp => ?_) (fun _ _ z => False.elim z)
          cases fl with
          | ret u =>
            obtain ⟨v6, σ6, H6, S6, r6, q6⟩ := hsp
            exact ⟨_, _, _, S6.unsuite ok, r6, q6⟩
          | _ =>
            obtain ⟨σ6, H6, S6, q6⟩ := hsp
            exact ⟨_, _, S6.unsuite ok, q6⟩
      | @named x n i c ts st sts np hp more lm hi hln hc hsu r ih =>
        rintro ⟨b, m1, yes, no⟩
        refine wpAny_handleBy_cons (codeAny_handlers_test ?_) (by intro q; cases q)
        refine named hc ((PySem.W.exm_one (M := model X.prog X.w) (JA.kIn) LT m1).here ?_)
        cases b with
        | false =>
          show wpAny _ X.A (handleBy (.ref a) X.env more) _ _ _
          exact ih (no rfl)
        | true =>
          refine codeAny_handlers_suite_as (HandSPX.lands_againZ flA fun hB flB upB => ?_)
          have JB : Inv X pins σ' H' { s' with heap := hB } := J.landed nb flB.1 ((up.trans upA).trans upB) os ag
          obtain ⟨oeB, vsB, heB, hzB, hdB⟩ := flB.there
          have SB := JB.suite heB hdB na nL nF
          refine store_ok (X := X.suite a ((a, oeB) :: (X.pn ++ pins))) (v := .ref a) SB hN hi (.inl hln) rfl (fun s5 S5 => ?_) (.inr hln)
          refine wpAny_mono ((hsu a oeB cls d (X.pn ++ pins) hzB ⟨_, hdB⟩).run [] s5 _ H' _ S5 (yes rfl a na)) (fun fl s6 hsp => ?_) (fun _ _ z => False.elim z)
          have away : ∀ {σ6 : L2.St} {H6 : Hp} {Q : Shared → Prop}, Inv (X.suite a ((a, oeB) :: (X.pn ++ pins))) [] σ6 H6 s6 → (∀ s7, Inv X pins (σ6.set i none) H6 s7 → Q s7) →
              wpAny (model X.prog X.w) X.A (do bindName X.env n .none; unbindBehindTheSuite X.env n hp) (fun _ s7 => Q s7) X.xe s6 := fun S6 hq => gone_ok (S6.unsuite ok) hN hi hln hq
          cases fl with
          | ret u =>
            obtain ⟨v6, σ6, H6, S6, r6, q6⟩ := hsp
            exact away S6 fun s7 J7 => ⟨_, _, _, J7, r6, q6⟩
          | _ =>
            obtain ⟨σ6, H6, S6, q6⟩ := hsp
            exact away S6 fun s7 J7 => ⟨_, _, J7, q6⟩
    exact run hh wish
  refine wpAny_mono ((hb (wCl X.K Wout D l) (X.pn ++ pins) after tk2 PassesOwn.looking).run [] s σ H D (I.toTry _) q0) (fun fl s1 hsp => ?_) (fun e s1 he => he)
  cases fl with
  | next =>
    obtain ⟨σ', H', J', q⟩ := hsp
    exact wpAny_execs_nil ⟨σ', H', J'.ofTry ok, q⟩
  | ret u =>
    obtain ⟨v, σ', H', J', r, q⟩ := hsp
    exact ⟨v, σ', H', J'.ofTry ok, r, q⟩
  | brk =>
    obtain ⟨σ', H', J', q⟩ := hsp
    exact ⟨σ', H', J'.ofTry ok, q⟩
  | cont =>
    obtain ⟨σ', H', J', q⟩ := hsp
    exact ⟨σ', H', J'.ofTry ok, q⟩
end
end EvL
end

section
set_option Elab.async false
set_option linter.all false
set_option maxRecDepth 100000
set_option maxHeartbeats 2000000
/-! E14: try, told by what it does -/
namespace EvL
open PySem PySem.Spec PyProof.Rows L2
/-- what a clause does: return ('k', err.f), err at slot i; or its statements -/
inductive Cl where
  | fld (i : Nat) (k f : Str) | sts (g : SemS)
def pick (sub : Nat → Nat → Bool) : List (Nat × Cl) → Ex → En → Store → Sr
  | [], x, en, m => .ex x en m
  | (c, o) :: more, x, en, m => if sub x.c c = true then (match o with
    | .fld i k f => (match x.pay with
      | some (f', d) => if f' = f ∧ x.c = c ∧ i < en.length then .rt (.d (.tup [.str k, d])) m else .no
      | none => .no)
    | .sts g => (match g en m with | .ex _ _ _ => .no | r => r)) else pick sub more x en m
def gTry (n : Nat) (sub : Nat → Nat → Bool) (body : SemS) (l : List (Nat × Cl)) : SemS := fun en m => match body en m with
  | .ex x en' m' => if x.c < n then pick sub l x en' m' else .no
  | r => r
section
variable {K : PySem.W.Frag} {tb : Tb} {W : WX} {X : Cx} {n : Nat} {sub : Nat → Nat → Bool}
/-- err.f in a suite -/
def tsFld (K : PySem.W.Frag) (C : Addr) (i : Nat) (k f : Str) : Suit := fun a cls d => tRet (tTup (tCons (tC (.str k)) (tCons (tXf a cls d C f (tVar i)) tNil)))
inductive RCl (X : Cx) (tb : Tb) (n : Nat) : List ExceptHandler → List (Nat × Cl) → List (Value × Option Nat × Suit) → Prop
  | nil : RCl X tb n [] [] []
  | fld {x nm f k : Str} {i ci j x1 : Nat} {np hp p1 p2 p3 p4 p5 : Pos} {hs : List ExceptHandler} {l : List (Nat × Cl)} {ts : List (Value × Option Nat × Suit)} (hi : X.N[i]? = some nm) (hln : X.env.kindOf nm = some .local) (hv : (nm == ("__debug__" : Str)) = false) (hv2 : (nm == ("__classdict__" : Str)) = false) (hn : ci < n)
      (hc : Names X x (.ref (tb.clA ci))) (T : XfC X.K (tb.clA ci)) (hno : PySem.W.findIn X.K (.ref (tb.clA ci)) f = some none) (hb : attributeBase (.Name nm p2) f X.env (eval (.Name nm p2) X.env) = eval (.Name nm p2) X.env)
      (he : starEach [.Constant (.str k) j p1, .Attribute (.Name nm p2) f p3] X.env = (false, eval (.Constant (.str k) j p1) X.env) :: starEach [.Attribute (.Name nm p2) f p3] X.env)
      (he2 : starEach [.Attribute (.Name nm p2) f p3] X.env = (false, eval (.Attribute (.Name nm p2) f p3) X.env) :: starEach [] X.env) (r : RCl X tb n hs l ts) :
      RCl X tb n (.ExceptHandler (some (.Name x np)) (some nm) [.Return (some (.Tuple [.Constant (.str k) j p1, .Attribute (.Name nm p2) f p3] x1 p4)) p5] hp :: hs) ((ci, .fld i k f) :: l) ((.ref (tb.clA ci), some i, tsFld X.K (tb.clA ci) i k f) :: ts)
  | sts {x : Str} {ci : Nat} {g : SemS} {np hp : Pos} {st : Stmt} {sts : List Stmt} {hs : List ExceptHandler} {l : List (Nat × Cl)} {ts : List (Value × Option Nat × Suit)} (hn : ci < n) (hc : Names X x (.ref (tb.clA ci)))
      (hsu : ∀ (a : Addr) (pn : List (Addr × Obj)), RSs (X.suite a pn) tb WN (st :: sts) g) (r : RCl X tb n hs l ts) :
      RCl X tb n (.ExceptHandler (some (.Name x np)) none (st :: sts) hp :: hs) ((ci, .sts g) :: l) ((.ref (tb.clA ci), none, fun _ _ _ => tS X.K tb WN g) :: ts)
theorem RCl.cls {hs : List ExceptHandler} {l : List (Nat × Cl)} {ts : List (Value × Option Nat × Suit)} (h : RCl X tb n hs l ts) : Cls X hs ts := by
  induction h with
  | nil => exact .nil
  | @fld x nm f k i ci j x1 np hp p1 p2 p3 p4 p5 hs l ts hi hln hv hv2 hn hc T hno hb he he2 r ih =>
    refine .named hi hln hc (fun a oe cls d pn hz hf => pss_one (ps_ret (pe_tup (pa_cons pe_str (pa_cons (pe_xf T hno hz hf (pe_var (X := X.suite a ((a, oe) :: pn)) hi (.inl hln) hv hv2) hb) pa_nil he2) he)))) ih
  | @sts x ci g np hp st sts hs l ts hn hc hsu r ih => exact .bare hc (fun a oe cls d pn _ _ => hsu a _) ih
variable {D : Ends}
theorem pick_run {hs : List ExceptHandler} {l : List (Nat × Cl)} {ts : List (Value × Option Nat × Suit)} (hsub : ∀ i j, i < n → j < n → PySem.W.exmOne X.K (.ref (tb.clA i)) (.ref (tb.clA j)) = some (sub i j)) (h : RCl X tb n hs l ts) :
    ∀ {F : Hp} {ρ : List Addr} {x : Ex} {en : En} {m : Store} {σ : L2.St} {H : Hp} {c : Value} {d : Option Addr}, x.c < n → EnvOk X.K tb F ρ en σ → Wo X.K tb F ρ m H → XRep X.K tb F x c d → tSt X.K tb W F ρ D (pick sub l x en m) → wCl X.K W D ts c d σ H := by
  induction h with
  | nil => exact fun hx he ho xr q => q _ _ _ _ _ _ (.refl _ _) he ho xr
  | @fld x nm f k i ci j x1 np hp p1 p2 p3 p4 p5 hs l ts hi hln hv hv2 hn hc T hno hb he1 he2 r ih =>
    intro F ρ x en m σ H c d hx he ho xr q
    refine ⟨sub x.c ci, by rw [xr.1]; exact hsub _ _ hx hn, fun hs a ha => ?_, fun hs => ?_⟩
    · unfold pick at q
      rw [if_pos hs] at q
      dsimp only at q
      obtain ⟨xc, pay⟩ := x
      cases pay with
      | none => exact q.elim
      | some p =>
        obtain ⟨f', y⟩ := p
        dsimp only at q
        split at q
        · rename_i hf
          obtain ⟨hf, hci, hil⟩ := hf
          subst hf
          subst hci
          obtain ⟨xr1, dd, v, rfl, hdd, rv⟩ := xr
          refine ⟨.ref a, List.getElem?_set_self (by rw [← he.len]; exact hil), rfl, ?_, dd, [(f', v)], v, rfl, ho.sub _ _ hdd, by simp, (by show 2 ≤ sizeLine; rw [sizeLine_eq]; decide), fun p hp => ?_⟩
          · exact xr1
          · obtain ⟨o3, e3⟩ := ho.alloc hp (.tup [.str k, v])
            exact q _ _ _ _ e3 o3 (.d (.tup (.inl (.inl upd_same)) (.cons (.str k) (.cons (rv.mono e3.le) .nil))))
        · exact q.elim
    · unfold pick at q
      rw [if_neg (by rw [hs]; exact Bool.false_ne_true)] at q
      exact ih hx he ho xr q
  | @sts x ci g np hp st sts hs l ts hn hc hsu r ih =>
    intro F ρ x en m σ H c d hx he ho xr q
    refine ⟨sub x.c ci, by rw [xr.1]; exact hsub _ _ hx hn, fun hs a ha => ?_, fun hs => ?_⟩
    · unfold pick at q
      rw [if_pos hs] at q
      dsimp only at q
      refine ⟨F, ρ, en, m, he, ho, ?_⟩
      cases e : g en m with
      | ex _ _ _ => rw [e] at q; exact q.elim
      | _ => rw [e] at q; exact q
    · unfold pick at q
      rw [if_neg (by rw [hs]; exact Bool.false_ne_true)] at q
      exact ih hx he ho xr q
theorem rs_try {body : List Stmt} {hd₀ : ExceptHandler} {hs : List ExceptHandler} {l : List (Nat × Cl)} {ts : List (Value × Option Nat × Suit)} {g : SemS} {pos : Pos} (hsub : ∀ i j, i < n → j < n → PySem.W.exmOne X.K (.ref (tb.clA i)) (.ref (tb.clA j)) = some (sub i j))
    (hstk : X.stack = X.env :: X.outer) (hfrm : X.env.frame = some X.env.locals) (hN : X.N.Nodup) (tk : Takes X W)
    (hb : ∀ (W' : WX) (pn : List (Addr × Obj)) (xe : Value → Shared → Prop), Takes (X.tr pn xe) W' → PassesOwn (model X.prog X.w) X.A X.env xe → RSs (X.tr pn xe) tb W' body g)
    (hh : RCl X tb n (hd₀ :: hs) l ts) : RS X tb W (.Try body (hd₀ :: hs) [] [] pos) (gTry n sub g l) := by
  refine ⟨fun pins s σ H D I q => ?_⟩
  have ln := I.len
  refine (ps_tryC (tbd := fun W' => tS X.K tb W' g) hstk hfrm hN tk hb hh.cls).run pins s σ H D I ?_
  obtain ⟨F, ρ, en, m, he, ho, q⟩ := q
  refine ⟨F, ρ, en, m, he, ho, ?_⟩
  unfold gTry at q
  cases e : g en m with
  | ex x en' m' =>
    rw [e] at q
    dsimp only at q
    split at q
    · rename_i hx
      intro F' ρ' σ' H' c d ex he' ho' xr
      exact pick_run hsub hh hx he' ho' xr (tSt.ext ex q)
    · exact q.elim
  | nx _ _ => rw [e] at q; exact q
  | rt _ _ => rw [e] at q; exact q
  | bk _ _ => rw [e] at q; exact q
  | ct _ _ => rw [e] at q; exact q
  | no => rw [e] at q; exact q.elim
end
end EvL
end

section
set_option Elab.async false
set_option linter.all false
set_option maxRecDepth 100000
set_option maxHeartbeats 4000000
/-! E15: enumerate(tuple) -/
namespace PySem
namespace EvX
open Sem (wp)
open AutoSeq1 (wpAny_loadPart')
theorem enumT_new (l : Addr) (items : Array Value) (n : Nat) (dct : Option Addr) (sl : Array (Option Value)) :
    Meets (Builtin.«enumerate.__new__» ⟨[.type "enumerate", .ref l], []⟩) (fun _ R s => s.heap.get? l = some { cls := .type "tuple", dict := dct, data := .seq items n, slots := sl } ∧
      R (.ok (.ret (.ref (s.heap.push { cls := .type "tuple_iterator", data := .fields #[.ref l, .int 0 0] }).objs.size)))
        { s with heap := (s.heap.push { cls := .type "tuple_iterator", data := .fields #[.ref l, .int 0 0] }).push { cls := .type "enumerate", data := .fields #[.none, .bool false, .ref s.heap.objs.size, rawInt 0, .none, .none] } }) :=
  .of_wp fun prog w A R s h => by
    obtain ⟨hp, g, d, tk, os⟩ := s; obtain ⟨hl, h⟩ := h
    have hsub := sub_enumerate
    have hT : Heap.IsTuple (Shared.heap ⟨hp, g, d, tk, os⟩) l items := ⟨_, hl, rfl, n, rfl⟩
    wp_walk using wpAny_loadPart' hl
    refine wpAny_stack_any fun st => wpAny_pure ?_
    split
    · rename_i c _ _ _ _ _
      cases (c == Value.type "enumerate")
      · wp_walk using wpAny_loadPart' hl, wpAny_pyIter_tuple hT
        exact ⟨_, rfl, h⟩
      · wp_walk using wpAny_loadPart' hl, wpAny_pyIter_tuple hT
        exact ⟨_, rfl, h⟩
    · wp_walk using wpAny_loadPart' hl, wpAny_pyIter_tuple hT
      exact ⟨_, rfl, h⟩
section
variable {prog : Program} {w : World} {A : Around} {E : Value → Shared → Prop} {s : Shared}
theorem call_enumT {l : Addr} {items : Array Value} {Q : Value → Shared → Prop} (hL : s.heap.IsTuple l items)
    (h : ∀ h', IsEnum h' (s.heap.objs.size + 1) s.heap.objs.size 0 .none → h'.IsTupleIter s.heap.objs.size l 0 → h'.objs.size = s.heap.objs.size + 2 →
      (∀ b o, s.heap.get? b = some o → h'.get? b = some o) → Q (.ref (s.heap.objs.size + 1)) { s with heap := h' }) :
    wpAny (model prog w) A (call (.type "enumerate") [.ref l]) Q E s := by
  obtain ⟨⟨c, dct, dt, sl⟩, hl, hc, n, hd⟩ := hL
  obtain rfl : c = .type "tuple" := hc
  obtain rfl : dt = .seq items n := hd
  refine callType_new F.called_enumerate (by decide) (F.typeCall_enumerate_1 _) (F.newCall_enumerate_1 _) (fun obj => F.args_object_init_2 obj _) F.entry_enumerate_new (enumT_new l items n dct sl) ⟨hl, ?_⟩
  have hz : (s.heap.push { cls := .type "tuple_iterator", data := .fields #[.ref l, .int 0 0] }).objs.size = s.heap.objs.size + 1 := Heap.size_push ..
  show _ ∧ _
  rw [hz]
  have he : IsEnum ((s.heap.push { cls := .type "tuple_iterator", data := .fields #[.ref l, .int 0 0] }).push
      { cls := .type "enumerate", data := .fields #[.none, .bool false, .ref s.heap.objs.size, rawInt 0, .none, .none] }) (s.heap.objs.size + 1) s.heap.objs.size 0 .none := by
    have := Heap.get?_push_size (s.heap.push { cls := .type "tuple_iterator", data := .fields #[.ref l, .int 0 0] })
      (o := { cls := .type "enumerate", data := .fields #[.none, .bool false, .ref s.heap.objs.size, rawInt 0, .none, .none] }) rfl
    rw [hz] at this
    exact this
  refine ⟨⟨_, he, rfl⟩, h _ he ⟨_, Heap.get?_push_of_some _ (Heap.get?_push_size _ rfl), rfl, rfl⟩ ?_ fun b o x => Heap.get?_push_of_some _ (Heap.get?_push_of_some _ x)⟩
  rw [Heap.size_push, hz]
theorem draws_tuple (hh : A.handled = none) (it l : Addr) (hne : l ≠ it) (items : Array Value) :
    Draws prog w A it [it, l] items.size (fun i v => items[i]? = some v) (fun i h => h.IsTupleIter it l i ∧ h.IsTuple l items) where
  live := fun _ _ st => let ⟨o, ho, _⟩ := st.1; ⟨o, ho⟩
  frame := fun _ _ _ st hk => ⟨st.1.at fun o e => hk it (by simp) o e, by obtain ⟨o, h1, h2⟩ := st.2; exact ⟨o, hk l (by simp) o h1, h2⟩⟩
  item := fun i s Q E hi st hQ => by
    refine RZ.nextOf_tuple_item st.1 st.2 (x := items[i]) (by simp [hi]) fun h' hit' hs' => ?_
    exact hQ _ h' s.toks (by simp [hi]) ⟨hit', by obtain ⟨o, h1, h2⟩ := st.2; exact ⟨o, (hs'.2 l hne).trans h1, h2⟩⟩ hs'
  done := fun s Q E st hE => RZ.nextOf_tuple_end hh st.1 st.2 (by simp) hE
end
end EvX
end PySem
namespace EvL
open PySem PySem.Spec PyProof.Rows L2
/-- the tuple at a, each item in a new pair -/
def IteT (K : PySem.W.Frag) (a : Addr) : It :=
  ⟨fun i H => ∃ (xs : List V) (x : V), SqT K H a xs ∧ xs[i]? = some x, fun i H v H' => ∃ T x, v = .ref T ∧ H T = none ∧ H' = upd H T (.tup [.int (i : Nat), x]) ∧ ∀ xs, SqT K H a xs → xs[i]? = some x, fun i H => ∃ xs : List V, SqT K H a xs ∧ xs.length = i⟩
theorem turn_enumT {P : Program} {w : World} {K : PySem.W.Frag} {elts : List Expr} {kk : Nat} {tpos : Pos} (a e it : Addr) :
    Turn P w K (.Tuple elts kk tpos) (IteT K a) [e, it] e (fun i h => (∃ old, IsEnum h e it ((i : Nat) : Int) old) ∧ h.IsTupleIter it a i ∧ e ≠ it) where
  mem := by simp
  obj := fun i h st b hb => by
    obtain ⟨⟨old, he⟩, ⟨o, ho, hc, hd⟩, _⟩ := st
    rcases (by simpa using hb : b = e ∨ b = it) with z | z
    · rw [z]; exact ⟨_, he, fun v q => nomatch q⟩
    · rw [z]; exact ⟨o, ho, fun v q => by rw [hd] at q; cases q⟩
  keep := fun i h h' st k => let ⟨⟨old, he⟩, hi, hne⟩ := st; ⟨⟨old, k e (by simp) _ he⟩, hi.at fun o q => k it (by simp) o q, hne⟩
  item := by
    intro X hP hw hK hc i pins s σ H E I hf st hg
    subst hP hw hK
    obtain ⟨⟨old, he⟩, hit, hne⟩ := st
    obtain ⟨xs, x, hq, hx⟩ := hg
    obtain ⟨its, rv, p, hz⟩ := I.tuple hq
    obtain ⟨u, hu, ru⟩ := rv.get hx
    have hel : e < s.heap.objs.size := Heap.lt_size he
    have hil : it < s.heap.objs.size := by obtain ⟨_, q, _⟩ := hit; exact Heap.lt_size q
    have pT : s.heap.IsTuple a its.toArray := p
    have ea : e ≠ a := fun z => by
      obtain ⟨o, h1, h2, _⟩ := pT
      rw [← z, he] at h1
      cases h1
      exact absurd (Value.type.inj h2) (by decide)
    have ai : a ≠ it := fun z => by
      obtain ⟨o, h1, h2, _⟩ := pT
      obtain ⟨o', h3, h4, _⟩ := hit
      rw [z, h3] at h1
      cases h1
      rw [h4] at h2
      exact absurd (Value.type.inj h2) (by decide)
    have hlt : i < its.toArray.size := by
      have := (List.getElem?_eq_some_iff.mp hu).1
      simpa using this
    refine wpAny_pyNext_enum_itemD (PySem.EvX.draws_tuple (A := X.A.in1) (by exact I.ok.hd hc) it a ai its.toArray) he ⟨hit, pT⟩ hlt hne (by simp [hne, ea]) fun y h' tk hy ho hst hT hsz hk => ?_
    obtain rfl : y = u := by
      have h2 : its.toArray[i]? = some u := by simpa using hu
      rw [hy] at h2
      exact Option.some.inj h2
    obtain ⟨hit', hpt'⟩ := hst
    refine ⟨_, rfl, wpAny_letOwnedTupleGo_enum (s := { s with heap := h', toks := tk + 1 }) ho fun h'' he' sb => ?_⟩
    have hT2 : h''.get? s.heap.objs.size = some { cls := .type "tuple", data := .seq #[.int i tk, y] } := (sb.2 _ (Nat.ne_of_gt hel)).trans hT
    have new : ObjOk X.prog X.w (upd H s.heap.objs.size (.tup [.int (i : Nat), x])) h'' s.heap.objs.size (.tup [.int (i : Nat), x]) :=
      ⟨by show 2 ≤ sizeLine; decide, [.int i tk, y], .cons ⟨_, rfl⟩ (.cons ru .nil), ⟨_, hT2, rfl, _, rfl⟩⟩
    have I1 : Inv X pins σ (upd H s.heap.objs.size (.tup [.int (i : Nat), x])) { s with heap := h'', toks := tk + 1 } :=
      I.turnedNew (ch := [e, it]) (fun b ob hb q => (sb.2 b (fun z => hb (by simp [z]))).trans (hk b ob (fun z => hb (by simp [z])) (fun z => hb (by simp [z])) q)) hf (Nat.le_refl _) new
    refine ⟨.ref s.heap.objs.size, _, I1, rfl, ⟨_, x, rfl, I.hok.fresh (Nat.le_refl _), rfl, fun ys hy2 => ?_⟩, ⟨⟨y, ?_⟩, hit'.at fun o q => (sb.2 it (Ne.symm hne)).trans q, hne⟩, fun b hb => ?_⟩
    · rw [I.tuple_inj hy2 hq]; exact hx
    · have e1 : ((i + 1 : Nat) : Int) = (i : Int) + 1 := by omega
      rw [e1]; exact he'
    · have hb' : b < s.heap.objs.size := by
        rcases (by simpa using hb : b = e ∨ b = it) with z | z
        · rw [z]; exact hel
        · rw [z]; exact hil
      rw [upd_ne (Nat.ne_of_lt hb')]
      exact (hf b hb).1
  done := by
    intro X hP hw hK hc i pins s σ H E I hf st hg
    subst hP hw hK
    obtain ⟨⟨old, he⟩, hit, hne⟩ := st
    obtain ⟨xs, hq, hx⟩ := hg
    obtain ⟨its, rv, p, hz⟩ := I.tuple hq
    obtain ⟨f0, f1, f2, f3, f4, f5⟩ := hf it (by simp)
    have pT : s.heap.IsTuple a its.toArray := p
    have ai : a ≠ it := fun z => by
      obtain ⟨o, h1, h2, _⟩ := pT
      obtain ⟨o', h3, h4, _⟩ := hit
      rw [z, h3] at h1
      cases h1
      rw [h4] at h2
      exact absurd (Value.type.inj h2) (by decide)
    have hn : its.toArray.size = i := by
      rw [← hx, rv.length]
      simp
    subst hn
    exact wpAny_pyNext_enum_endD (PySem.EvX.draws_tuple (A := X.A.in1) (by exact I.ok.hd hc) it a ai its.toArray) he ⟨hit, pT⟩ fun h' eb => ⟨rfl, I.turned (t' := s.toks) (fun b o hb q => eb b o hb q) f0 f1 f3 f4 f5⟩
  self := fun A i s Q E st h => let ⟨⟨_, he⟩, _⟩ := st; wpAny_pyIter_enum he h
def iEnumA (K : PySem.W.Frag) (ta : TA) : TI := fun σ H R => ta σ H fun vs H1 => ∃ a, vs = [.ref a] ∧ ((∃ xs, SqL K H1 a xs ∧ R (Ite K a) H1) ∨ (∃ xs, SqT K H1 a xs ∧ R (IteT K a) H1))
theorem pi_enumA {X : Cx} {e : Expr} {ta : TA} {p pos tpos : Pos} {elts : List Expr} {kk : Nat} (hg : Gl X "enumerate") (hm : X.mg "enumerate" = none) (ha : PA X [e] ta) (hs : starEach [e] X.env = [(false, eval e X.env)] := by rfl) :
    PI X (.Tuple elts kk tpos) (.Call (.Name "enumerate" p) [e] [] pos) (iEnumA X.K ta) := by
  refine ⟨fun pins s σ H R I h => ?_⟩
  refine Call_ (ld_blt I hg hm boot_enumerate (PyProof.Rows.callWith_type1 (thn (ha.run pos pins s σ H _ I h) fun us s1 ⟨vs, H1, I1, r1, q1⟩ => ?_) hs rfl))
  obtain ⟨a, ex, hq⟩ := q1
  subst ex
  cases r1 with
  | cons r rr =>
    cases rr
    cases r
    have two : ∀ b ∈ [s1.heap.objs.size + 1, s1.heap.objs.size], FpOk X pins H1 b := fun b hb => by
      have hle : s1.heap.objs.size ≤ b := by
        rcases (by simpa using hb : b = s1.heap.objs.size + 1 ∨ b = s1.heap.objs.size) with z | z
        · rw [z]; exact Nat.le_add_right _ _
        · rw [z]; exact Nat.le_refl _
      exact I1.fpOk hle (I1.hok.fresh hle)
    rcases hq with ⟨xs, hq, q⟩ | ⟨xs, hq, q⟩
    · obtain ⟨its, rv, pl, hz⟩ := I1.list hq
      refine call_enumerate_list pl.isList fun h' he hit hsz hk => wpAny_pyIter_enum he ?_
      exact ⟨s1.heap.objs.size + 1, [s1.heap.objs.size + 1, s1.heap.objs.size], _, _, H1, rfl, I1.kept (t' := s1.toks) hk, turn_enum a (s1.heap.objs.size + 1) s1.heap.objs.size, ⟨⟨.none, he⟩, hit, Nat.succ_ne_self _⟩, two, q⟩
    · obtain ⟨its, rv, pl, hz⟩ := I1.tuple hq
      refine PySem.EvX.call_enumT (show s1.heap.IsTuple a its.toArray from pl) fun h' he hit hsz hk => wpAny_pyIter_enum he ?_
      exact ⟨s1.heap.objs.size + 1, [s1.heap.objs.size + 1, s1.heap.objs.size], _, _, H1, rfl, I1.kept (t' := s1.toks) hk, turn_enumT a (s1.heap.objs.size + 1) s1.heap.objs.size, ⟨⟨.none, he⟩, hit, Nat.succ_ne_self _⟩, two, q⟩
theorem walk_enumT {K : PySem.W.Frag} {a : Addr} {xs : List V} : Walk (IteT K a) xs.length (fun H => SqT K H a xs) (YPair (fun i => some (.int (i : Nat))) (fun i => xs[i]?)) := by
  refine ⟨fun i _ hi q => ⟨xs, xs[i], q, by simp [hi]⟩, fun _ q => ⟨xs, q, rfl⟩, fun i H v H' _ q y => ?_⟩
  obtain ⟨T, x, h1, h2, h3, h4⟩ := y
  exact ⟨T, .int (i : Nat), x, h1, h2, h3, rfl, h4 xs q⟩
section
variable {K : PySem.W.Frag} {tb : Tb} {W : WX} {X : Cx} {a : Expr} {fa : Sem1} {pos p : Pos}
def numb (xs : List Dv) : List Dv := xs.mapIdx fun i x => Dv.tup [.int (i : Nat), x]
theorem walkE_numb {F : Hp} {J : It} {xs : List Dv} {vs : List V} {G : Hp → Prop} (w : Walk J vs.length G (YPair (fun i => some (.int (i : Nat))) (fun i => vs[i]?))) (g : ∀ H, Le F H → G H) (r : RepL K tb F xs vs) : WalkE K tb F J (numb xs) := by
  have ln : (numb xs).length = vs.length := by unfold numb; rw [List.length_mapIdx, r.length]
  refine ⟨G, _, by rw [ln]; exact w, g, fun i H y H' F1 ρ1 m1 hi l o q => ?_⟩
  obtain ⟨T, u, z, rfl, hT, rfl, hu, hz⟩ := q
  cases hu
  obtain ⟨d, h1, s1⟩ := r.getV hz
  obtain ⟨o3, e3⟩ := o.alloc hT (.tup [.int (i : Nat), z])
  refine ⟨_, .tup [.int (i : Nat), d], e3, o3, ?_, .tup (.inl (.inl upd_same)) (.cons (.int _) (.cons ((s1.mono l).mono e3.le) .nil))⟩
  unfold numb
  rw [List.getElem?_mapIdx, h1]
  rfl
def iEnumS (f : Sem1) : SemF := fun en m => (f en m).bind fun x m1 => match frz m1 x with
  | some (d, m2) => (match items d with | some xs => .ok (numb xs) m2 | none => .no)
  | none => .no
theorem ri_enum {elts : List Expr} {kk : Nat} {tpos : Pos} (hg : Gl X "enumerate") (hm : X.mg "enumerate" = none) (ha : RE X tb W a fa) (hs : starEach [a] X.env = [(false, eval a X.env)] := by rfl) (hs2 : starEach [a] X.env = (false, eval a X.env) :: starEach [] X.env := by rfl) :
    RI X tb W (.Tuple elts kk tpos) (.Call (.Name "enumerate" p) [a] [] pos) (iEnumS fa) := by
  refine PI.weak (pi_enumA hg hm (pa_cons ha pa_nil hs2) hs) fun σ H R q => ?_
  obtain ⟨F, ρ, en, m, he, ho, q⟩ := q
  refine tE_bindI he ho q fun y m1 F1 ρ1 H1 v e1 he1 ho1 r1 q1 => ?_
  split at q1
  · rename_i d m2 hd
    obtain ⟨F2, e2, o2, r2⟩ := frz_ok ho1 r1 hd
    split at q1
    · rename_i xs hx
      cases r2 <;> simp only [items, Option.some.injEq, reduceCtorEq] at hx
      · subst hx
        rename_i p ys vs h r
        exact ⟨p, rfl, .inr ⟨vs, o2.sub.sqt h, q1 F2 ρ1 H1 _ e2 o2 (walkE_numb walk_enumT (fun H l => l.sqt h) r)⟩⟩
      · subst hx
        rename_i p ys vs h r
        exact ⟨p, rfl, .inl ⟨vs, .inl (.inl (o2.sub _ _ h)), q1 F2 ρ1 H1 _ e2 o2 (walkE_numb walk_enum (fun H l => .inl (.inl (l _ _ h))) r)⟩⟩
      · subst hx
        rename_i p ns h
        exact ⟨p, rfl, .inl ⟨_, o2.sub.sql h, q1 F2 ρ1 H1 _ e2 o2 (walkE_numb walk_enum (fun H l => l.sql h) (RepL.ints ns))⟩⟩
    · exact q1.elim
  · exact q1.elim
end
end EvL
end

section
set_option Elab.async false
set_option linter.all false
set_option maxRecDepth 100000
set_option maxHeartbeats 2000000
/-! E16: comprehensions of two clauses -/
namespace EvL
open PySem PySem.Spec PyProof.Rows L2
/-- a walk's turns, whatever a turn asks -/
theorem walk_gen {J : It} {n : Nat} {G : Hp → Prop} {Y : Nat → Hp → V → Hp → Prop} (w : Walk J n G Y) {Step : V → Hp → (Hp → Prop) → Prop} {Nx : Hp → Prop} {H0 : Hp} (P : Nat → Hp → Prop) (h0 : P 0 H0) (hG : ∀ i H, i ≤ n → P i H → G H)
    (hs : ∀ i x H H', i < n → P i H → Y i H x H' → Step x H' (P (i + 1))) (hd : ∀ H, P n H → Nx H) :
    ∃ W1 : Nat → Nat → Hp → Prop, (∃ m, W1 0 m H0) ∧ ∀ j k H, W1 j k H → (J.stop j H ∧ Nx H) ∨ (J.go j H ∧ ∃ Nx1 : Hp → Prop, (∀ H', Nx1 H' → ∃ k', k' < k ∧ W1 (j + 1) k' H') ∧ ∀ x H', J.yld j H x H' → Step x H' Nx1) := by
  refine ⟨fun i m H => m = n - i ∧ i ≤ n ∧ P i H, ⟨n, by simp, Nat.zero_le _, h0⟩, ?_⟩
  rintro i m H ⟨rfl, hi, p⟩
  have q := hG i H hi p
  by_cases hlt : i < n
  · exact .inr ⟨w.goes i H hlt q, P (i + 1), fun H' p' => ⟨n - (i + 1), by omega, rfl, hlt, p'⟩, fun x H' y => hs i x H H' hlt p (w.yields i H x H' hlt q y)⟩
  · have e : i = n := by omega
    subst e
    exact .inl ⟨w.stops H q, hd H p⟩
/-- the turns of the second clause -/
def lcIn (n : Nat) (G : Tgt) (t : SemB) (f : Sem1) (en : En) : List Dv → Store → Rs Unit
  | [], m => .ok () m
  | d :: ds, m => match G (.d d) en m with
    | none => .no
    | some en' => match t en' m with
      | .ok true m1 => (match f en' m1 with
        | .ok y m2 => (match frz m2 y with
          | some (z, m3) => (match m3[n]? with
            | some (.lst acc) => if fits (acc.length + 1) then lcIn n G t f en ds (m3.set n (.lst (acc ++ [z]))) else .no
            | _ => .no)
          | none => .no)
        | _ => .no)
      | .ok false m1 => lcIn n G t f en ds m1
      | _ => .no
def lcOut (n : Nat) (G : Tgt) (t : SemB) (fi : SemF) (G1 : Tgt) (t1 : SemB) (f : Sem1) (vs1 : List Nat) (en : En) : List Dv → Store → Rs (List Dv)
  | [], m => if m.length = n + 1 then (match m[n]? with | some (.lst acc) => .ok acc (m.take n) | _ => .no) else .no
  | d :: ds, m => match G (.d d) en m with
    | none => .no
    | some en' => match t en' m with
      | .ok true m1 => (match fi en' m1 with
        | .ok ys m2 => (match lcIn n G1 t1 f (wipeE en' vs1) ys m2 with
          | .ok _ m3 => lcOut n G t fi G1 t1 f vs1 en ds m3
          | _ => .no)
        | _ => .no)
      | .ok false m1 => lcOut n G t fi G1 t1 f vs1 en ds m1
      | _ => .no
def fComp2 (fi : SemF) (G : Tgt) (t : SemB) (fi1 : SemF) (G1 : Tgt) (t1 : SemB) (f : Sem1) (vs vs1 : List Nat) : SemF := fun en m => (fi en m).bind fun xs m1 => lcOut m1.length G t fi1 G1 t1 f vs1 (wipeE en vs) xs (m1 ++ [.lst []])
section
variable {K : PySem.W.Frag} {tb : Tb} {W : WX} {X : Cx} {elt tg iter tg1 iter1 : Expr} {ifs ifs1 : List Expr} {f : Sem1} {fi fi1 : SemF} {ga ga1 : SemB} {pos : Pos} {own : List (Str × Nat)} {scope : Scope} {G G1 : Tgt} {sl sl1 vs1 : List Nat}
theorem comp2_run {own : List Nat} {σ : L2.St} {H : Hp} {Q : VK} (hsl : ∀ i ∈ sl, i ∈ own) (hsl1 : ∀ i ∈ sl1, i ∈ vs1) (q : tF K tb W (fComp2 fi G ga fi1 G1 ga1 f own vs1) σ H Q) :
    tLc2 (tI K tb W fi) (tG K tb G sl) (tB K tb WN ga) (tI K tb WN fi1) (tG K tb G1 sl1) (tB K tb WN ga1) (tE K tb WN f) own vs1 σ H Q := by
  obtain ⟨F, ρ, en, m, he, ho, q⟩ := q
  refine tI_bind he ho q fun xs m1 F1 ρ1 H1 J e1 he1 ho1 w q1 => ?_
  intro D hD
  obtain ⟨Gp, Y, wk, hG, hY⟩ := w
  obtain ⟨o0, x0⟩ := ho1.push (xs := []) (vs := []) hD .nil
  have hl : ρ1.length = m1.length := ho1.len
  refine walk_gen wk (Step := fun x H' Nx => tG K tb G sl x (wipe σ own) H' fun σ2 H2 => wipe σ2 own = wipe σ own ∧ tB K tb WN ga σ2 H2 fun b H3 =>
    if b = true then tI K tb WN fi1 σ2 H3 fun J1 H4 => ∃ W1 : Nat → Nat → Hp → Prop, (∃ m, W1 0 m H4) ∧ ∀ j k H, W1 j k H →
      (J1.stop j H ∧ Nx H) ∨ (J1.go j H ∧ ∃ Nx1 : Hp → Prop, (∀ H', Nx1 H' → ∃ k', k' < k ∧ W1 (j + 1) k' H') ∧ ∀ x H', J1.yld j H x H' → tG K tb G1 sl1 x (wipe σ2 vs1) H' fun σ3 H5 => wipe σ3 vs1 = wipe σ2 vs1 ∧ tB K tb WN ga1 σ3 H5 fun b H6 =>
        if b = true then tE K tb WN f σ3 H6 fun y H7 => ∃ acc, H7 D = some (.lst acc) ∧ acc.length < sizeLine ∧ Nx1 (upd H7 D (.lst (acc ++ [y]))) else Nx1 H6)
    else Nx H3)
    (fun i H1 => ∃ F2 ρ2 m2, Ext F1 (ρ1 ++ [D]) F2 ρ2 ∧ Wo K tb F2 ρ2 m2 H1 ∧ PostF K tb W F2 ρ1 σ Q (lcOut m1.length G ga fi1 G1 ga1 f vs1 (wipeE en own) (xs.drop i) m2)) ⟨F1, _, _, .refl _ _, o0, q1⟩ (fun i H2 _ ⟨F2, ρ2, m2, e2, o2, _⟩ => hG H2 (e2.le.trans o2.sub)) ?_ ?_
  · rintro i y H2 H3 hi ⟨F2, ρ2, m2, e2, o2, q2⟩ hy
    obtain ⟨F3, d, e3, o3, hd, rd⟩ := hY i H2 y H3 F2 ρ2 m2 hi e2.le o2 hy
    rw [List.drop_eq_getElem_cons hi] at q2
    have hd' : xs[i] = d := by
      rw [List.getElem?_eq_getElem hi] at hd
      exact Option.some.inj hd
    rw [hd'] at q2
    have q2 := PostF.ext (⟨e3.le, List.prefix_refl _⟩ : Ext F2 ρ1 F3 ρ1) q2
    have he3 : EnvOk K tb F3 ρ2 (wipeE en own) (wipe σ own) := (((he1.mono x0).mono e2).mono e3).wipes _
    refine ⟨F3, ρ2, _, m2, .d d, he3, o3, .d rd, ?_⟩
    unfold lcOut at q2
    cases eg : G (.d d) (wipeE en own) m2 with
    | none => rw [eg] at q2; exact q2.elim
    | some en' =>
      rw [eg] at q2
      dsimp only at q2
      refine fun σ' he' bu => ⟨But.wiped bu hsl, F3, ρ2, en', m2, he', o3, ?_⟩
      cases et : ga en' m2 with
      | no => rw [et] at q2; exact q2.elim
      | ex _ _ => rw [et] at q2; exact q2.elim
      | ok kk m3 =>
        rw [et] at q2
        intro F4 ρ4 H4 x4 o4
        cases kk with
        | false =>
          rw [if_neg Bool.false_ne_true]
          exact ⟨F4, ρ4, m3, (e2.trans e3).trans x4, o4, PostF.ext ⟨x4.le, List.prefix_refl _⟩ q2⟩
        | true =>
          rw [if_pos rfl]
          dsimp only at q2
          refine ⟨F4, ρ4, en', m3, he'.mono x4, o4, ?_⟩
          cases ei : fi1 en' m3 with
          | no => rw [ei] at q2; exact q2.elim
          | ex _ _ => rw [ei] at q2; exact q2.elim
          | ok ys m4 =>
            rw [ei] at q2
            dsimp only at q2
            intro F5 ρ5 H5 J1 x5 o5 w1
            obtain ⟨Gp1, Y1, wk1, hG1, hY1⟩ := w1
            have he5 : EnvOk K tb F5 ρ5 (wipeE en' vs1) (wipe σ' vs1) := ((he'.mono x4).mono x5).wipes _
            cases el : lcIn m1.length G1 ga1 f (wipeE en' vs1) ys m4 with
            | no => rw [el] at q2; exact q2.elim
            | ex _ _ => rw [el] at q2; exact q2.elim
            | ok u m9 =>
              rw [el] at q2
              have X5 : Ext F1 (ρ1 ++ [D]) F5 ρ5 := ((e2.trans e3).trans x4).trans x5
              refine walk_gen wk1 (Step := fun x H' Nx1 => tG K tb G1 sl1 x (wipe σ' vs1) H' fun σ3 H5 => wipe σ3 vs1 = wipe σ' vs1 ∧ tB K tb WN ga1 σ3 H5 fun b H6 =>
                  if b = true then tE K tb WN f σ3 H6 fun y H7 => ∃ acc, H7 D = some (.lst acc) ∧ acc.length < sizeLine ∧ Nx1 (upd H7 D (.lst (acc ++ [y]))) else Nx1 H6)
                (fun j H1 => ∃ F6 ρ6 m6, Ext F5 ρ5 F6 ρ6 ∧ Wo K tb F6 ρ6 m6 H1 ∧ lcIn m1.length G1 ga1 f (wipeE en' vs1) (ys.drop j) m6 = .ok u m9) ⟨F5, ρ5, m4, .refl _ _, o5, el⟩ (fun j H2 _ ⟨F6, ρ6, m6, e6, o6, _⟩ => hG1 H2 (e6.le.trans o6.sub)) ?_ ?_
              · rintro j y' H6 H7 hj ⟨F6, ρ6, m6, e6, o6, q6⟩ hy'
                obtain ⟨F7, d7, e7, o7, hd7, rd7⟩ := hY1 j H6 y' H7 F6 ρ6 m6 hj e6.le o6 hy'
                rw [List.drop_eq_getElem_cons hj] at q6
                have hd7' : ys[j] = d7 := by
                  rw [List.getElem?_eq_getElem hj] at hd7
                  exact Option.some.inj hd7
                rw [hd7'] at q6
                have he7 : EnvOk K tb F7 ρ6 (wipeE en' vs1) (wipe σ' vs1) := (he5.mono e6).mono e7
                refine ⟨F7, ρ6, _, m6, .d d7, he7, o7, .d rd7, ?_⟩
                unfold lcIn at q6
                cases eg1 : G1 (.d d7) (wipeE en' vs1) m6 with
                | none => rw [eg1] at q6; cases q6
                | some en1 =>
                  rw [eg1] at q6
                  dsimp only at q6
                  refine fun σ7 he7' bu7 => ⟨But.wiped bu7 hsl1, F7, ρ6, en1, m6, he7', o7, ?_⟩
                  cases et1 : ga1 en1 m6 with
                  | no => rw [et1] at q6; cases q6
                  | ex _ _ => rw [et1] at q6; cases q6
                  | ok k1 m7 =>
                    rw [et1] at q6
                    intro F8 ρ8 H8 x8 o8
                    cases k1 with
                    | false =>
                      rw [if_neg Bool.false_ne_true]
                      exact ⟨F8, ρ8, m7, (e6.trans e7).trans x8, o8, q6⟩
                    | true =>
                      rw [if_pos rfl]
                      dsimp only at q6
                      refine ⟨F8, ρ8, en1, m7, he7'.mono x8, o8, ?_⟩
                      cases ef : f en1 m7 with
                      | no => rw [ef] at q6; cases q6
                      | ex _ _ => rw [ef] at q6; cases q6
                      | ok z m8 =>
                        rw [ef] at q6
                        dsimp only at q6
                        intro F9 ρ9 H9 v x9 o9 r9
                        split at q6
                        · rename_i zz m10 hz
                          obtain ⟨F10, x10, o10, r10⟩ := frz_ok o9 r9 hz
                          split at q6
                          · rename_i acc hacc
                            have XX := (((X5.trans e6).trans e7).trans x8).trans x9
                            have hDi : ρ9[m1.length]? = some D := pre_get XX.pre (by rw [← hl]; simp)
                            obtain ⟨p1, vs, p2, p3⟩ := o10.lst _ _ _ hDi hacc
                            split at q6
                            · rename_i hf
                              exact ⟨vs, p2, by rw [← p3.length]; exact fits_lt hf, F10, ρ9, _, (((e6.trans e7).trans x8).trans x9).trans x10, o10.setL hDi hacc (p3.append (.cons r10 .nil)), q6⟩
                            · cases q6
                          · cases q6
                        · cases q6
              · rintro H6 ⟨F6, ρ6, m6, e6, o6, q6⟩
                rw [List.drop_length] at q6
                unfold lcIn at q6
                cases q6
                exact ⟨F6, ρ6, m9, X5.trans e6, o6, PostF.ext ⟨(x4.le.trans x5.le).trans e6.le, List.prefix_refl _⟩ q2⟩
  · rintro H2 ⟨F2, ρ2, m2, e2, o2, q2⟩
    rw [List.drop_length] at q2
    unfold lcOut at q2
    split at q2
    · rename_i hlen
      split at q2
      · rename_i acc hacc
        rw [← hl] at hacc q2 hlen
        obtain ⟨o3, vs, p2, p3⟩ := Wo.pop (vs := []) o2 e2.pre hlen hacc
        have := q2 F2 ρ1 _ D vs (.refl _ _) o3 (by simp) p3
        have e : upd (fun a => if a = D then none else H2 a) D (.lst vs) = H2 := by
          funext a
          by_cases h : a = D
          · subst h; rw [upd_same]; exact p2.symm
          · rw [upd_ne h, if_neg h]
        rw [e] at this
        exact this
      · exact q2.elim
    · exact q2.elim
theorem rf_comp2 (hc : X.calm = true) (hN : X.N.Nodup) (hi : RI X tb W tg iter fi) (ok : BlkOk X.N X.env.scope scope own) (hv : ∀ i ∈ vs1, i ∈ own.map (·.2))
    (hg : ∀ (s : Shared) (H : Hp) (C : Addr) (cl : List (Str × Addr)) (fp : List Addr), RG (X.blk s H scope (compEnvC scope cl C X.env) fp) tb tg G sl)
    (ht : ∀ (s : Shared) (H : Hp) (C : Addr) (cl : List (Str × Addr)) (fp : List Addr), RTs (X.blk s H scope (compEnvC scope cl C X.env) fp) tb WN ifs ga)
    (hi1 : ∀ (s : Shared) (H : Hp) (C : Addr) (cl : List (Str × Addr)) (fp : List Addr), RI (X.blk s H scope (compEnvC scope cl C X.env) fp) tb WN tg1 iter1 fi1)
    (hg1 : ∀ (s : Shared) (H : Hp) (C : Addr) (cl : List (Str × Addr)) (fp : List Addr), RG (X.blk s H scope (compEnvC scope cl C X.env) fp) tb tg1 G1 sl1)
    (ht1 : ∀ (s : Shared) (H : Hp) (C : Addr) (cl : List (Str × Addr)) (fp : List Addr), RTs (X.blk s H scope (compEnvC scope cl C X.env) fp) tb WN ifs1 ga1)
    (he : ∀ (s : Shared) (H : Hp) (C : Addr) (cl : List (Str × Addr)) (fp : List Addr), RE (X.blk s H scope (compEnvC scope cl C X.env) fp) tb WN elt f)
    (hsl : ∀ i ∈ sl, i ∈ own.map (·.2)) (hsl1 : ∀ i ∈ sl1, i ∈ vs1) (hs : ∀ x, foldedSetIterable iter X.env x = pure x := by intro _; rfl) (hs1 : ∀ env x, foldedSetIterable iter1 env x = pure x := by intro _ _; rfl) :
    RF X tb W (.ListComp elt [⟨tg, iter, ifs, 0⟩, ⟨tg1, iter1, ifs1, 0⟩] scope pos) (fComp2 fi G ga fi1 G1 ga1 f (own.map (·.2)) vs1) :=
  PE.weak (pe_lc2 (g := tG X.K tb G sl) (tt := tB X.K tb WN ga) (wi1 := tI X.K tb WN fi1) (g1 := tG X.K tb G1 sl1) (tt1 := tB X.K tb WN ga1) (te := tE X.K tb WN f) hc hN hi ok hv hg ht hi1 hg1 ht1 he hs hs1) fun σ H Q q => comp2_run hsl hsl1 q
end
end EvL
end

section
set_option Elab.async false
set_option linter.all false
set_option maxRecDepth 100000
set_option maxHeartbeats 2000000
/-! E17: the top's constants, in, tuples repeated, repr, a def held by a local -/
namespace EvL
open PySem PySem.Spec PyProof.Rows L2
section
variable {K : PySem.W.Frag} {tb : Tb} {W : WX} {X : Cx} {a b c e : Expr} {es : List Expr} {fa fb fc f : Sem1} {fl : SemL} {pos p p1 : Pos} {k : Nat} {x : Str} {D : Ends} {j : Nat}
/-! constants of the top -/
theorem re_globI {i : Int} {t : Tok} (hg : Gl X x) (hm : X.mg x = some (.int i t)) (hd : (x == ("__debug__" : Str)) = false := by decide) : RE X tb W (.Name x p) (sC (.int i)) := re_c (pe_glob (v := .int i) hg hm ⟨t, rfl⟩ hd) fun _ => .int i
theorem re_globT {A : Addr} {ns : List Int} {o : Obj} {its : Array Value} {n : Nat} (hg : Gl X x) (hm : X.mg x = some (.ref A)) (ho : X.K.lookup A = some o) (hc : o.cls = .type "tuple") (hd : o.data = .seq its n) (hz : its.size ≤ sizeLine) (hv : Vals (ns.map V.int) its.toList) (hdb : (x == ("__debug__" : Str)) = false := by decide) :
    RE X tb W (.Name x p) (sC (.tup (ns.map .int))) := re_c (pe_glob (v := .ref A) hg hm rfl hdb) fun F => .tup (.inr ⟨o, its, n, ho, hc, hd, hz, hv⟩) (RepL.ints ns)
/-- a def of the top as a value -/
theorem re_globF {n : Nat} (hg : Gl X x) (hm : X.mg x = some (.ref (tb.fnA n))) (hd : (x == ("__debug__" : Str)) = false := by decide) : RE X tb W (.Name x p) (sC (.fn n)) := re_c (pe_glob (v := .ref (tb.fnA n)) hg hm rfl hd) fun _ => .fn n
/-! in, over plain values -/
def sV : Dv → Option V
  | .non => some .non
  | .bl b => some (.bl b)
  | .int i => some (.int i)
  | .str z => some (.str z)
  | _ => none
def sVL : List Dv → Option (List V)
  | [] => some []
  | d :: ds => match sV d, sVL ds with
    | some v, some r => some (v :: r)
    | _, _ => none
theorem sV_ok {F : Hp} {d : Dv} {v u : V} (r : Rep K tb F d v) (h : sV d = some u) : v = u ∧ flatV u = true := by
  cases r <;> simp [sV] at h <;> subst h <;> exact ⟨rfl, rfl⟩
theorem sVL_ok {F : Hp} : ∀ {ds : List Dv} {vs us : List V}, RepL K tb F ds vs → sVL ds = some us → vs = us ∧ us.all flatV = true
  | [], _, _, .nil, h => by cases h; exact ⟨rfl, rfl⟩
  | d :: ds, _, us, .cons r t, h => by
    unfold sVL at h
    split at h
    · rename_i v w h1 h2
      cases h
      obtain ⟨rfl, f1⟩ := sV_ok r h1
      obtain ⟨rfl, f2⟩ := sVL_ok t h2
      exact ⟨rfl, by rw [List.all_cons, f1, f2]; rfl⟩
    · cases h
def oIn (neg : Bool) (x y : Dv) : Option Dv := match sV x, items y with
  | some v, some ys => (match sVL ys with
    | some vs => some (.bl (if neg then !inV v vs else inV v vs))
    | none => none)
  | _, _ => none
theorem Top.seqs {F H : Hp} {d : Dv} {v : V} {ys : List Dv} (l : Le F H) (t : Top K tb F H d v) (h : items d = some ys) : ∃ p vs, v = .ref p ∧ (SqL K H p vs ∨ SqT K H p vs) ∧ RepL K tb F ys vs := by
  cases t with
  | of r =>
    cases r <;> simp only [items, Option.some.injEq, reduceCtorEq] at h
    · subst h; rename_i p xs vs h1 h2; exact ⟨_, _, rfl, .inr (l.sqt h1), h2⟩
    · subst h; rename_i p xs vs h1 h2; exact ⟨_, _, rfl, .inl (.inl (.inl (l _ _ h1))), h2⟩
    · subst h; rename_i p ns h1; exact ⟨_, _, rfl, .inl (l.sql h1), RepL.ints ns⟩
  | lst h1 h2 => simp only [items, Option.some.injEq] at h; subst h; exact ⟨_, _, rfl, .inl (.inl (.inl h1)), h2⟩
  | dic h1 h2 => simp [items] at h
theorem Top.scal {F H : Hp} {d : Dv} {v u : V} (t : Top K tb F H d v) (h : sV d = some u) : v = u ∧ flatV u = true := by
  cases t with
  | of r => exact sV_ok r h
  | lst _ _ => simp [sV] at h
  | dic _ _ => simp [sV] at h
theorem opC_in (neg : Bool) : OpC X tb (rIn X.K neg) (oIn neg) := by
  intro F ρ m H x y v u d Q o tx ty e k
  unfold oIn at e
  split at e
  · rename_i w ys h1 h2
    split at e
    · rename_i vs h3
      cases e
      obtain ⟨p, us, rfl, hq, r⟩ := ty.seqs o.sub h2
      obtain ⟨rfl, f1⟩ := tx.scal h1
      obtain ⟨rfl, f2⟩ := sVL_ok r h3
      exact ⟨p, _, rfl, hq, f1, f2, k F H _ (.refl _ _) o (.bl _)⟩
    · cases e
  · cases e
theorem oIn_bl (neg : Bool) : ∀ x y d, oIn neg x y = some d → ∃ k, d = .bl k := by
  intro x y d h
  unfold oIn at h
  split at h
  · split at h
    · cases h; exact ⟨_, rfl⟩
    · cases h
  · cases h
theorem rt_in (ha : RE X tb W a fa) (hb : RE X tb W b fb) (hm : behindInMarks .In b = false := by rfl) : RT X tb W (.Compare a [.In] [b] pos) (sT (sBin (oIn false) fa fb)) := rt_cmp op_in_seq (opC_in false) (oIn_bl false) ha hb hm
theorem re_in (ha : RE X tb W a fa) (hb : RE X tb W b fb) (hm : behindInMarks .In b = false := by rfl) : RE X tb W (.Compare a [.In] [b] pos) (sBin (oIn false) fa fb) := re_cmp op_in_seq (opC_in false) ha hb hm
/-! tuple * int -/
def oRepT : Dv → Dv → Option Dv
  | .tup xs, .int k => if decide (2 ≤ k) && decide (k ≤ 1000) && decide (xs.length ≤ 1000) && !xs.isEmpty then some (.tup (List.replicate k.toNat xs).flatten) else none
  | _, _ => none
theorem opC_repT : OpC X tb (rRepT X.K) oRepT := by
  intro F ρ m H x y v u d Q o tx ty e k
  cases x <;> cases y <;> simp only [oRepT, Option.ite_none_right_eq_some, Option.some.injEq, reduceCtorEq, Bool.and_eq_true, decide_eq_true_eq, Bool.not_eq_true'] at e
  obtain ⟨⟨⟨⟨e1, e2⟩, e3⟩, e4⟩, rfl⟩ := e
  obtain ⟨l, vs, rfl, h1, r1⟩ := tx.sqt o.sub
  refine ⟨l, _, vs, rfl, ty.int, h1, fun z => ?_, e1, e2, by rw [← r1.length]; exact e3, fun p hp => ?_⟩
  · have := r1.length
    rw [z] at this
    simp at this
    rw [this] at e4
    simp at e4
  · obtain ⟨o3, e3⟩ := o.alloc hp (.tup (List.replicate _ vs).flatten)
    exact k _ _ _ e3 o3 (.tup (.inl (.inl upd_same)) ((r1.mono e3.le).rep _))
theorem re_repT (ha : RE X tb W a fa) (hb : RE X tb W b fb) : RE X tb W (.BinOp a .Mult b pos) (sBin oRepT fa fb) := re_bin op_repT opC_repT ha hb
/-! repr -/
def oRepr (d : Dv) : Option Dv := if showOk d then some (.str (cv d).shown) else none
theorem call_reprD (hg : X.A.guards = some []) (hr : Room k X.A) : CallR X (.builtin "repr") (fun xs H Q => ∃ v d, xs = [v] ∧ Dp X.K H v d ∧ d.showable = true ∧ d.hasDict = false ∧ d.shown.length ≤ 1000000 ∧ d.depth ≤ 100 ∧ Q (.str d.shown) H) := by
  intro pins s σ H xs us Q I r h
  obtain ⟨v, d, rfl, dp, z1, z2, z3, z4, q⟩ := h
  obtain ⟨u, rfl, rv⟩ := vals1 r
  obtain ⟨as, rds⟩ := Dp.reads I d v u dp rv
  have hz : d.shown.length ≤ sizeLine := by rw [sizeLine_eq]; omega
  have un := hr.un
  have fin : ∀ h' t tk, (∀ b o, s.heap.get? b = some o → h'.get? b = some o) → EP X pins σ Q (.str d.shown t) { s with heap := h', toks := tk } := fun h' t tk kk => ⟨.str d.shown, H, I.kept (t' := tk) kk, ⟨t, rfl⟩, q⟩
  cases u with
  | ref a => exact repr_of_reads' rds z1 (fun z => by rw [z2] at z; cases z) hg (by omega) (fun _ _ e => e) (fun h' t tk kk => fin h' t tk kk) hz
  | none => cases rds; exact PySem.P.repr_of_none (fin _ _ _ fun _ _ e => e)
  | bool b => cases rds; exact PySem.P.repr_of_bool (by cases b <;> exact fin _ _ _ fun _ _ e => e)
  | int i t =>
    cases rds
    exact PySem.P.repr_of_int (by simpa [PyData.showable] using z1) (fin _ _ _ fun _ _ e => e)
  | str x t => cases rds; exact PySem.P.repr_of_str (fin _ _ _ fun _ _ e => e) hz
  | _ => cases rds
theorem callC_repr : CallC X tb (fun xs H Q => ∃ v d, xs = [v] ∧ Dp X.K H v d ∧ d.showable = true ∧ d.hasDict = false ∧ d.shown.length ≤ 1000000 ∧ d.depth ≤ 100 ∧ Q (.str d.shown) H) oRepr := by
  intro F ρ m H x v d Q o tx e k
  simp only [oRepr, Option.ite_none_right_eq_some, Option.some.injEq] at e
  obtain ⟨e1, rfl⟩ := e
  obtain ⟨s1, s2, s3, s4, s5⟩ := showOk_iff e1
  exact ⟨v, cv x, rfl, tx.dp o.sub s1, s2, s3, s4, s5, k F H _ (.refl _ _) o (.str _)⟩
theorem re_repr (hgu : X.A.guards = some []) (hr : Room k X.A) (hg : Gl X "repr") (hm : X.mg "repr" = none) (ha : RE X tb W e fa) (hs : starEach [e] X.env = (false, eval e X.env) :: starEach [] X.env := by rfl) (hpl : (backTo pos (starEach [] X.env)).any (·.1) = false := by rfl) : RE X tb W (.Call (.Name "repr" p) [e] [] pos) (sUn oRepr fa) :=
  re_b1 (call_reprD hgu hr) callC_repr hg hm (by decide +kernel) ha (by decide) (by decide) hs hpl
/-! a def held by a local -/
structure Ft (P : Program) (w : World) (K : PySem.W.Frag) (mg : Str → Option Value) (gb : Heap) (tb : Tb) (k n : Nat) (g : Fs) : Prop where
  ex : ∃ (ps : List Str) (fd : FuncData), FnG P w K mg gb k (tb.fnA n) fd ps (spE K tb ps.length g) ∧ PySem.W.keepIn K (.ref (tb.fnA n)) = true ∧ Binds K fd ps [] ∧ Ar ps.length g
def sCallL (i : Nat) (N : Nat) (disp : Nat → Fs) (fl : SemL) : Sem1 := fun en m => match en[i]? with
  | some (some (.d (.fn n))) => if n < N then (fl en m).bind fun xs m1 => disp n xs m1 else .no
  | _ => .no
theorem re_callL {i N : Nat} {disp : Nat → Fs} (T : ∀ n, n < N → Ft X.prog X.w X.K X.mg X.base tb k n (disp n)) (hr : Room k X.A) (hgu : X.A.guards = some []) (tk : Takes X W) (hN : X.N[i]? = some x) (hv : Vis X.env.scope x) (ha : RA X tb W (e :: es) fl)
    (hdb : (x == ("__debug__" : Str)) = false := by decide) (hcd : (x == ("__classdict__" : Str)) = false := by decide)
    (hs : starEach (e :: es) X.env = (false, eval e X.env) :: starEach es X.env := by rfl) (hpl : (backTo pos (starEach es X.env)).any (·.1) = false := by rfl) : RE X tb W (.Call (.Name x p) (e :: es) [] pos) (sCallL i N disp fl) := by
  refine ⟨fun pins s σ H Q I q0 => ?_⟩
  obtain ⟨F, ρ, en, m, he, ho, q⟩ := tE_iff.mp q0
  unfold sCallL at q
  split at q
  · rename_i n hn
    split at q
    · rename_i hlt
      obtain ⟨v, hv1, hv2⟩ := he.at_ i _ hn
      obtain ⟨ps, fd, Fn, hk, hb, har⟩ := (T n hlt).ex
      have ev : v = .ref (tb.fnA n) := by cases hv2 with | d h => cases h; rfl
      subst ev
      refine wpAny_Call_Name_kw (thn ((pe_var (pos := p) hN hv hdb hcd).run pins s σ H (fun v H1 => v = .ref (tb.fnA n) ∧ H1 = H) I ⟨_, hv1, rfl, rfl⟩) fun u s1 ⟨v, H1, I1, r1, q1⟩ => ?_)
      obtain ⟨rfl, rfl⟩ := q1
      cases r1
      refine PySem.W.callWith_K (h₀ := X.base) I.ok.mod.kin hk (thn (ha.run pos pins s1 σ _ (fun vs H2 => spE X.K tb ps.length (disp n) (vs ++ []) H2 Q (WE W σ)) I1 ?_) fun us s2 ⟨vs, H2, I2, r, q2⟩ => ⟨I2.kIn, runG Fn hr hgu hb .nil tk I2 r q2⟩) hs hpl
      refine tEL_bind he ho q fun xs m1 F1 ρ1 H1 vs e1 he1 ho1 r1 q1 => ?_
      rw [List.append_nil]
      exact spE_of (ar_of har q1) r1 ho1 q1
    · exact q.elim
  · exact q.elim
end
end EvL
end

section
set_option Elab.async false
set_option linter.all false
set_option maxRecDepth 100000
set_option maxHeartbeats 4000000
/-! E18: + and * of all kinds -/
namespace EvL
open PySem PySem.Spec PyProof.Rows L2
theorem tuple_mul1 (l : Addr) (items : Array Value) (n : Nat) (dd : Option Addr) (sl : Array (Option Value)) (u : Tok) :
    Meets (Builtin.«tuple.__mul__» ⟨[.ref l, .int 1 u], []⟩) (fun _ R s => s.heap.get? l = some { cls := .type "tuple", dict := dd, data := .seq items n, slots := sl } ∧ R (.ok (.ret (Value.ref l))) s) :=
  .of_wp fun prog w A R s h => by
    obtain ⟨hp, g, d, tk, os⟩ := s
    obtain ⟨hl, h⟩ := h
    have f1 := AutoSeq1.idx_int
    have c0 : (decide ((1 : Int) < -(2 ^ 63)) || decide ((1 : Int) ≥ 2 ^ 63)) = false := by decide
    have c1 : (items.isEmpty || (1 : Int) == 1) = true := by rw [show ((1 : Int) == 1) = true from rfl, Bool.or_true]
    wp_walk using AutoSeq1.wpAny_loadPart' hl
    exact ⟨_, rfl, h⟩
section
variable {K : PySem.W.Frag} {tb : Tb} {W : WX} {X : Cx} {a b c e : Expr} {fa fb fc f : Sem1} {pos p p1 : Pos} {k : Nat}
def rRep1 (K : PySem.W.Frag) : R2 := fun x y H Q => ∃ l xs, x = .ref l ∧ y = .int 1 ∧ SqT K H l xs ∧ Q (.ref l) H
theorem op_rep1 : OpR X (binaryOp .Mult) (rRep1 X.K) := by
  intro pins s σ H x y v u Q I rx ry h
  obtain ⟨l, xs, rfl, rfl, hT, q⟩ := h
  cases rx
  obtain ⟨t, rfl⟩ := ry
  obtain ⟨its, r, ⟨⟨cls, dd, data, sl⟩, ho, hc, n, hd⟩, hs⟩ := I.tuple hT
  simp only at hc hd
  subst hc hd
  refine wpAny_binaryOp_repeat_ref (T := "tuple") (U := "int") (by decide) ⟨_, ho, rfl⟩ (fun s' => typeIs_int s' 1 t) noFill_tuple_mul F.fills_int_mul F.slot_int_rmul repeat_tuple F.slot_int_index.lookup
    (call_meets F.slot_int_rmul (typeIs_int s 1 t) F.entry_int_rmul (F.args_int_rmul_2 _ _) (int_rmul_tuple 1 t l its.toArray n dd sl)
      ⟨ho, rfl, ⟨_, ho, rfl⟩, call_meets F.slot_tuple_mul ⟨_, ho, rfl⟩ F.entry_tuple_mul (F.args_tuple_mul_2 _ _) (tuple_mul1 l its.toArray n dd sl t) ⟨ho, ?_⟩⟩)
  exact ⟨.ref l, H, I, rfl, q⟩
theorem OpR.or {op : Value → Value → Sem Value} {r r' : R2} (h : OpR X op r) (h' : OpR X op r') : OpR X op (fun x y H Q => r x y H Q ∨ r' x y H Q) := by
  intro pins s σ H x y v u Q I rx ry q
  rcases q with q | q
  · exact h pins s σ H x y v u Q I rx ry q
  · exact h' pins s σ H x y v u Q I rx ry q
def orO (o o' : Dv → Dv → Option Dv) : Dv → Dv → Option Dv := fun x y => match o x y with | some d => some d | none => o' x y
theorem OpC.or {r r' : R2} {o o' : Dv → Dv → Option Dv} (h : OpC X tb r o) (h' : OpC X tb r' o') : OpC X tb (fun x y H Q => r x y H Q ∨ r' x y H Q) (orO o o') := by
  intro F ρ m H x y v u d Q w tx ty e k
  unfold orO at e
  split at e
  · rename_i d' hd
    cases e
    exact .inl (h F ρ m H x y v u _ Q w tx ty hd k)
  · exact .inr (h' F ρ m H x y v u d Q w tx ty e k)
/-- a fresh list that stands still at once -/
def frO (o : Dv → Dv → Option (List Dv)) : Dv → Dv → Option Dv := fun x y => (o x y).map .lst
theorem frC {r : R2} {o : Dv → Dv → Option (List Dv)} (h : OpF X tb r o) : OpC X tb r (frO o) := by
  intro F ρ m H x y v u d Q w tx ty e k
  cases e2 : o x y with
  | none => rw [frO, e2] at e; cases e
  | some ds =>
    rw [frO, e2] at e
    cases e
    refine h F ρ m H x y v u ds Q w tx ty e2 fun p vs hp r => ?_
    obtain ⟨o3, e3⟩ := w.alloc hp (.lst vs)
    exact k _ _ _ e3 o3 (.lst upd_same (r.mono e3.le))
def oRep1 : Dv → Dv → Option Dv
  | .tup xs, .int k => if k = 1 then some (.tup xs) else none
  | _, _ => none
theorem opC_rep1 : OpC X tb (rRep1 X.K) oRep1 := by
  intro F ρ m H x y v u d Q o tx ty e k
  cases x <;> cases y <;> simp only [oRep1, Option.ite_none_right_eq_some, Option.some.injEq, reduceCtorEq] at e
  obtain ⟨rfl, rfl⟩ := e
  cases tx with
  | of r =>
    have ey := ty.int
    cases r with
    | tup h r => exact ⟨_, _, rfl, ey, o.sub.sqt h, k F H _ (.refl _ _) o (.tup h r)⟩
def oAddP : Dv → Dv → Option Dv := orO oAdd (orO oCatT (frO oCatL))
def oMulP : Dv → Dv → Option Dv := orO oMul (orO oRep1 (orO oRepT (frO oRepL)))
theorem re_addP (ha : RE X tb W a fa) (hb : RE X tb W b fb) : RE X tb W (.BinOp a .Add b pos) (sBin oAddP fa fb) :=
  re_bin (OpR.or op_add (OpR.or op_catA op_cat)) (OpC.or (opC_i fun i j F => .int _) (OpC.or opC_catT (frC opF_cat))) ha hb
theorem re_mulP (ha : RE X tb W a fa) (hb : RE X tb W b fb) : RE X tb W (.BinOp a .Mult b pos) (sBin oMulP fa fb) :=
  re_bin (OpR.or op_mul (OpR.or op_rep1 (OpR.or op_repT op_rep))) (OpC.or (opC_iC (fun i j h => by simp only [mulOk, Bool.or_eq_true, decide_eq_true_eq] at h; unfold CMul; omega) fun i j F => .int _) (OpC.or opC_rep1 (OpC.or opC_repT (frC opF_rep)))) ha hb
/-- a script's slice: a fresh list -/
theorem re_neg' (ha : RE X tb W a fa) : RE X tb W (.UnaryOp .USub a pos) (sUn oNeg fa) := re_neg ha
end
@[simp] theorem oAddP_i (i j : Int) : oAddP (.int i) (.int j) = some (.int (i + j)) := rfl
@[simp] theorem oAddP_t (xs ys : List Dv) (h : fits (xs.length + ys.length) = true) : oAddP (.tup xs) (.tup ys) = some (.tup (xs ++ ys)) := by simp [oAddP, orO, iop, oCatT, h]
@[simp] theorem oAddP_l (xs ys : List Dv) (h : fits (xs.length + ys.length) = true) : oAddP (.lst xs) (.lst ys) = some (.lst (xs ++ ys)) := by simp [oAddP, orO, iop, oCatT, frO, oCatL, h]
@[simp] theorem oMulP_i (i j : Int) (h : mulOk i j = true) : oMulP (.int i) (.int j) = some (.int (i * j)) := by simp [oMulP, orO, iopC, h]
theorem oMulP_t1 (xs : List Dv) : oMulP (.tup xs) (.int 1) = some (.tup xs) := by simp [oMulP, orO, iopC, oRep1]
theorem oMulP_t (xs : List Dv) (k : Int) (h1 : 2 ≤ k) (h2 : k ≤ 1000) (h3 : xs.length ≤ 1000) (h4 : xs ≠ []) : oMulP (.tup xs) (.int k) = some (.tup (List.replicate k.toNat xs).flatten) := by
  have e : k ≠ 1 := by omega
  simp [oMulP, orO, iopC, oRep1, oRepT, h1, h2, h3, h4, e]
theorem oMulP_l (xs : List Dv) (k : Int) (h1 : -1000 ≤ k) (h2 : k ≤ 1000) (h3 : xs.length ≤ 1000) : oMulP (.lst xs) (.int k) = some (.lst (List.replicate k.toNat xs).flatten) := by
  simp [oMulP, orO, iopC, oRep1, oRepT, frO, oRepL, h1, h2, h3]
end EvL
end

section
set_option Elab.async false
set_option linter.all false
set_option maxRecDepth 100000
set_option maxHeartbeats 4000000
/-! E19: facts in the form in which a printed proof takes them -/
namespace EvL
open PySem PySem.Spec PyProof.Rows L2
/-- an int of the top -/
def ConI (mg : Str → Option Value) (x : Str) (i : Int) : Prop := ∃ t, mg x = some (.int i t)
/-- a tuple of ints of the top -/
def ConT (K : PySem.W.Frag) (mg : Str → Option Value) (x : Str) (ns : List Int) : Prop := ∃ (A : Addr) (o : Obj) (its : Array Value) (n : Nat), mg x = some (.ref A) ∧ K.lookup A = some o ∧ o.cls = .type "tuple" ∧ o.data = .seq its n ∧ its.size ≤ sizeLine ∧ Vals (ns.map V.int) its.toList
/-- an error class with an __init__ -/
structure Er1 (P : Program) (K : PySem.W.Frag) (mg : Str → Option Value) (tb : Tb) (ci : Nat) (x f pref : Str) : Prop where
  ex : ∃ fI, PySem.EvX.ErrTxt P K mg x f pref (tb.clA ci) fI
  xf : XfC K (tb.clA ci)
/-- one without -/
structure Er0 (K : PySem.W.Frag) (mg : Str → Option Value) (tb : Tb) (ci : Nat) (x : Str) : Prop where
  q : ∃ (B newId initId : String) (bmB : List Value), ExcBaseFacts B newId initId bmB ∧ PySem.W.excIn K (tb.clA ci) bmB newId = true
  gC : mg x = some (.ref (tb.clA ci))
  kC : PySem.W.keepIn K (.ref (tb.clA ci)) = true
  exC : PySem.W.subIn K (.ref (tb.clA ci)) (.type "BaseException") = some true
  tyC : PySem.W.typeIn K (.ref (tb.clA ci)) = some (.type "type")
section
variable {K : PySem.W.Frag} {tb : Tb} {W : WX} {X : Cx} {a b c e : Expr} {fa fb fc f : Sem1} {pos p p1 pos2 p2 : Pos} {k ci j : Nat} {x fl pref : Str}
theorem rg_int {i : Int} (hm : ConI X.mg x i) (hg : Gl X x) (hd : (x == ("__debug__" : Str)) = false := by decide) : RE X tb W (.Name x p) (sC (.int i)) := by
  obtain ⟨t, h⟩ := hm
  exact re_globI hg h hd
theorem rg_tupI {ns : List Int} (hm : ConT X.K X.mg x ns) (hg : Gl X x) (hd : (x == ("__debug__" : Str)) = false := by decide) : RE X tb W (.Name x p) (sC (.tup (ns.map .int))) := by
  obtain ⟨A, o, its, n, h1, h2, h3, h4, h5, h6⟩ := hm
  exact re_globT hg h1 h2 h3 h4 h5 h6 hd
theorem rs_err (hc : X.calm = true) (tk : Takes X W) (T : Er1 X.prog X.K X.mg tb ci x fl pref) (hr : Room k X.A) (hgu : X.A.guards = some []) (ha : RE X tb W a fa) (hg : Gl X x) (hdb : (x == ("__debug__" : Str)) = false := by decide)
    (he : starEach (a :: []) X.env = (false, eval a X.env) :: starEach [] X.env := by rfl) (hpl : (backTo pos (starEach [] X.env)).any (·.1) = false := by rfl) : RS X tb W (.Raise (some (.Call (.Name x p) [a] [] pos)) none pos2) (gRaise ci fl fa) := by
  obtain ⟨fI, T1⟩ := T.ex
  exact rs_raise hc tk T1 hr hgu ha hg hdb he hpl
theorem pmk_own0 {C : Addr} {bmB : List Value} {B newId initId : String} (F : ExcBaseFacts B newId initId bmB) (q : PySem.W.excIn X.K C bmB newId = true) (gC : X.mg x = some (.ref C)) (kC : PySem.W.keepIn X.K (.ref C) = true) (r : Raises X (.ref C)) (hg : Gl X x)
    (hdb : (x == ("__debug__" : Str)) = false := by decide) : PMk X (.Call (.Name x p) [] [] pos) (fun _ H Q => Q (.ref C) none H) := by
  intro pins s σ H Q I h
  refine wpAny_Call_Name_kw (ld_glob I hg gC ?_ hdb)
  refine PySem.W.callWith_K0 I.kIn kC ?_
  show wpAny _ _ (call (.ref C) []) _ _ _
  obtain ⟨bm, N, nm, qn, bs, hdct, sn, sub, ab, col, dd, k0, k1, k2, k3, k5, mN, hC, hN, hni, T⟩ := exc_obj I.kIn q
  refine wpAny_call_exc_subT F T hC hN hni (fun h' e hm => ?_) (Nat.zero_le _)
  exact mk_of I hm r h (I.hok.gone hm.new)
theorem rs_err0 (hc : X.calm = true) (tk : Takes X W) (T : Er0 X.K X.mg tb ci x) (hg : Gl X x) (hdb : (x == ("__debug__" : Str)) = false := by decide) : RS X tb W (.Raise (some (.Call (.Name x p) [] [] pos)) none pos2) (gRaise0 ci) := by
  obtain ⟨B, n1, n2, bmB, F, q⟩ := T.q
  refine PS.weak (ps_raise hc tk (pmk_own0 F q T.gC T.kC (raises_own T.exC T.tyC) hg hdb)) fun D σ H q => ?_
  obtain ⟨F, ρ, en, m, he, ho, q⟩ := q
  exact q F ρ σ H _ none (.refl _ _) he ho ⟨rfl, trivial⟩
theorem Er1.no {P : Program} {mg : Str → Option Value} (T : Er1 P K mg tb ci x fl pref) : PySem.W.findIn K (.ref (tb.clA ci)) fl = some none := by
  obtain ⟨fI, T1⟩ := T.ex
  exact T1.noN
theorem Er1.mg {P : Program} {mg : Str → Option Value} (T : Er1 P K mg tb ci x fl pref) : mg x = some (.ref (tb.clA ci)) := by
  obtain ⟨fI, T1⟩ := T.ex
  exact T1.gC
/-! except clauses -/
variable {n : Nat} {nm : Str} {i x1 : Nat} {np hp p3 p4 p5 : Pos} {kk : Str} {hs : List ExceptHandler} {l : List (Nat × Cl)} {ts : List (Value × Option Nat × Suit)}
theorem rc_fld (T : Er1 X.prog X.K X.mg tb ci x fl pref) (hg : Gl X x) (hi : X.N[i]? = some nm) (hln : X.env.kindOf nm = some .local) (hn : ci < n) (r : RCl X tb n hs l ts) (hdb : (x == ("__debug__" : Str)) = false := by decide) (hv : (nm == ("__debug__" : Str)) = false := by decide) (hv2 : (nm == ("__classdict__" : Str)) = false := by decide)
    (hb : attributeBase (.Name nm p2) fl X.env (eval (.Name nm p2) X.env) = eval (.Name nm p2) X.env := by rfl)
    (he : starEach [.Constant (.str kk) j p1, .Attribute (.Name nm p2) fl p3] X.env = (false, eval (.Constant (.str kk) j p1) X.env) :: starEach [.Attribute (.Name nm p2) fl p3] X.env := by rfl)
    (he2 : starEach [.Attribute (.Name nm p2) fl p3] X.env = (false, eval (.Attribute (.Name nm p2) fl p3) X.env) :: starEach [] X.env := by rfl) :
    RCl X tb n (.ExceptHandler (some (.Name x np)) (some nm) [.Return (some (.Tuple [.Constant (.str kk) j p1, .Attribute (.Name nm p2) fl p3] x1 p4)) p5] hp :: hs) ((ci, .fld i kk fl) :: l) ((.ref (tb.clA ci), some i, tsFld X.K (tb.clA ci) i kk fl) :: ts) :=
  .fld hi hln hv hv2 hn ⟨hg, hdb, .inl T.mg⟩ T.xf T.no hb he he2 r
theorem rc_sts {g : SemS} {st : Stmt} {sts : List Stmt} (hm : X.mg x = some (.ref (tb.clA ci))) (hg : Gl X x) (hn : ci < n) (hsu : ∀ (a : Addr) (pn : List (Addr × Obj)), RSs (X.suite a pn) tb WN (st :: sts) g) (r : RCl X tb n hs l ts) (hdb : (x == ("__debug__" : Str)) = false := by decide) :
    RCl X tb n (.ExceptHandler (some (.Name x np)) none (st :: sts) hp :: hs) ((ci, .sts g) :: l) ((.ref (tb.clA ci), none, fun _ _ _ => tS X.K tb WN g) :: ts) := .sts hn ⟨hg, hdb, .inl hm⟩ hsu r
end
end EvL
end

section
set_option Elab.async false
set_option linter.all false
set_option maxRecDepth 100000
set_option maxHeartbeats 4000000
/-! E20: slices of both kinds, fresh lists kept, ranges, more forms for printed proofs -/
namespace EvL
open PySem PySem.Spec PyProof.Rows L2
section
variable {K : PySem.W.Frag} {tb : Tb} {W : WX} {X : Cx} {a b c e : Expr} {es : List Expr} {fa fb fc f : Sem1} {ff : SemF} {pos p p1 p2 : Pos} {k j : Nat} {x : Str} {lo hi : Option Expr} {ol oh : SemO}
theorem PE.or {t1 t2 : TE} (h1 : PE X e t1) (h2 : PE X e t2) : PE X e (fun σ H Q => t1 σ H Q ∨ t2 σ H Q) := ⟨fun pins s σ H Q I q => by
  rcases q with q | q
  · exact h1.run pins s σ H Q I q
  · exact h2.run pins s σ H Q I q⟩
/-- one reading where it says something, else the other -/
def sElse (f g : Sem1) : Sem1 := fun en m => match f en m with
  | .no => g en m
  | r => r
theorem re_else {g : Sem1} (h1 : RE X tb W e f) (h2 : RE X tb W e g) : RE X tb W e (sElse f g) := by
  refine PE.weak (PE.or h1 h2) fun σ H Q q => ?_
  obtain ⟨F, ρ, en, m, he, ho, q⟩ := tE_iff.mp q
  unfold sElse at q
  cases ef : f en m with
  | no => rw [ef] at q; exact .inr (tE_iff.mpr ⟨F, ρ, en, m, he, ho, q⟩)
  | ok y m1 => rw [ef] at q; exact .inl (tE_iff.mpr ⟨F, ρ, en, m, he, ho, by rw [ef]; exact q⟩)
  | ex y m1 => rw [ef] at q; exact .inl (tE_iff.mpr ⟨F, ρ, en, m, he, ho, by rw [ef]; exact q⟩)
def sSlP (fa : Sem1) (ol oh : SemO) : Sem1 := sElse (sSlT fa ol oh) (sF (fSlL fa ol oh))
theorem re_slP (h : RE X tb W e fa) (hl : RO X tb W lo ol) (hh : RO X tb W hi oh) : RE X tb W (.Subscript e (.Slice lo hi none p2) pos) (sSlP fa ol oh) := re_else (re_slT h hl hh) (re_f (rf_slL h hl hh))
/-- a fresh list as a thing of the store -/
def sNew (ff : SemF) : Sem1 := fun en m => (ff en m).bind fun xs m1 => .ok (.o m1.length) (m1 ++ [.lst xs])
theorem re_new (h : RF X tb W e ff) : RE X tb W e (sNew ff) := by
  refine PE.weak h fun σ H Q q => ?_
  obtain ⟨F, ρ, en, m, he, ho, q⟩ := tE_iff.mp q
  refine ⟨F, ρ, en, m, he, ho, ?_⟩
  unfold sNew at q
  cases ef : ff en m with
  | ok xs m1 =>
    rw [ef] at q
    intro F' ρ' H' p vs ex o hp r
    obtain ⟨o3, e3⟩ := o.push hp r
    exact q F' _ _ _ (ex.trans e3) o3 (.o (by rw [← o.len]; simp))
  | ex y m1 => rw [ef] at q; exact q
  | no => rw [ef] at q; exact q
theorem Fo.up {P : Program} {w : World} {K : PySem.W.Frag} {mg : Str → Option Value} {gb : Heap} {j k : Nat} {ps : List Str} {g : Fs} {f : Addr} {fd : FuncData} (F : Fo P w K mg gb tb j x ps g f fd) (h : j ≤ k) : Fo P w K mg gb tb k x ps g f fd := ⟨F.ok.up h, F.mg, F.kp, F.bd⟩
/-- texts compared -/
def oEqS : Dv → Dv → Option Dv
  | .str x, .str y => some (.bl (decide (x = y)))
  | _, _ => none
theorem opC_eqS : OpC X tb rEq oEqS := by
  intro F ρ m H x y v u d Q o tx ty e k
  cases x <;> cases y <;> simp only [oEqS, Option.some.injEq, reduceCtorEq] at e
  subst e
  rename_i x y
  rw [tx.str, ty.str]
  refine ⟨rfl, ?_⟩
  have e2 : decide (V.str x = V.str y) = decide (x = y) := by
    by_cases h : x = y
    · simp [h]
    · have : ¬ V.str x = V.str y := fun z => h (by injection z)
      simp [h, this]
  rw [e2]
  exact k F H _ (.refl _ _) o (.bl _)
theorem re_eqS (ha : RE X tb W a fa) (hb : RE X tb W b fb) : RE X tb W (.Compare a [.Eq] [b] pos) (sBin oEqS fa fb) := re_cmp op_eq opC_eqS ha hb (nomark _)
def fRange1 (f : Sem1) : SemF := fun en m => (f en m).bind fun x m1 => match rv m1 x with
  | some (.int j) => if decide (0 ≤ j) && decide (j ≤ 16777216) then .ok (rng 0 j) m1 else .no
  | _ => .no
theorem rep_rng {F : Hp} (lo hi : Int) : RepL K tb F (rng lo hi) (rgV lo hi) := by
  unfold rng rgV
  have : ∀ l : List Nat, RepL K tb F (l.map fun (i : Nat) => Dv.int (lo + (i : Int))) (l.map fun i => V.int (lo + (i : Nat))) := fun l => by
    induction l with
    | nil => exact .nil
    | cons i l ih => exact .cons (.int _) ih
  exact this _
theorem rf_listR1 (hc : X.calm = true) (hl : Gl X "list") (hml : X.mg "list" = none) (hg : Gl X "range") (hm : X.mg "range" = none) (ha : RE X tb W a fa) (na : starEach [a] X.env = (false, eval a X.env) :: starEach [] X.env := by rfl)
    (nb : starEach [.Call (.Name "range" p) [a] [] pos] X.env = (false, eval (.Call (.Name "range" p) [a] [] pos) X.env) :: starEach [] X.env := by rfl) : RF X tb W (.Call (.Name "list" p1) [.Call (.Name "range" p) [a] [] pos] [] p2) (fRange1 fa) := by
  refine PE.weak (pe_listRg hc hl hml (prg_1 hg hm ha na) nb) fun σ H Q q => ?_
  obtain ⟨F, ρ, en, m, he, ho, q⟩ := q
  refine tE_bindF he ho q fun x m1 F1 ρ1 H1 v e1 he1 ho1 r1 q1 => ?_
  split at q1
  · rename_i j hj
    split at q1
    · rename_i hz
      simp only [Bool.and_eq_true, decide_eq_true_eq] at hz
      exact ⟨j, by rw [(rv_top ho1 r1 hj).int], RgOk.of_le (by omega) hz.2 (by omega) hz.1, fun p hp => q1 F1 ρ1 H1 p _ (.refl _ _) ho1 hp (rep_rng 0 j)⟩
    · exact q1.elim
  · exact q1.elim
end
end EvL
end

section
set_option Elab.async false
set_option linter.all false
set_option maxRecDepth 100000
set_option maxHeartbeats 4000000
/-! E21a: a zip drawn by a list -/
namespace PySem
namespace EvZ
open Sem (wp)
section
variable {prog : Program} {w : World} {A : Around} {E : Value → Shared → Prop} {s : Shared}
theorem wpAny_ifAlive {a : Addr} {Q : Option Obj → Shared → Prop} (h : Q (s.heap.get? a) s) : wpAny (model prog w) A (loadIfAlive a) Q E s :=
  fun Γ p hΓ => by
    show wp _ Γ (Sem.loadIfAlive a Sem.pure) (fun a _ s' => Q a s') (fun e _ s' => E e s') p s
    rw [Sem.wp_loadIfAlive, Sem.wp_pure]
    exact h
/-- a zip's record -/
abbrev ZR (h : Heap) (z TI TO : Addr) (f0 f1 : Value) : Prop := h.get? z = some { cls := .type "zip", dict := none, data := .fields #[f0, f1, .bool false, .ref TI, .ref TO], slots := #[] }
/-- the tuple handed out before lives on: no own tuple is free -/
theorem notFree {z TI TO T : Addr} {t : Tok} {f1 : Value} {o : Obj} {Q : Bool → Shared → Prop} (hz : ZR s.heap z TI TO (.int T t) f1) (hT : s.heap.get? T = some o) (hf : f1 = .bool true ∨ f1 = .bool false)
    (h : ∀ h', ZR h' z TI TO (.int T t) (.bool true) → Heap.SameBut z s.heap h' → Q false { s with heap := h' }) : wpAny (model prog w) A (Builtin.SmallTypes.ownedTupleIsFree (.ref z)) Q E s := by
  unfold Builtin.SmallTypes.ownedTupleIsFree
  refine wpAny_bind (wpAny_field hz rfl (x := .int T t) rfl ?_)
  show wpAny _ _ (loadIfAlive (T : Int).toNat >>= _) _ _ _
  refine wpAny_bind (wpAny_ifAlive ?_)
  have hT' : s.heap.get? (T : Int).toNat = some o := by simpa using hT
  rw [hT']
  simp only [Option.isNone_some, Bool.false_eq_true, if_false]
  refine wpAny_bind (wpAny_field hz rfl (x := f1) rfl ?_)
  rcases hf with rfl | rfl
  · simp
    exact wpAny_pure (h s.heap hz ⟨rfl, fun _ _ => rfl⟩)
  · simp
    refine wpAny_bind (wpAny_setField_rec hz (by simp) fun h' hz' hs => ?_)
    refine wpAny_pure (h _ hz' hs)

/-- a tuple of one -/
abbrev IsTupOf1 (h : Heap) (T : Addr) (a1 : Value) : Prop := h.get? T = some { cls := .type "tuple", data := .seq #[a1] }

theorem znew1 {z TI TO T i1 : Addr} {fp1 : List Addr} {n1 i : Nat} {P1 : Nat → Value → Prop} {St1 : Nat → Heap → Prop} {t : Tok} {f1 : Value} {o : Obj} {Q : Value → Shared → Prop}
    (D1 : Draws prog w A i1 fp1 n1 P1 St1) (a1 : z ∉ fp1)  (e1 : z ≠ i1)
    (hz : ZR s.heap z TI TO (.int T t) f1) (hT : s.heap.get? T = some o) (hf : f1 = .bool true ∨ f1 = .bool false) (hTI : IsTupOf1 s.heap TI (.ref i1)) (st1 : St1 i s.heap) (h1 : i < n1)
    (hQ : ∀ x1 h' tk, P1 i x1 → ZR h' z TI TO (.int T t) (.bool true) → St1 (i + 1) h' → IsTupOf1 h' s.heap.objs.size x1 → h'.objs.size = s.heap.objs.size + 1 →
      (∀ c o, c ≠ z → c ≠ i1 → s.heap.get? c = some o → h'.get? c = some o) → Q (.ref s.heap.objs.size) { s with heap := h', toks := tk }) :
    wpAny (model prog w) A (Builtin.«zip.__next__» ⟨[.ref z], []⟩) (fun fin s' => ∃ v, fin = .done (.ret v) ∧ Q v s') E s := by
  obtain ⟨hp, g, d, tk0, os⟩ := s
  show wpAny _ _ (field (.ref z) 2 >>= fun _ => _) _ _ _
  refine wpAny_bind (wpAny_field hz rfl (x := .bool false) rfl ?_)
  show wpAny _ _ (field (.ref z) 3 >>= fun _ => _) _ _ _
  refine wpAny_bind (wpAny_field hz rfl (x := .ref TI) rfl (wpAny_bind (wpAny_seqItems hTI rfl ?_)))
  show wpAny _ _ (Builtin.SmallTypes.ownedTupleIsFree (.ref z) >>= fun _ => _) _ _ _
  refine wpAny_bind (notFree hz hT hf fun g0 hz0 hs0 => ?_)
  simp only [Bool.false_eq_true, if_false]
  replace hs0 : Heap.SameBut z hp g0 := hs0
  refine wpAny_bind ?_
  simp only [List.forIn_toArray, List.forIn_cons, List.forIn_nil]
  refine wpAny_bind (wpAny_bind (wpAny_holding ?_))
  show wpAny _ _ (Builtin.SmallTypes.nextOf (.ref i1) >>= fun _ => _) _ _ _
  refine wpAny_bind (D1.item i _ _ _ h1 (D1.over st1 hs0 a1) fun x1 p1 tk1 y1 sn1 hp1 => wpAny_pure ?_)
  replace hp1 : Heap.SameBut i1 g0 p1 := hp1
  refine wpAny_pure (wpAny_pure ?_)
  show wpAny _ _ (newTuple [x1] >>= fun _ => _) _ _ _
  refine wpAny_bind (wpAny_newTuple ?_)
  have hsz : p1.objs.size = hp.objs.size := by rw [hp1.1, hs0.1]
  have hz2 : ZR p1 z TI TO (.int T t) (.bool true) := hp1.extBut _ _ e1 (hz0)
  have j1 : St1 (i + 1) p1 := sn1
  refine wpAny_pure ⟨_, rfl, ?_⟩
  show Q (.ref p1.objs.size) ⟨p1.push { cls := .type "tuple", data := .seq #[x1] }, g, d, tk1, os⟩
  have new : IsTupOf1 (p1.push { cls := .type "tuple", data := .seq #[x1] }) p1.objs.size x1 := Heap.get?_push_size _ rfl
  have nsz : (p1.push { cls := .type "tuple", data := .seq #[x1] }).objs.size = p1.objs.size + 1 := Heap.size_push ..
  rw [hsz] at new nsz
  rw [hsz]
  exact hQ x1 _ tk1 y1 (Heap.get?_push_of_some _ hz2) (D1.frame _ _ _ j1 fun b _ o e => Heap.get?_push_of_some _ e) new nsz fun c o c0 c1 e => Heap.get?_push_of_some _ (hp1.extBut _ _ c1 (hs0.extBut _ _ c0 e))
theorem zend1 {z TI TO T i1 : Addr} {fp1 : List Addr} {n1 : Nat} {P1 : Nat → Value → Prop} {St1 : Nat → Heap → Prop} {t : Tok} {f1 : Value} {o : Obj} {Q : Fin → Shared → Prop}
    (D1 : Draws prog w A i1 fp1 n1 P1 St1) (a1 : z ∉ fp1)
    (hz : ZR s.heap z TI TO (.int T t) f1) (hT : s.heap.get? T = some o) (hf : f1 = .bool true ∨ f1 = .bool false) (hTI : IsTupOf1 s.heap TI (.ref i1)) (st1 : St1 n1 s.heap)
    (hE : ∀ h' tk e, (∀ c o, c ≠ z → c ≠ i1 → s.heap.get? c = some o → h'.get? c = some o) → (∃ o, h'.get? e = some o ∧ o.cls = .type "StopIteration") → E (.ref e) { s with heap := h', toks := tk }) :
    wpAny (model prog w) A (Builtin.«zip.__next__» ⟨[.ref z], []⟩) Q E s := by
  obtain ⟨hp, g, d, tk0, os⟩ := s
  show wpAny _ _ (field (.ref z) 2 >>= fun _ => _) _ _ _
  refine wpAny_bind (wpAny_field hz rfl (x := .bool false) rfl ?_)
  show wpAny _ _ (field (.ref z) 3 >>= fun _ => _) _ _ _
  refine wpAny_bind (wpAny_field hz rfl (x := .ref TI) rfl (wpAny_bind (wpAny_seqItems hTI rfl ?_)))
  show wpAny _ _ (Builtin.SmallTypes.ownedTupleIsFree (.ref z) >>= fun _ => _) _ _ _
  refine wpAny_bind (notFree hz hT hf fun g0 hz0 hs0 => ?_)
  simp only [Bool.false_eq_true, if_false]
  replace hs0 : Heap.SameBut z hp g0 := hs0
  refine wpAny_bind ?_
  simp only [List.forIn_toArray, List.forIn_cons, List.forIn_nil]
  refine wpAny_bind (wpAny_bind (wpAny_holding ?_))
  show wpAny _ _ (Builtin.SmallTypes.nextOf (.ref i1) >>= fun _ => _) _ _ _
  refine wpAny_bind (D1.done ⟨g0, g, d, tk0, os⟩ _ _ (D1.over st1 hs0 a1) fun q e hq he => ?_)
  exact hE q tk0 e (fun c o c0 c1 x => hq _ _ c1 (hs0.extBut _ _ c0 x)) he
theorem znew2 {z TI TO T i1 i2 : Addr} {fp1 fp2 : List Addr} {n1 n2 i : Nat} {P1 P2 : Nat → Value → Prop} {St1 St2 : Nat → Heap → Prop} {t : Tok} {f1 : Value} {o : Obj} {Q : Value → Shared → Prop}
    (D1 : Draws prog w A i1 fp1 n1 P1 St1) (D2 : Draws prog w A i2 fp2 n2 P2 St2) (a1 : z ∉ fp1) (a2 : z ∉ fp2) (c12 : i1 ∉ fp2) (c21 : i2 ∉ fp1) (e1 : z ≠ i1) (e2 : z ≠ i2)
    (hz : ZR s.heap z TI TO (.int T t) f1) (hT : s.heap.get? T = some o) (hf : f1 = .bool true ∨ f1 = .bool false) (hTI : IsTupOf2 s.heap TI (.ref i1) (.ref i2)) (st1 : St1 i s.heap) (st2 : St2 i s.heap) (h1 : i < n1) (h2 : i < n2)
    (hQ : ∀ x1 x2 h' tk, P1 i x1 → P2 i x2 → ZR h' z TI TO (.int T t) (.bool true) → St1 (i + 1) h' → St2 (i + 1) h' → IsTupOf2 h' s.heap.objs.size x1 x2 → h'.objs.size = s.heap.objs.size + 1 →
      (∀ c o, c ≠ z → c ≠ i1 → c ≠ i2 → s.heap.get? c = some o → h'.get? c = some o) → Q (.ref s.heap.objs.size) { s with heap := h', toks := tk }) :
    wpAny (model prog w) A (Builtin.«zip.__next__» ⟨[.ref z], []⟩) (fun fin s' => ∃ v, fin = .done (.ret v) ∧ Q v s') E s := by
  obtain ⟨hp, g, d, tk0, os⟩ := s
  show wpAny _ _ (field (.ref z) 2 >>= fun _ => _) _ _ _
  refine wpAny_bind (wpAny_field hz rfl (x := .bool false) rfl ?_)
  show wpAny _ _ (field (.ref z) 3 >>= fun _ => _) _ _ _
  refine wpAny_bind (wpAny_field hz rfl (x := .ref TI) rfl (wpAny_bind (wpAny_seqItems hTI rfl ?_)))
  show wpAny _ _ (Builtin.SmallTypes.ownedTupleIsFree (.ref z) >>= fun _ => _) _ _ _
  refine wpAny_bind (notFree hz hT hf fun g0 hz0 hs0 => ?_)
  simp only [Bool.false_eq_true, if_false]
  replace hs0 : Heap.SameBut z hp g0 := hs0
  refine wpAny_bind ?_
  simp only [List.forIn_toArray, List.forIn_cons, List.forIn_nil]
  refine wpAny_bind (wpAny_bind (wpAny_holding ?_))
  show wpAny _ _ (Builtin.SmallTypes.nextOf (.ref i1) >>= fun _ => _) _ _ _
  refine wpAny_bind (D1.item i _ _ _ h1 (D1.over st1 hs0 a1) fun x1 p1 tk1 y1 sn1 hp1 => wpAny_pure ?_)
  replace hp1 : Heap.SameBut i1 g0 p1 := hp1
  refine wpAny_pure ?_
  refine wpAny_bind (wpAny_bind (wpAny_holding ?_))
  show wpAny _ _ (Builtin.SmallTypes.nextOf (.ref i2) >>= fun _ => _) _ _ _
  refine wpAny_bind (D2.item i _ _ _ h2 (D2.over (D2.over st2 hs0 a2) hp1 c12) fun x2 p2 tk2 y2 sn2 hp2 => wpAny_pure ?_)
  replace hp2 : Heap.SameBut i2 p1 p2 := hp2
  refine wpAny_pure (wpAny_pure ?_)
  show wpAny _ _ (newTuple [x1, x2] >>= fun _ => _) _ _ _
  refine wpAny_bind (wpAny_newTuple ?_)
  have hsz : p2.objs.size = hp.objs.size := by rw [hp2.1, hp1.1, hs0.1]
  have hz2 : ZR p2 z TI TO (.int T t) (.bool true) := hp2.extBut _ _ e2 (hp1.extBut _ _ e1 (hz0))
  have j1 : St1 (i + 1) p2 := D1.over (sn1) hp2 c21
  have j2 : St2 (i + 1) p2 := sn2
  refine wpAny_pure ⟨_, rfl, ?_⟩
  show Q (.ref p2.objs.size) ⟨p2.push { cls := .type "tuple", data := .seq #[x1, x2] }, g, d, tk2, os⟩
  have new : IsTupOf2 (p2.push { cls := .type "tuple", data := .seq #[x1, x2] }) p2.objs.size x1 x2 := Heap.get?_push_size _ rfl
  have nsz : (p2.push { cls := .type "tuple", data := .seq #[x1, x2] }).objs.size = p2.objs.size + 1 := Heap.size_push ..
  rw [hsz] at new nsz
  rw [hsz]
  exact hQ x1 x2 _ tk2 y1 y2 (Heap.get?_push_of_some _ hz2) (D1.frame _ _ _ j1 fun b _ o e => Heap.get?_push_of_some _ e) (D2.frame _ _ _ j2 fun b _ o e => Heap.get?_push_of_some _ e) new nsz fun c o c0 c1 c2 e => Heap.get?_push_of_some _ (hp2.extBut _ _ c2 (hp1.extBut _ _ c1 (hs0.extBut _ _ c0 e)))
theorem zend2 {z TI TO T i1 i2 : Addr} {fp1 : List Addr} {n1 : Nat} {P1 : Nat → Value → Prop} {St1 : Nat → Heap → Prop} {t : Tok} {f1 : Value} {o : Obj} {Q : Fin → Shared → Prop}
    (D1 : Draws prog w A i1 fp1 n1 P1 St1) (a1 : z ∉ fp1)
    (hz : ZR s.heap z TI TO (.int T t) f1) (hT : s.heap.get? T = some o) (hf : f1 = .bool true ∨ f1 = .bool false) (hTI : IsTupOf2 s.heap TI (.ref i1) (.ref i2)) (st1 : St1 n1 s.heap)
    (hE : ∀ h' tk e, (∀ c o, c ≠ z → c ≠ i1 → s.heap.get? c = some o → h'.get? c = some o) → (∃ o, h'.get? e = some o ∧ o.cls = .type "StopIteration") → E (.ref e) { s with heap := h', toks := tk }) :
    wpAny (model prog w) A (Builtin.«zip.__next__» ⟨[.ref z], []⟩) Q E s := by
  obtain ⟨hp, g, d, tk0, os⟩ := s
  show wpAny _ _ (field (.ref z) 2 >>= fun _ => _) _ _ _
  refine wpAny_bind (wpAny_field hz rfl (x := .bool false) rfl ?_)
  show wpAny _ _ (field (.ref z) 3 >>= fun _ => _) _ _ _
  refine wpAny_bind (wpAny_field hz rfl (x := .ref TI) rfl (wpAny_bind (wpAny_seqItems hTI rfl ?_)))
  show wpAny _ _ (Builtin.SmallTypes.ownedTupleIsFree (.ref z) >>= fun _ => _) _ _ _
  refine wpAny_bind (notFree hz hT hf fun g0 hz0 hs0 => ?_)
  simp only [Bool.false_eq_true, if_false]
  replace hs0 : Heap.SameBut z hp g0 := hs0
  refine wpAny_bind ?_
  simp only [List.forIn_toArray, List.forIn_cons, List.forIn_nil]
  refine wpAny_bind (wpAny_bind (wpAny_holding ?_))
  show wpAny _ _ (Builtin.SmallTypes.nextOf (.ref i1) >>= fun _ => _) _ _ _
  refine wpAny_bind (D1.done ⟨g0, g, d, tk0, os⟩ _ _ (D1.over st1 hs0 a1) fun q e hq he => ?_)
  exact hE q tk0 e (fun c o c0 c1 x => hq _ _ c1 (hs0.extBut _ _ c0 x)) he
theorem znew3 {z TI TO T i1 i2 i3 : Addr} {fp1 fp2 fp3 : List Addr} {n1 n2 n3 i : Nat} {P1 P2 P3 : Nat → Value → Prop} {St1 St2 St3 : Nat → Heap → Prop} {t : Tok} {f1 : Value} {o : Obj} {Q : Value → Shared → Prop}
    (D1 : Draws prog w A i1 fp1 n1 P1 St1) (D2 : Draws prog w A i2 fp2 n2 P2 St2) (D3 : Draws prog w A i3 fp3 n3 P3 St3) (a1 : z ∉ fp1) (a2 : z ∉ fp2) (a3 : z ∉ fp3) (c12 : i1 ∉ fp2) (c13 : i1 ∉ fp3) (c21 : i2 ∉ fp1) (c23 : i2 ∉ fp3) (c31 : i3 ∉ fp1) (c32 : i3 ∉ fp2) (e1 : z ≠ i1) (e2 : z ≠ i2) (e3 : z ≠ i3)
    (hz : ZR s.heap z TI TO (.int T t) f1) (hT : s.heap.get? T = some o) (hf : f1 = .bool true ∨ f1 = .bool false) (hTI : IsTupOf3 s.heap TI (.ref i1) (.ref i2) (.ref i3)) (st1 : St1 i s.heap) (st2 : St2 i s.heap) (st3 : St3 i s.heap) (h1 : i < n1) (h2 : i < n2) (h3 : i < n3)
    (hQ : ∀ x1 x2 x3 h' tk, P1 i x1 → P2 i x2 → P3 i x3 → ZR h' z TI TO (.int T t) (.bool true) → St1 (i + 1) h' → St2 (i + 1) h' → St3 (i + 1) h' → IsTupOf3 h' s.heap.objs.size x1 x2 x3 → h'.objs.size = s.heap.objs.size + 1 →
      (∀ c o, c ≠ z → c ≠ i1 → c ≠ i2 → c ≠ i3 → s.heap.get? c = some o → h'.get? c = some o) → Q (.ref s.heap.objs.size) { s with heap := h', toks := tk }) :
    wpAny (model prog w) A (Builtin.«zip.__next__» ⟨[.ref z], []⟩) (fun fin s' => ∃ v, fin = .done (.ret v) ∧ Q v s') E s := by
  obtain ⟨hp, g, d, tk0, os⟩ := s
  show wpAny _ _ (field (.ref z) 2 >>= fun _ => _) _ _ _
  refine wpAny_bind (wpAny_field hz rfl (x := .bool false) rfl ?_)
  show wpAny _ _ (field (.ref z) 3 >>= fun _ => _) _ _ _
  refine wpAny_bind (wpAny_field hz rfl (x := .ref TI) rfl (wpAny_bind (wpAny_seqItems hTI rfl ?_)))
  show wpAny _ _ (Builtin.SmallTypes.ownedTupleIsFree (.ref z) >>= fun _ => _) _ _ _
  refine wpAny_bind (notFree hz hT hf fun g0 hz0 hs0 => ?_)
  simp only [Bool.false_eq_true, if_false]
  replace hs0 : Heap.SameBut z hp g0 := hs0
  refine wpAny_bind ?_
  simp only [List.forIn_toArray, List.forIn_cons, List.forIn_nil]
  refine wpAny_bind (wpAny_bind (wpAny_holding ?_))
  show wpAny _ _ (Builtin.SmallTypes.nextOf (.ref i1) >>= fun _ => _) _ _ _
  refine wpAny_bind (D1.item i _ _ _ h1 (D1.over st1 hs0 a1) fun x1 p1 tk1 y1 sn1 hp1 => wpAny_pure ?_)
  replace hp1 : Heap.SameBut i1 g0 p1 := hp1
  refine wpAny_pure ?_
  refine wpAny_bind (wpAny_bind (wpAny_holding ?_))
  show wpAny _ _ (Builtin.SmallTypes.nextOf (.ref i2) >>= fun _ => _) _ _ _
  refine wpAny_bind (D2.item i _ _ _ h2 (D2.over (D2.over st2 hs0 a2) hp1 c12) fun x2 p2 tk2 y2 sn2 hp2 => wpAny_pure ?_)
  replace hp2 : Heap.SameBut i2 p1 p2 := hp2
  refine wpAny_pure ?_
  refine wpAny_bind (wpAny_bind (wpAny_holding ?_))
  show wpAny _ _ (Builtin.SmallTypes.nextOf (.ref i3) >>= fun _ => _) _ _ _
  refine wpAny_bind (D3.item i _ _ _ h3 (D3.over (D3.over (D3.over st3 hs0 a3) hp1 c13) hp2 c23) fun x3 p3 tk3 y3 sn3 hp3 => wpAny_pure ?_)
  replace hp3 : Heap.SameBut i3 p2 p3 := hp3
  refine wpAny_pure (wpAny_pure ?_)
  show wpAny _ _ (newTuple [x1, x2, x3] >>= fun _ => _) _ _ _
  refine wpAny_bind (wpAny_newTuple ?_)
  have hsz : p3.objs.size = hp.objs.size := by rw [hp3.1, hp2.1, hp1.1, hs0.1]
  have hz2 : ZR p3 z TI TO (.int T t) (.bool true) := hp3.extBut _ _ e3 (hp2.extBut _ _ e2 (hp1.extBut _ _ e1 (hz0)))
  have j1 : St1 (i + 1) p3 := D1.over (D1.over (sn1) hp2 c21) hp3 c31
  have j2 : St2 (i + 1) p3 := D2.over (sn2) hp3 c32
  have j3 : St3 (i + 1) p3 := sn3
  refine wpAny_pure ⟨_, rfl, ?_⟩
  show Q (.ref p3.objs.size) ⟨p3.push { cls := .type "tuple", data := .seq #[x1, x2, x3] }, g, d, tk3, os⟩
  have new : IsTupOf3 (p3.push { cls := .type "tuple", data := .seq #[x1, x2, x3] }) p3.objs.size x1 x2 x3 := Heap.get?_push_size _ rfl
  have nsz : (p3.push { cls := .type "tuple", data := .seq #[x1, x2, x3] }).objs.size = p3.objs.size + 1 := Heap.size_push ..
  rw [hsz] at new nsz
  rw [hsz]
  exact hQ x1 x2 x3 _ tk3 y1 y2 y3 (Heap.get?_push_of_some _ hz2) (D1.frame _ _ _ j1 fun b _ o e => Heap.get?_push_of_some _ e) (D2.frame _ _ _ j2 fun b _ o e => Heap.get?_push_of_some _ e) (D3.frame _ _ _ j3 fun b _ o e => Heap.get?_push_of_some _ e) new nsz fun c o c0 c1 c2 c3 e => Heap.get?_push_of_some _ (hp3.extBut _ _ c3 (hp2.extBut _ _ c2 (hp1.extBut _ _ c1 (hs0.extBut _ _ c0 e))))
theorem zend3 {z TI TO T i1 i2 i3 : Addr} {fp1 : List Addr} {n1 : Nat} {P1 : Nat → Value → Prop} {St1 : Nat → Heap → Prop} {t : Tok} {f1 : Value} {o : Obj} {Q : Fin → Shared → Prop}
    (D1 : Draws prog w A i1 fp1 n1 P1 St1) (a1 : z ∉ fp1)
    (hz : ZR s.heap z TI TO (.int T t) f1) (hT : s.heap.get? T = some o) (hf : f1 = .bool true ∨ f1 = .bool false) (hTI : IsTupOf3 s.heap TI (.ref i1) (.ref i2) (.ref i3)) (st1 : St1 n1 s.heap)
    (hE : ∀ h' tk e, (∀ c o, c ≠ z → c ≠ i1 → s.heap.get? c = some o → h'.get? c = some o) → (∃ o, h'.get? e = some o ∧ o.cls = .type "StopIteration") → E (.ref e) { s with heap := h', toks := tk }) :
    wpAny (model prog w) A (Builtin.«zip.__next__» ⟨[.ref z], []⟩) Q E s := by
  obtain ⟨hp, g, d, tk0, os⟩ := s
  show wpAny _ _ (field (.ref z) 2 >>= fun _ => _) _ _ _
  refine wpAny_bind (wpAny_field hz rfl (x := .bool false) rfl ?_)
  show wpAny _ _ (field (.ref z) 3 >>= fun _ => _) _ _ _
  refine wpAny_bind (wpAny_field hz rfl (x := .ref TI) rfl (wpAny_bind (wpAny_seqItems hTI rfl ?_)))
  show wpAny _ _ (Builtin.SmallTypes.ownedTupleIsFree (.ref z) >>= fun _ => _) _ _ _
  refine wpAny_bind (notFree hz hT hf fun g0 hz0 hs0 => ?_)
  simp only [Bool.false_eq_true, if_false]
  replace hs0 : Heap.SameBut z hp g0 := hs0
  refine wpAny_bind ?_
  simp only [List.forIn_toArray, List.forIn_cons, List.forIn_nil]
  refine wpAny_bind (wpAny_bind (wpAny_holding ?_))
  show wpAny _ _ (Builtin.SmallTypes.nextOf (.ref i1) >>= fun _ => _) _ _ _
  refine wpAny_bind (D1.done ⟨g0, g, d, tk0, os⟩ _ _ (D1.over st1 hs0 a1) fun q e hq he => ?_)
  exact hE q tk0 e (fun c o c0 c1 x => hq _ _ c1 (hs0.extBut _ _ c0 x)) he
theorem zown1 {z TI TO i1 : Addr} {fp1 : List Addr} {n1 i : Nat} {P1 : Nat → Value → Prop} {St1 : Nat → Heap → Prop} {w1 : Value} {Q : Value → Shared → Prop}
    (D1 : Draws prog w A i1 fp1 n1 P1 St1) (a1 : z ∉ fp1) (b1 : TO ∉ fp1) (e1 : z ≠ i1) (e2 : TO ≠ i1) (e3 : TO ≠ z)
    (hz : IsZip s.heap z TI TO .none) (hTI : IsTupOf1 s.heap TI (.ref i1)) (hTO : IsTupOf1 s.heap TO w1) (st1 : St1 i s.heap) (h1 : i < n1)
    (hQ : ∀ x1 h' tk, P1 i x1 → IsZip h' z TI TO (rawInt s.heap.objs.size) → IsTupOf1 h' TO x1 → St1 (i + 1) h' → IsTupOf1 h' s.heap.objs.size x1 → h'.objs.size = s.heap.objs.size + 1 →
      (∀ c o, c ≠ z → c ≠ TO → c ≠ i1 → s.heap.get? c = some o → h'.get? c = some o) → Q (.ref s.heap.objs.size) { s with heap := h', toks := tk }) :
    wpAny (model prog w) A (Builtin.«zip.__next__» ⟨[.ref z], []⟩) (fun fin s' => ∃ v, fin = .done (.ret v) ∧ Q v s') E s := by
  obtain ⟨hp, g, d, tk0, os⟩ := s
  show wpAny _ _ (field (.ref z) 2 >>= fun _ => _) _ _ _
  refine wpAny_bind (wpAny_field hz rfl (x := .bool false) rfl ?_)
  show wpAny _ _ (field (.ref z) 3 >>= fun _ => _) _ _ _
  refine wpAny_bind (wpAny_field hz rfl (x := .ref TI) rfl (wpAny_bind (wpAny_seqItems hTI rfl ?_)))
  show wpAny _ _ (Builtin.SmallTypes.ownedTupleIsFree (.ref z) >>= fun _ => _) _ _ _
  refine wpAny_bind ?_
  unfold Builtin.SmallTypes.ownedTupleIsFree
  refine wpAny_bind (wpAny_field hz rfl (x := .none) rfl (wpAny_pure ?_))
  simp only [if_true]
  refine wpAny_bind (wpAny_rule (wpAny_bind (wpAny_field hz rfl (x := .ref TO) rfl ?_)))
  refine wpAny_bind (wpAny_setField_rec hz (by simp) fun q0 hz0 hs0 => ?_)
  replace hz0 : IsZip q0 z TI TO .ellipsis := hz0
  replace hs0 : Heap.SameBut z hp q0 := hs0
  refine wpAny_bind ?_
  simp only [List.zipIdx_cons, List.zipIdx_nil, List.forIn_cons, List.forIn_nil]
  refine wpAny_bind (wpAny_bind (wpAny_onRaise ?_))
  show wpAny _ _ (Builtin.SmallTypes.nextOf (.ref i1) >>= fun _ => _) _ _ _
  refine wpAny_bind (D1.item i _ _ _ h1 (D1.over st1 hs0 a1) fun x1 p1 tk1 y1 sn1 hp1 => wpAny_pure ?_)
  replace hp1 : Heap.SameBut i1 q0 p1 := hp1
  have hU : IsTupOf1 p1 TO w1 := hp1.extBut _ _ e2 (hs0.extBut _ _ e3 hTO)
  refine wpAny_bind (wpAny_seqItems hU rfl ?_)
  refine wpAny_bind (wpAny_updateSeq hU rfl ?_)
  have hT1 : IsTupOf1 (p1.update TO (Obj.mapSeq (·.setIfInBounds 0 x1))) TO x1 := Heap.get?_update_self _ hU rfl
  have hs1 : Heap.SameBut TO p1 (p1.update TO (Obj.mapSeq (·.setIfInBounds 0 x1))) := Heap.SameBut.update ..
  generalize p1.update TO (Obj.mapSeq (·.setIfInBounds 0 x1)) = g1 at hT1 hs1
  refine wpAny_bind (wpAny_letGo (wpAny_pure (wpAny_pure ?_)))
  refine wpAny_bind (wpAny_seqItems hT1 rfl (wpAny_bind (wpAny_newTuple ?_)))
  have hsz : g1.objs.size = hp.objs.size := by rw [hs1.1, hp1.1, hs0.1]
  have hzz : IsZip g1 z TI TO .ellipsis := hs1.extBut _ _ e3.symm (hp1.extBut _ _ e1 hz0)
  have hzlt : z < g1.objs.size := Heap.lt_size hzz
  have j1 : St1 (i + 1) g1 := D1.over sn1 hs1 b1
  show wpAny _ _ (Builtin.SmallTypes.ownedTupleHandOut (.ref z) (.ref g1.objs.size) >>= fun _ => _) _ _ ⟨g1.push { cls := .type "tuple", data := .seq #[x1] }, g, d, tk1, os⟩
  refine wpAny_bind ?_
  unfold Builtin.SmallTypes.ownedTupleHandOut
  have hz6 : IsZip (g1.push { cls := .type "tuple", data := .seq #[x1] }) z TI TO .ellipsis := Heap.get?_push_of_some _ hzz
  refine wpAny_bind (wpAny_setField_rec hz6 (by simp) fun q7 hz7 hs7 => ?_)
  replace hz7 : IsZip q7 z TI TO (rawInt g1.objs.size) := hz7
  refine wpAny_setField_rec hz7 (by simp) fun q8 hz8 hs8 => ?_
  replace hz8 : IsZip q8 z TI TO (rawInt g1.objs.size) := hz8
  replace hs7 : Heap.SameBut z (g1.push { cls := .type "tuple", data := .seq #[x1] }) q7 := hs7
  replace hs8 : Heap.SameBut z q7 q8 := hs8
  have up : ∀ c o, c ≠ z → g1.get? c = some o → q8.get? c = some o := fun c o c1 e => hs8.extBut _ _ c1 (hs7.extBut _ _ c1 (Heap.get?_push_of_some _ e))
  have hT8 : IsTupOf1 q8 g1.objs.size x1 := hs8.extBut _ _ (Nat.ne_of_gt hzlt) (hs7.extBut _ _ (Nat.ne_of_gt hzlt) (Heap.get?_push_size _ rfl))
  have hz9 : q8.objs.size = g1.objs.size + 1 := by rw [hs8.1, hs7.1, Heap.size_push]
  rw [hsz] at hz8 hT8 hz9
  refine wpAny_pure ⟨_, rfl, ?_⟩
  show Q (.ref g1.objs.size) ⟨q8, g, d, tk1, os⟩
  rw [hsz]
  exact hQ x1 q8 tk1 y1 hz8 (up _ _ e3 hT1) (D1.frame _ _ _ j1 fun b hb o e => up b o (fun q => a1 (q ▸ hb)) e) hT8 hz9 fun c o c0 c1 c2 e => up c o c0 (hs1.extBut _ _ c1 (hp1.extBut _ _ c2 (hs0.extBut _ _ c0 e)))
end
end EvZ
end PySem
end

section
set_option Elab.async false
set_option linter.all false
set_option maxRecDepth 100000
set_option maxHeartbeats 4000000
/-! E21b: one zip as a list sees it -/
namespace PySem
namespace EvZ
open Sem (wp)
theorem typeCall_zip1 (a : Value) : checkTypeCall "zip" ⟨[a], []⟩ = pure () := by kernel_rfl
theorem newCall_zip1 (a : Value) : checkBuiltinCall "zip.__new__" ⟨[.type "zip", a], []⟩ = pure () := by kernel_rfl
abbrev yT (h : Heap) (o1 : Obj) : Heap := (h.push o1).push { cls := .type "tuple", data := .seq #[.ref h.objs.size] }
abbrev yO (h : Heap) (o1 : Obj) : Heap := (yT h o1).push { cls := .type "tuple", data := .seq #[.none] }
abbrev yZ (h : Heap) (o1 : Obj) : Heap := (yO h o1).push { cls := .type "zip", data := .fields #[.none, .bool false, .bool false, .ref (h.push o1).objs.size, .ref (yT h o1).objs.size] }
theorem meets_zip1 {v1 : Value} {o1 : Obj} {H1 : Heap → Prop} (B1 : Begins v1 o1 H1) :
    Meets (Builtin.«zip.__new__» ⟨[.type "zip", v1], []⟩) (fun _ R s => H1 s.heap ∧ R (.ok (.ret (.ref (yO s.heap o1).objs.size))) { s with heap := yZ s.heap o1 }) :=
  .of_wp fun prog w A R s h => by
    obtain ⟨hp, g, d, tk, os⟩ := s; obtain ⟨h1, h⟩ := h
    have hsub := sub_zip
    have q1 : ∀ {A' : Around} {E : Value → Shared → Prop} {Q : Value → Shared → Prop}, Q (.ref hp.objs.size) ⟨hp.push o1, g, d, tk, os⟩ → wpAny (model prog w) A' (pyIter v1) Q E ⟨hp, g, d, tk, os⟩ := fun q => B1.iter prog w _ _ ⟨hp, g, d, tk, os⟩ _ h1 q
    wp_walk using q1
    exact ⟨_, rfl, h⟩
section
variable {prog : Program} {w : World} {A : Around} {E : Value → Shared → Prop} {s : Shared}
theorem zip_begins1 {v1 : Value} {o1 : Obj} {H1 : Heap → Prop} {Q : Value → Shared → Prop} (B1 : Begins v1 o1 H1) (h1 : H1 s.heap)
    (h : ∀ h', IsZip h' (s.heap.objs.size + 3) (s.heap.objs.size + 1) (s.heap.objs.size + 2) .none → IsTupOf1 h' (s.heap.objs.size + 1) (.ref s.heap.objs.size) → IsTupOf1 h' (s.heap.objs.size + 2) .none → h'.get? s.heap.objs.size = some o1 → h'.objs.size = s.heap.objs.size + 4 →
      (∀ c o, s.heap.get? c = some o → h'.get? c = some o) → Q (.ref (s.heap.objs.size + 3)) { s with heap := h' }) : wpAny (model prog w) A (call (.type "zip") [v1]) Q E s := by
  refine callType_new F.called_zip (by decide) (typeCall_zip1 _) (newCall_zip1 _) (fun obj => F.args_object_init_2 obj _) F.entry_zip_new (meets_zip1 B1) ⟨h1, ?_⟩
  have z1 : (s.heap.push o1).objs.size = s.heap.objs.size + 1 := Heap.size_push ..
  have zT : (yT s.heap o1).objs.size = s.heap.objs.size + 2 := by rw [Heap.size_push, z1]
  have zO : (yO s.heap o1).objs.size = s.heap.objs.size + 3 := by rw [Heap.size_push, zT]
  have zZ : (yZ s.heap o1).objs.size = s.heap.objs.size + 4 := by rw [Heap.size_push, zO]
  have gZ : (yZ s.heap o1).get? (yO s.heap o1).objs.size = some _ := Heap.get?_push_size _ rfl
  have gO : (yZ s.heap o1).get? (yT s.heap o1).objs.size = some _ := Heap.get?_push_of_some _ (Heap.get?_push_size _ rfl)
  have gT : (yZ s.heap o1).get? (s.heap.push o1).objs.size = some _ := Heap.get?_push_of_some _ (Heap.get?_push_of_some _ (Heap.get?_push_size _ rfl))
  have g1 : (yZ s.heap o1).get? s.heap.objs.size = some o1 := Heap.get?_push_of_some _ (Heap.get?_push_of_some _ (Heap.get?_push_of_some _ (Heap.get?_push_size _ B1.free)))
  rw [zO, zT, z1] at gZ
  rw [zT] at gO
  rw [z1] at gT
  show _ ∧ _
  rw [zO]
  exact ⟨⟨_, gZ, rfl⟩, h _ gZ gT gO g1 zZ fun c o e => Heap.get?_push_of_some _ (Heap.get?_push_of_some _ (Heap.get?_push_of_some _ (Heap.get?_push_of_some _ e)))⟩
end
theorem zne {a b : Nat} (h : a ≠ b) : @Ne Addr a b := h
theorem znm {a b c : Nat} (h1 : a ≠ b) (h2 : a ≠ c) : ¬ @Membership.mem Addr (List Addr) _ [b, c] a := by
  simp only [List.mem_cons, List.not_mem_nil, or_false, not_or]
  exact ⟨h1, h2⟩
/-- a zip's record and what it draws from -/
structure ZK (prog : Program) (w : World) (z TI TO : Addr) (ch fp : List Addr) (n : Nat) (Pt : Nat → Array Value → Prop) (Si : Nat → Heap → Prop) : Prop where
  keep : ∀ i h h', Si i h → (∀ b ∈ fp, ∀ o, h.get? b = some o → h'.get? b = some o) → Si i h'
  own : ∀ (A : Around) (E : Value → Shared → Prop) (s : Shared) (i : Nat) (Q : Option Value → Shared → Prop), A.handled = none → i < n → IsZip s.heap z TI TO .none → Si i s.heap →
    (∀ vals h' tk, Pt i vals → IsZip h' z TI TO (rawInt s.heap.objs.size) → Si (i + 1) h' → h'.get? s.heap.objs.size = some { cls := .type "tuple", data := .seq vals } → h'.objs.size = s.heap.objs.size + 1 →
      (∀ c o, c ∉ ch → s.heap.get? c = some o → h'.get? c = some o) → Q (some (.ref s.heap.objs.size)) { s with heap := h', toks := tk }) → wpAny (model prog w) A (pyNext (.ref z)) Q E s
  new : ∀ (A : Around) (E : Value → Shared → Prop) (s : Shared) (i : Nat) (T : Addr) (t : Tok) (f1 : Value) (o : Obj) (Q : Option Value → Shared → Prop), A.handled = none → i < n → ZR s.heap z TI TO (.int T t) f1 → s.heap.get? T = some o → f1 = .bool true ∨ f1 = .bool false → Si i s.heap →
    (∀ vals h' tk, Pt i vals → ZR h' z TI TO (.int T t) (.bool true) → Si (i + 1) h' → h'.get? s.heap.objs.size = some { cls := .type "tuple", data := .seq vals } → h'.objs.size = s.heap.objs.size + 1 →
      (∀ c o, c ∉ ch → s.heap.get? c = some o → h'.get? c = some o) → Q (some (.ref s.heap.objs.size)) { s with heap := h', toks := tk }) → wpAny (model prog w) A (pyNext (.ref z)) Q E s
  fin : ∀ (A : Around) (E : Value → Shared → Prop) (s : Shared) (T : Addr) (t : Tok) (f1 : Value) (o : Obj) (Q : Option Value → Shared → Prop), A.handled = none → ZR s.heap z TI TO (.int T t) f1 → s.heap.get? T = some o → f1 = .bool true ∨ f1 = .bool false → Si n s.heap →
    (∀ h' tk, (∀ c o, c ∉ ch → s.heap.get? c = some o → h'.get? c = some o) → Q none { s with heap := h', toks := tk }) → wpAny (model prog w) A (pyNext (.ref z)) Q E s

theorem zk1 {prog : Program} {w : World} {b l1 : Nat} {xs1 : Array Value} {n : Nat} (hl1 : l1 < b) (hn1 : xs1.size = n) : ZK prog w (b + 3) (b + 1) (b + 2) [(b + 3), (b + 2), b] [(b + 1), (b + 2), b, l1] n
    (fun i vals => ∃ v1, xs1[i]? = some v1 ∧ vals = #[v1])
    (fun i h => IsTupOf1 h (b + 1) (.ref b) ∧ (∃ u1, IsTupOf1 h (b + 2) u1) ∧ (h.IsTupleIter b l1 i ∧ h.IsTuple l1 xs1)) where
  keep := fun i h h' ⟨hTI, ⟨u1, hTO⟩, st1⟩ hk => ⟨hk (b + 1) (by simp) _ hTI, ⟨u1, hk (b + 2) (by simp) _ hTO⟩, ⟨st1.1.at fun o e => hk b (by simp) o e, by obtain ⟨o, q1, q2⟩ := st1.2; exact ⟨o, hk l1 (by simp) o q1, q2⟩⟩⟩
  own := fun A E s i Q hh hi hz ⟨hTI, ⟨u1, hTO⟩, st1⟩ hQ => by
    have hT : s.TypeIs (.ref (b + 3)) "zip" := ⟨_, hz, rfl⟩
    unfold pyNext
    exact wpAny_bind (wpAny_attempt (wpAny_callSpecial?_slot (name := Str.ofString "__next__") hT F.slot_zip_next (wpAny_call_entry F.slot_zip_next hT F.entry_zip_next (zown1 (EvX.draws_tuple (prog := prog) (w := w) (A := A.in1) hh b l1 (zne (by omega)) xs1) (znm (by omega) (by omega)) (znm (by omega) (by omega)) (zne (by omega)) (zne (by omega)) (zne (by omega)) hz hTI hTO st1 (by omega) fun x1 h' tk y1 r1 r2 d1 r3 r4 hk => wpAny_pure (hQ #[x1] h' tk ⟨x1, y1, rfl⟩ r1 ⟨hk _ _ (zne (by omega)) (zne (by omega)) (zne (by omega)) hTI, ⟨_, r2⟩, d1⟩ r3 r4 (fun c o hc e => hk c o (fun x => hc (by simp [x])) (fun x => hc (by simp [x])) (fun x => hc (by simp [x])) e))) (F.args_zip_next_1 _))))
  new := fun A E s i T t f1 o Q hh hi hz hT0 hf ⟨hTI, ⟨u1, hTO⟩, st1⟩ hQ => by
    have hT : s.TypeIs (.ref (b + 3)) "zip" := ⟨_, hz, rfl⟩
    unfold pyNext
    exact wpAny_bind (wpAny_attempt (wpAny_callSpecial?_slot (name := Str.ofString "__next__") hT F.slot_zip_next (wpAny_call_entry F.slot_zip_next hT F.entry_zip_next (znew1 (EvX.draws_tuple (prog := prog) (w := w) (A := A.in1) hh b l1 (zne (by omega)) xs1) (znm (by omega) (by omega))  (zne (by omega)) hz hT0 hf hTI st1 (by omega) fun x1 h' tk y1 r1 d1 r3 r4 hk => wpAny_pure (hQ #[x1] h' tk ⟨x1, y1, rfl⟩ r1 ⟨hk _ _ (zne (by omega)) (zne (by omega)) hTI, ⟨u1, hk _ _ (zne (by omega)) (zne (by omega)) hTO⟩, d1⟩ r3 r4 (fun c o hc e => hk c o (fun x => hc (by simp [x])) (fun x => hc (by simp [x])) e))) (F.args_zip_next_1 _))))
  fin := fun A E s T t f1 o Q hh hz hT0 hf ⟨hTI, ⟨u1, hTO⟩, st1⟩ hQ => by
    have hT : s.TypeIs (.ref (b + 3)) "zip" := ⟨_, hz, rfl⟩
    unfold pyNext
    refine wpAny_bind (wpAny_attempt (wpAny_callSpecial?_slot (name := Str.ofString "__next__") hT F.slot_zip_next (wpAny_call_entry F.slot_zip_next hT F.entry_zip_next (zend1 (EvX.draws_tuple (prog := prog) (w := w) (A := A.in1) hh b l1 (zne (by omega)) xs1) (znm (by omega) (by omega)) hz hT0 hf hTI (by rw [hn1]; exact st1) fun h' tk e hk he => ?_) (F.args_zip_next_1 _))))
    obtain ⟨o, ho, hc⟩ := he
    refine wpAny_bind (wpAny_isInstance (T := "StopIteration") (b := true) ⟨o, ho, hc⟩ isSubtype_stop (wpAny_pure (hQ _ _ fun c o hc e => hk c o (fun x => hc (by simp [x])) (fun x => hc (by simp [x])) e)))
theorem zk2 {prog : Program} {w : World} {b l1 l2 : Nat} {xs1 xs2 : Array Value} {n : Nat} (hl1 : l1 < b) (hl2 : l2 < b) (hn1 : xs1.size = n) (hn2 : xs2.size = n) : ZK prog w (b + 4) (b + 2) (b + 3) [(b + 4), (b + 3), b, (b + 1)] [(b + 2), (b + 3), b, (b + 1), l1, l2] n
    (fun i vals => ∃ v1 v2, xs1[i]? = some v1 ∧ xs2[i]? = some v2 ∧ vals = #[v1, v2])
    (fun i h => IsTupOf2 h (b + 2) (.ref b) (.ref (b + 1)) ∧ (∃ u1 u2, IsTupOf2 h (b + 3) u1 u2) ∧ (h.IsTupleIter b l1 i ∧ h.IsTuple l1 xs1) ∧ (h.IsTupleIter (b + 1) l2 i ∧ h.IsTuple l2 xs2)) where
  keep := fun i h h' ⟨hTI, ⟨u1, u2, hTO⟩, st1, st2⟩ hk => ⟨hk (b + 2) (by simp) _ hTI, ⟨u1, u2, hk (b + 3) (by simp) _ hTO⟩, ⟨st1.1.at fun o e => hk b (by simp) o e, by obtain ⟨o, q1, q2⟩ := st1.2; exact ⟨o, hk l1 (by simp) o q1, q2⟩⟩, ⟨st2.1.at fun o e => hk (b + 1) (by simp) o e, by obtain ⟨o, q1, q2⟩ := st2.2; exact ⟨o, hk l2 (by simp) o q1, q2⟩⟩⟩
  own := fun A E s i Q hh hi hz ⟨hTI, ⟨u1, u2, hTO⟩, st1, st2⟩ hQ => by
    have hT : s.TypeIs (.ref (b + 4)) "zip" := ⟨_, hz, rfl⟩
    exact wpAny_pyNext_zipD2_item (E := E) (Q := Q) ⟨(zne (by omega)), (zne (by omega)), (zne (by omega)), (zne (by omega)), by simp, (znm (by omega) (by omega)), (znm (by omega) (by omega)), (zne (by omega)), by simp, (znm (by omega) (by omega)), (znm (by omega) (by omega)), (znm (by omega) (by omega)), (znm (by omega) (by omega))⟩ (EvX.draws_tuple (prog := prog) (w := w) (A := A.in1) hh b l1 (zne (by omega)) xs1) (EvX.draws_tuple (prog := prog) (w := w) (A := A.in1) hh (b + 1) l2 (zne (by omega)) xs2) hz hTI hTO st1 st2 (by omega) (by omega) fun x1 x2 h' tk y1 y2 r1 r2 d1 d2 r3 r4 hk => hQ #[x1, x2] h' tk ⟨x1, x2, y1, y2, rfl⟩ r1 ⟨hk _ _ (zne (by omega)) (zne (by omega)) (zne (by omega)) (zne (by omega)) hTI, ⟨_, _, r2⟩, d1, d2⟩ r3 r4 (fun c o hc e => hk c o (fun x => hc (by simp [x])) (fun x => hc (by simp [x])) (fun x => hc (by simp [x])) (fun x => hc (by simp [x])) e)
  new := fun A E s i T t f1 o Q hh hi hz hT0 hf ⟨hTI, ⟨u1, u2, hTO⟩, st1, st2⟩ hQ => by
    have hT : s.TypeIs (.ref (b + 4)) "zip" := ⟨_, hz, rfl⟩
    unfold pyNext
    exact wpAny_bind (wpAny_attempt (wpAny_callSpecial?_slot (name := Str.ofString "__next__") hT F.slot_zip_next (wpAny_call_entry F.slot_zip_next hT F.entry_zip_next (znew2 (EvX.draws_tuple (prog := prog) (w := w) (A := A.in1) hh b l1 (zne (by omega)) xs1) (EvX.draws_tuple (prog := prog) (w := w) (A := A.in1) hh (b + 1) l2 (zne (by omega)) xs2) (znm (by omega) (by omega)) (znm (by omega) (by omega)) (znm (by omega) (by omega)) (znm (by omega) (by omega)) (zne (by omega)) (zne (by omega)) hz hT0 hf hTI st1 st2 (by omega) (by omega) fun x1 x2 h' tk y1 y2 r1 d1 d2 r3 r4 hk => wpAny_pure (hQ #[x1, x2] h' tk ⟨x1, x2, y1, y2, rfl⟩ r1 ⟨hk _ _ (zne (by omega)) (zne (by omega)) (zne (by omega)) hTI, ⟨u1, u2, hk _ _ (zne (by omega)) (zne (by omega)) (zne (by omega)) hTO⟩, d1, d2⟩ r3 r4 (fun c o hc e => hk c o (fun x => hc (by simp [x])) (fun x => hc (by simp [x])) (fun x => hc (by simp [x])) e))) (F.args_zip_next_1 _))))
  fin := fun A E s T t f1 o Q hh hz hT0 hf ⟨hTI, ⟨u1, u2, hTO⟩, st1, st2⟩ hQ => by
    have hT : s.TypeIs (.ref (b + 4)) "zip" := ⟨_, hz, rfl⟩
    unfold pyNext
    refine wpAny_bind (wpAny_attempt (wpAny_callSpecial?_slot (name := Str.ofString "__next__") hT F.slot_zip_next (wpAny_call_entry F.slot_zip_next hT F.entry_zip_next (zend2 (EvX.draws_tuple (prog := prog) (w := w) (A := A.in1) hh b l1 (zne (by omega)) xs1) (znm (by omega) (by omega)) hz hT0 hf hTI (by rw [hn1]; exact st1) fun h' tk e hk he => ?_) (F.args_zip_next_1 _))))
    obtain ⟨o, ho, hc⟩ := he
    refine wpAny_bind (wpAny_isInstance (T := "StopIteration") (b := true) ⟨o, ho, hc⟩ isSubtype_stop (wpAny_pure (hQ _ _ fun c o hc e => hk c o (fun x => hc (by simp [x])) (fun x => hc (by simp [x])) e)))
theorem zk3 {prog : Program} {w : World} {b l1 l2 l3 : Nat} {xs1 xs2 xs3 : Array Value} {n : Nat} (hl1 : l1 < b) (hl2 : l2 < b) (hl3 : l3 < b) (hn1 : xs1.size = n) (hn2 : xs2.size = n) (hn3 : xs3.size = n) : ZK prog w (b + 5) (b + 3) (b + 4) [(b + 5), (b + 4), b, (b + 1), (b + 2)] [(b + 3), (b + 4), b, (b + 1), (b + 2), l1, l2, l3] n
    (fun i vals => ∃ v1 v2 v3, xs1[i]? = some v1 ∧ xs2[i]? = some v2 ∧ xs3[i]? = some v3 ∧ vals = #[v1, v2, v3])
    (fun i h => IsTupOf3 h (b + 3) (.ref b) (.ref (b + 1)) (.ref (b + 2)) ∧ (∃ u1 u2 u3, IsTupOf3 h (b + 4) u1 u2 u3) ∧ (h.IsTupleIter b l1 i ∧ h.IsTuple l1 xs1) ∧ (h.IsTupleIter (b + 1) l2 i ∧ h.IsTuple l2 xs2) ∧ (h.IsTupleIter (b + 2) l3 i ∧ h.IsTuple l3 xs3)) where
  keep := fun i h h' ⟨hTI, ⟨u1, u2, u3, hTO⟩, st1, st2, st3⟩ hk => ⟨hk (b + 3) (by simp) _ hTI, ⟨u1, u2, u3, hk (b + 4) (by simp) _ hTO⟩, ⟨st1.1.at fun o e => hk b (by simp) o e, by obtain ⟨o, q1, q2⟩ := st1.2; exact ⟨o, hk l1 (by simp) o q1, q2⟩⟩, ⟨st2.1.at fun o e => hk (b + 1) (by simp) o e, by obtain ⟨o, q1, q2⟩ := st2.2; exact ⟨o, hk l2 (by simp) o q1, q2⟩⟩, ⟨st3.1.at fun o e => hk (b + 2) (by simp) o e, by obtain ⟨o, q1, q2⟩ := st3.2; exact ⟨o, hk l3 (by simp) o q1, q2⟩⟩⟩
  own := fun A E s i Q hh hi hz ⟨hTI, ⟨u1, u2, u3, hTO⟩, st1, st2, st3⟩ hQ => by
    have hT : s.TypeIs (.ref (b + 5)) "zip" := ⟨_, hz, rfl⟩
    exact wpAny_pyNext_zipD3_item (E := E) (Q := Q) ⟨(zne (by omega)), (zne (by omega)), (zne (by omega)), (zne (by omega)), by simp, (znm (by omega) (by omega)), (znm (by omega) (by omega)), (zne (by omega)), by simp, (znm (by omega) (by omega)), (znm (by omega) (by omega)), (zne (by omega)), by simp, (znm (by omega) (by omega)), (znm (by omega) (by omega)), (znm (by omega) (by omega)), (znm (by omega) (by omega)), (znm (by omega) (by omega)), (znm (by omega) (by omega)), (znm (by omega) (by omega)), (znm (by omega) (by omega))⟩ (EvX.draws_tuple (prog := prog) (w := w) (A := A.in1) hh b l1 (zne (by omega)) xs1) (EvX.draws_tuple (prog := prog) (w := w) (A := A.in1) hh (b + 1) l2 (zne (by omega)) xs2) (EvX.draws_tuple (prog := prog) (w := w) (A := A.in1) hh (b + 2) l3 (zne (by omega)) xs3) hz hTI hTO st1 st2 st3 (by omega) (by omega) (by omega) fun x1 x2 x3 h' tk y1 y2 y3 r1 r2 d1 d2 d3 r3 r4 hk => hQ #[x1, x2, x3] h' tk ⟨x1, x2, x3, y1, y2, y3, rfl⟩ r1 ⟨hk _ _ (zne (by omega)) (zne (by omega)) (zne (by omega)) (zne (by omega)) (zne (by omega)) hTI, ⟨_, _, _, r2⟩, d1, d2, d3⟩ r3 r4 (fun c o hc e => hk c o (fun x => hc (by simp [x])) (fun x => hc (by simp [x])) (fun x => hc (by simp [x])) (fun x => hc (by simp [x])) (fun x => hc (by simp [x])) e)
  new := fun A E s i T t f1 o Q hh hi hz hT0 hf ⟨hTI, ⟨u1, u2, u3, hTO⟩, st1, st2, st3⟩ hQ => by
    have hT : s.TypeIs (.ref (b + 5)) "zip" := ⟨_, hz, rfl⟩
    unfold pyNext
    exact wpAny_bind (wpAny_attempt (wpAny_callSpecial?_slot (name := Str.ofString "__next__") hT F.slot_zip_next (wpAny_call_entry F.slot_zip_next hT F.entry_zip_next (znew3 (EvX.draws_tuple (prog := prog) (w := w) (A := A.in1) hh b l1 (zne (by omega)) xs1) (EvX.draws_tuple (prog := prog) (w := w) (A := A.in1) hh (b + 1) l2 (zne (by omega)) xs2) (EvX.draws_tuple (prog := prog) (w := w) (A := A.in1) hh (b + 2) l3 (zne (by omega)) xs3) (znm (by omega) (by omega)) (znm (by omega) (by omega)) (znm (by omega) (by omega)) (znm (by omega) (by omega)) (znm (by omega) (by omega)) (znm (by omega) (by omega)) (znm (by omega) (by omega)) (znm (by omega) (by omega)) (znm (by omega) (by omega)) (zne (by omega)) (zne (by omega)) (zne (by omega)) hz hT0 hf hTI st1 st2 st3 (by omega) (by omega) (by omega) fun x1 x2 x3 h' tk y1 y2 y3 r1 d1 d2 d3 r3 r4 hk => wpAny_pure (hQ #[x1, x2, x3] h' tk ⟨x1, x2, x3, y1, y2, y3, rfl⟩ r1 ⟨hk _ _ (zne (by omega)) (zne (by omega)) (zne (by omega)) (zne (by omega)) hTI, ⟨u1, u2, u3, hk _ _ (zne (by omega)) (zne (by omega)) (zne (by omega)) (zne (by omega)) hTO⟩, d1, d2, d3⟩ r3 r4 (fun c o hc e => hk c o (fun x => hc (by simp [x])) (fun x => hc (by simp [x])) (fun x => hc (by simp [x])) (fun x => hc (by simp [x])) e))) (F.args_zip_next_1 _))))
  fin := fun A E s T t f1 o Q hh hz hT0 hf ⟨hTI, ⟨u1, u2, u3, hTO⟩, st1, st2, st3⟩ hQ => by
    have hT : s.TypeIs (.ref (b + 5)) "zip" := ⟨_, hz, rfl⟩
    unfold pyNext
    refine wpAny_bind (wpAny_attempt (wpAny_callSpecial?_slot (name := Str.ofString "__next__") hT F.slot_zip_next (wpAny_call_entry F.slot_zip_next hT F.entry_zip_next (zend3 (EvX.draws_tuple (prog := prog) (w := w) (A := A.in1) hh b l1 (zne (by omega)) xs1) (znm (by omega) (by omega)) hz hT0 hf hTI (by rw [hn1]; exact st1) fun h' tk e hk he => ?_) (F.args_zip_next_1 _))))
    obtain ⟨o, ho, hc⟩ := he
    refine wpAny_bind (wpAny_isInstance (T := "StopIteration") (b := true) ⟨o, ho, hc⟩ isSubtype_stop (wpAny_pure (hQ _ _ fun c o hc e => hk c o (fun x => hc (by simp [x])) (fun x => hc (by simp [x])) e)))
end EvZ
end PySem
end

section
set_option Elab.async false
set_option linter.all false
set_option maxRecDepth 100000
set_option maxHeartbeats 4000000
/-! E21c: list(zip(..)) -/
namespace EvL
open PySem PySem.Spec PyProof.Rows L2 EvZ
theorem zip_nolen : typeLookup (.type "zip") "__len__" = pure none := by rw [typeLookup_type, builtinLookup_eq_fast]; kernel_rfl
theorem zip_nohint : typeLookup (.type "zip") "__length_hint__" = pure none := by rw [typeLookup_type, builtinLookup_eq_fast]; kernel_rfl
/-- new tuples, one after another -/
inductive Chain : Hp → List (List V) → List V → Hp → Prop
  | nil (G : Hp) : Chain G [] [] G
  | snoc {G G' : Hp} {cs : List (List V)} {ts : List V} {T : Addr} {c : List V} : Chain G cs ts G' → G' T = none → Chain G (cs ++ [c]) (ts ++ [.ref T]) (upd G' T (.tup c))
theorem Chain.len {G G' : Hp} {cs : List (List V)} {ts : List V} (h : Chain G cs ts G') : ts.length = cs.length := by
  induction h with
  | nil => rfl
  | snoc _ _ ih => simp [ih]
theorem upd_swap {G : Hp} {S T : Addr} {a b : HO} {c : HO} (h : T ≠ S) : upd (upd (upd G S a) T b) S c = upd (upd G T b) S c := by
  funext x
  by_cases h1 : x = S
  · subst h1; rw [upd_same, upd_same]
  · rw [upd_ne h1, upd_ne h1]
    by_cases h2 : x = T
    · subst h2; rw [upd_same, upd_same]
    · rw [upd_ne h2, upd_ne h2, upd_ne h1]
section
variable {X : Cx} {pins : List (Addr × Obj)} {σ : L2.St} {z TI TO S : Addr} {ch fp : List Addr} {n B : Nat} {Pt : Nat → Array Value → Prop} {Si : Nat → Heap → Prop} {cols : Nat → List V} {H : Hp} {A : Around} {R : Result → Shared → Prop}
def ZGo (h : Heap) (z TI TO S : Addr) (ch : List Addr) (i : Nat) : Prop := (i = 0 ∧ IsZip h z TI TO .none) ∨ ∃ (T : Addr) (t : Tok) (f1 : Value) (o : Obj), ZR h z TI TO (.int T t) f1 ∧ h.get? T = some o ∧ T ≠ S ∧ T ∉ ch ∧ (f1 = .bool true ∨ f1 = .bool false)
theorem ZGo.keep {h h' : Heap} {i : Nat} (g : ZGo h z TI TO S ch i) (hz : z ≠ S) (k : ∀ b o, b ≠ S → h.get? b = some o → h'.get? b = some o) : ZGo h' z TI TO S ch i := by
  rcases g with ⟨h1, h2⟩ | ⟨T, t, f1, o, h1, h2, h3, h4, h5⟩
  · exact .inl ⟨h1, k _ _ hz h2⟩
  · exact .inr ⟨T, t, f1, o, k _ _ hz h1, k _ _ h3 h2, h3, h4, h5⟩
theorem zdraw (Z : ZK X.prog X.w z TI TO ch fp n Pt Si) (hh : A.handled = none) {E : Value → Shared → Prop} {s : Shared} {i : Nat} {Q : Option Value → Shared → Prop} (hi : i < n) (g : ZGo s.heap z TI TO S ch i) (st : Si i s.heap) (hB : ∀ b ∈ ch, b < s.heap.objs.size) (hS : S < s.heap.objs.size) (hz : z ∈ ch)
    (hQ : ∀ vals h' tk, Pt i vals → ZGo h' z TI TO S ch (i + 1) → Si (i + 1) h' → h'.get? s.heap.objs.size = some { cls := .type "tuple", data := .seq vals } → h'.objs.size = s.heap.objs.size + 1 → (∀ c o, c ∉ ch → s.heap.get? c = some o → h'.get? c = some o) → Q (some (.ref s.heap.objs.size)) { s with heap := h', toks := tk }) :
    wpAny (model X.prog X.w) A (pyNext (.ref z)) Q E s := by
  rcases g with ⟨h1, h2⟩ | ⟨T, t, f1, o, h1, h2, h3, h4, h5⟩
  · refine Z.own A E s i Q hh hi h2 st fun vals h' tk p1 p2 p3 p4 p5 p6 => hQ vals h' tk p1 (.inr ⟨s.heap.objs.size, 0, .bool false, _, p2, p4, ?_, ?_, .inr rfl⟩) p3 p4 p5 p6
    · exact Nat.ne_of_gt hS
    · exact fun hm => Nat.lt_irrefl _ (hB _ hm)
  · exact Z.new A E s i T t f1 o Q hh hi h1 h2 h5 st fun vals h' tk p1 p2 p3 p4 p5 p6 => hQ vals h' tk p1 (.inr ⟨T, t, _, o, p2, p6 T o h4 h2, h3, h4, .inl rfl⟩) p3 p4 p5 p6
theorem zloop (Z : ZK X.prog X.w z TI TO ch fp n Pt Si) (hh : A.handled = none) (hn : n ≤ 1000) (hn1 : 1 ≤ n) (hSf : S ∉ fp) (hSc : S ∉ ch) (hz : z ∈ ch) (hP : ∀ i vals, Pt i vals → Vals (cols i) vals.toList) (hc : ∀ i, (cols i).length ≤ 1000)
    (hR : ∀ s' G' ts, Inv X pins σ (upd G' S (.lst ts)) s' → G' S = none → Chain H ((List.range n).map cols) ts G' → R (.ok (.ret .none)) s') :
    ∀ (k i : Nat) (s : Shared) (G : Hp) (ts : List V), n - i = k → i ≤ n → Inv X pins σ (upd G S (.lst ts)) s → G S = none → Chain H ((List.range i).map cols) ts G → (∀ b ∈ ch, FpOk X pins G b) → Si i s.heap → ZGo s.heap z TI TO S ch i → (∀ b ∈ ch, b < s.heap.objs.size) →
    codeAny (model X.prog X.w) A (.builtin "list.extend.loop" ⟨[.ref S, .ref z, .none], []⟩) R s := by
  have zS : z ≠ S := fun e => hSc (e ▸ hz)
  intro k
  induction k with
  | zero =>
    intro i s G ts hk hi I gS cn fo st g hB
    have e : i = n := by omega
    subst e
    refine codeAny_builtin F.entry_extend_loop ?_
    rw [Around.under_plainId F.plain_extend_loop _]
    show wpAny _ A.in1 (pyNext (.ref z) >>= fun _ => _) _ _ s
    rcases g with ⟨h1, _⟩ | ⟨T, t, f1, o, h1, h2, h3, h4, h5⟩
    · omega
    refine wpAny_bind (Z.fin A.in1 _ s T t f1 o _ hh h1 h2 h5 st fun h' tk kp => wpAny_pure ?_)
    refine hR _ G ts (I.turnedL (ch := ch) kp fun b hb => ?_) gS cn
    have f := fo b hb
    exact ⟨by rw [upd_ne (fun e : b = S => hSc (by rw [← e]; exact hb))]; exact f.1, f.2⟩
  | succ k ih =>
    intro i s G ts hk hi I gS cn fo st g hB
    have hlt : i < n := by omega
    refine codeAny_builtin F.entry_extend_loop ?_
    rw [Around.under_plainId F.plain_extend_loop _]
    show wpAny _ A.in1 (pyNext (.ref z) >>= fun _ => _) _ _ s
    have qS : (upd G S (.lst ts)) S = some (.lst ts) := upd_same
    obtain ⟨z0, its0, n0, r0, l0, e0⟩ := I.lstM qS
    have hSl : S < s.heap.objs.size := Heap.lt_size e0
    refine wpAny_bind (zdraw (S := S) Z (show A.in1.handled = none from hh) hlt g st hB hSl hz fun vals h' tk p1 p2 p3 p4 p5 p6 => ?_)
    have fo1 : ∀ b ∈ ch, FpOk X pins (upd G S (.lst ts)) b := fun b hb => by
      have f := fo b hb
      exact ⟨by rw [upd_ne (fun e : b = S => hSc (by rw [← e]; exact hb))]; exact f.1, f.2⟩
    have vl := hP i vals p1
    have I1 : Inv X pins σ (upd (upd G S (.lst ts)) s.heap.objs.size (.tup (cols i))) { s with heap := h', toks := tk } :=
      I.turnedNew (ch := ch) p6 fo1 (Nat.le_refl _) ⟨by rw [sizeLine_eq]; exact Nat.le_trans (hc i) (by decide), vals.toList, vl, ⟨_, p4, rfl, 0, by simp⟩⟩
    have TS : s.heap.objs.size ≠ S := Nat.ne_of_gt hSl
    have qS1 : (upd (upd G S (.lst ts)) s.heap.objs.size (.tup (cols i))) S = some (.lst ts) := by rw [upd_ne TS.symm, upd_same]
    obtain ⟨z1, its1, n1, r1, l1, e1⟩ := I1.lstM qS1
    have lt : ts.length ≤ 1000 := by rw [cn.len]; simp; omega
    have i1l : its1.toArray.size ≤ 1000 := by rw [List.size_toArray, ← l1]; exact lt
    have I2 : Inv X pins σ (upd (upd (upd G S (.lst ts)) s.heap.objs.size (.tup (cols i))) S (.lst (ts ++ [.ref s.heap.objs.size]))) { s with heap := h'.update S (Obj.mapSeq (·.push (.ref s.heap.objs.size))), toks := tk } :=
      I1.lset (t' := tk) (its' := its1 ++ [.ref s.heap.objs.size]) qS1 e1 (by simp) (r1.append (.cons (show RelV (V.ref s.heap.objs.size) (Value.ref s.heap.objs.size) from rfl) .nil)) (by rw [sizeLine_eq]; simp; omega)
    rw [upd_swap TS] at I2
    have Tn : G s.heap.objs.size = none := by
      have := I.hok.fresh (Nat.le_refl s.heap.objs.size)
      rwa [upd_ne TS] at this
    have kp2 : ∀ b o, b ≠ S → h'.get? b = some o → (h'.update S (Obj.mapSeq (·.push (.ref s.heap.objs.size)))).get? b = some o := fun b o hb e => (Heap.get?_update_other _ _ (Ne.symm hb)).trans e
    show wpAny _ A.in1 (updateSeq S (·.push (.ref s.heap.objs.size)) >>= fun _ => _) _ _ _
    refine wpAny_bind (wpAny_updateSeq e1 rfl (wpAny_pure ⟨plainId_quiet F.plain_extend_loop _, ?_⟩) (by rw [sizeLine_eq]; omega) (by show (its1.toArray.push _).size ≤ sizeLine + 1; rw [Array.size_push, sizeLine_eq]; omega))
    refine ih (i + 1) _ (upd G s.heap.objs.size (.tup (cols i))) (ts ++ [.ref s.heap.objs.size]) (by omega) hlt I2 ?_ ?_ ?_ ?_ ?_ ?_
    · rw [upd_ne TS.symm]; exact gS
    · rw [List.range_succ, List.map_append]
      exact cn.snoc Tn
    · intro b hb
      have f := fo b hb
      exact ⟨by rw [upd_ne (Nat.ne_of_lt (hB b hb))]; exact f.1, f.2⟩
    · exact Z.keep _ _ _ p3 fun b hb o e => kp2 b o (fun e => hSf (e ▸ hb)) e
    · exact p2.keep zS kp2
    · intro b hb
      show b < (h'.update S _).objs.size
      have : (h'.update S (Obj.mapSeq (·.push (Value.ref s.heap.objs.size)))).objs.size = h'.objs.size := (Heap.SameBut.update (a := S) ..).1
      rw [this, p5]
      exact Nat.lt_succ_of_lt (hB b hb)
end
end EvL
end

section
set_option Elab.async false
set_option linter.all false
set_option maxRecDepth 100000
set_option maxHeartbeats 4000000
/-! E21d: list(zip(*rows)) as an expression -/
namespace EvL
open PySem PySem.Spec PyProof.Rows L2 EvZ
section
variable {X : Cx} {pins : List (Addr × Obj)} {σ : L2.St} {z TI TO : Addr} {ch fp : List Addr} {n : Nat} {Pt : Nat → Array Value → Prop} {Si : Nat → Heap → Prop} {cols : Nat → List V} {G : Hp} {A : Around}
theorem list_zip (Z : ZK X.prog X.w z TI TO ch fp n Pt Si) (hh : A.handled = none) (hn : n ≤ 1000) (hn1 : 1 ≤ n) (hz : z ∈ ch) (hP : ∀ i vals, Pt i vals → Vals (cols i) vals.toList) (hc : ∀ i, (cols i).length ≤ 1000) {s : Shared} {Q E : Value → Shared → Prop}
    (I : Inv X pins σ G s) (fo : ∀ b ∈ ch, FpOk X pins G b) (hB : ∀ b ∈ ch, b < s.heap.objs.size) (hF : ∀ b ∈ fp, b < s.heap.objs.size) (g : IsZip s.heap z TI TO .none) (st : Si 0 s.heap)
    (hQ : ∀ S s' G' ts, Inv X pins σ (upd G' S (.lst ts)) s' → G' S = none → Chain G ((List.range n).map cols) ts G' → Q (.ref S) s') : wpAny (model X.prog X.w) A (call (.type "list") [.ref z]) Q E s := by
  have hSc : s.heap.objs.size ∉ ch := fun hm => Nat.lt_irrefl _ (hB _ hm)
  have hSf : s.heap.objs.size ∉ fp := fun hm => Nat.lt_irrefl _ (hF _ hm)
  have hSz : s.heap.objs.size ≠ z := fun e => hSc (by rw [e]; exact hz)
  refine callType_codes (Q₁ := fun obj s1 => obj = .ref s.heap.objs.size ∧ s1 = { s with heap := s.heap.push { cls := .type "list", data := .seq #[] } }) F.called_list (F.typeCall_list_1 _) F.entry_list_init (code_list_new _ ⟨rfl, rfl⟩) fun obj s1 h1 => ?_
  obtain ⟨rfl, rfl⟩ := h1
  have hS : (s.heap.push { cls := .type "list", data := .seq #[] }).get? s.heap.objs.size = some { cls := .type "list", data := .seq #[] } := Heap.get?_push_size _ rfl
  have k1 : ∀ b o, s.heap.get? b = some o → (s.heap.push { cls := .type "list", data := .seq #[] }).get? b = some o := fun b o e => Heap.get?_push_of_some _ e
  have nb : ∀ b o, s.heap.get? b = some o → b ≠ s.heap.objs.size := fun b o e => Nat.ne_of_lt (Heap.lt_size e)
  refine ⟨⟨_, hS, rfl⟩, F.args_list_init_2 _ _, ?_⟩
  show wpAny _ A.in1.in1 (do let old ← Builtin.List.listItems (.ref s.heap.objs.size); Builtin.List.listUpdate (.ref s.heap.objs.size) (fun _ => #[]); letGo old.toList.reverse; Builtin.List.listExtendWith (.ref s.heap.objs.size) (.ref z) .none) _ _ _
  refine wpAny_bind ?_
  unfold Builtin.List.listItems
  refine wpAny_bind (wpAny_seqItems hS rfl (wpAny_pure ?_))
  show wpAny _ A.in1.in1 (updateSeq s.heap.objs.size (fun _ => #[]) >>= fun _ => letGo (#[] : Array Value).toList.reverse >>= fun _ => Builtin.List.listExtendWith (.ref s.heap.objs.size) (.ref z) .none) _ _ _
  refine wpAny_bind (wpAny_updateSeq hS rfl ?_)
  have hS2 := Heap.get?_update_self (Obj.mapSeq (fun _ => (#[] : Array Value))) hS rfl
  have sz1 : (s.heap.push { cls := .type "list", data := .seq #[] }).objs.size = s.heap.objs.size + 1 := Heap.size_push ..
  have k2 : ∀ b o, s.heap.get? b = some o → ((s.heap.push { cls := .type "list", data := .seq #[] }).update s.heap.objs.size (Obj.mapSeq (fun _ => (#[] : Array Value)))).get? b = some o := fun b o e => (Heap.get?_update_other _ _ (Ne.symm (nb b o e))).trans (k1 b o e)
  have sz2 : ((s.heap.push { cls := .type "list", data := .seq #[] }).update s.heap.objs.size (Obj.mapSeq (fun _ => (#[] : Array Value)))).objs.size = s.heap.objs.size + 1 := by rw [← sz1]; exact (Heap.SameBut.update (a := s.heap.objs.size) ..).1
  generalize hg2 : (s.heap.push { cls := .type "list", data := .seq #[] }).update s.heap.objs.size (Obj.mapSeq (fun _ => (#[] : Array Value))) = g2 at hS2 k2 sz2
  refine wpAny_bind (wpAny_letGo ?_)
  unfold Builtin.List.listExtendWith
  have tz : ∀ {h : Heap}, (∀ b o, s.heap.get? b = some o → h.get? b = some o) → Shared.TypeIs { s with heap := h } (.ref z) "zip" := fun {h} q => ⟨_, q _ _ g, rfl⟩
  refine wpAny_bind (wpAny_typeOf (tz k2) ?_)
  have h1 : Builtin.List.listSameRef (.ref s.heap.objs.size) (.ref z) = false := by simp only [Builtin.List.listSameRef, beq_eq_false_iff_ne]; exact hSz
  have h2 : (Value.type "zip" == Value.type "list") = false := by decide
  have h3 : (Value.type "zip" == Value.type "tuple") = false := by decide
  simp only [h1, h2, h3, Bool.or_false, Bool.false_eq_true, if_false]
  refine wpAny_bind (wpAny_pyIter_zip (s := { s with heap := g2 }) (k2 _ _ g) (wpAny_bind (wpAny_holding ?_)))
  unfold Builtin.List.listLengthHint
  refine wpAny_bind (wpAny_specialOf (tz k2) zip_nolen ?_)
  show wpAny _ A.in1.in1 (specialOf (Value.ref z) (Str.ofString "__length_hint__") >>= fun _ => _) _ _ _
  refine wpAny_bind (wpAny_specialOf (tz k2) zip_nohint (wpAny_pure ?_))
  show wpAny _ A.in1.in1 (rule "list.extend.makes-room" >>= fun _ => Builtin.List.listTouch (.ref s.heap.objs.size) >>= fun _ => again (.builtin "list.extend.loop" ⟨[.ref s.heap.objs.size, .ref z, .none], []⟩)) _ _ _
  refine wpAny_bind (wpAny_rule (wpAny_bind ?_))
  show wpAny _ A.in1.in1 (updateSeq s.heap.objs.size (·.push .none) >>= fun _ => updateSeq s.heap.objs.size (·.pop)) _ _ _
  refine wpAny_bind (wpAny_updateSeq hS2 rfl ?_)
  have hS3 := Heap.get?_update_self (Obj.mapSeq (·.push Value.none)) hS2 rfl
  refine wpAny_updateSeq (hz := by seq_fits) hS3 rfl ?_
  have hS4 := Heap.get?_update_self (Obj.mapSeq (·.pop)) hS3 rfl
  have k4 : ∀ b o, s.heap.get? b = some o → ((g2.update s.heap.objs.size (Obj.mapSeq (·.push Value.none))).update s.heap.objs.size (Obj.mapSeq (·.pop))).get? b = some o := fun b o e => (Heap.get?_update_other _ _ (Ne.symm (nb b o e))).trans ((Heap.get?_update_other _ _ (Ne.symm (nb b o e))).trans (k2 b o e))
  have sz4 : ((g2.update s.heap.objs.size (Obj.mapSeq (·.push Value.none))).update s.heap.objs.size (Obj.mapSeq (·.pop))).objs.size = s.heap.objs.size + 1 := by
    rw [← sz2]
    exact ((Heap.SameBut.update (a := s.heap.objs.size) ..).1).trans ((Heap.SameBut.update (a := s.heap.objs.size) ..).1)
  generalize (g2.update s.heap.objs.size (Obj.mapSeq (·.push Value.none))).update s.heap.objs.size (Obj.mapSeq (·.pop)) = g4 at hS4 k4 sz4
  refine wpAny_pure ⟨plainId_quiet F.plain_extend_loop _, ?_⟩
  have I1 : Inv X pins σ (upd G s.heap.objs.size (.lst [])) { s with heap := g4 } := I.laid (t' := s.toks) k4 (Nat.le_refl _) ⟨Nat.zero_le _, [], _, .nil, by rw [hS4]; rfl⟩
  refine zloop (S := s.heap.objs.size) (A := A.in1) (cols := cols) (H := G) (G := G) (R := _) (ts := []) (s := { s with heap := g4 }) Z (show A.in1.handled = none from hh) hn hn1 hSf hSc hz hP hc (fun s' G' ts q1 q2 q3 => ⟨rfl, hQ _ s' G' ts q1 q2 q3⟩) n 0 rfl (Nat.zero_le _) I1 I.fresh (.nil G) fo (Z.keep _ _ _ st fun b _ o e => k4 b o e) (.inl ⟨rfl, k4 _ _ g⟩) fun b hb => ?_
  show b < g4.objs.size
  rw [sz4]
  exact Nat.lt_succ_of_lt (hB b hb)
end
end EvL
end

section
set_option Elab.async false
set_option linter.all false
set_option maxRecDepth 100000
set_option maxHeartbeats 4000000
/-! E21e: the rule of list(zip(*rows)) -/
namespace EvL
open PySem PySem.Spec PyProof.Rows L2 EvZ
/-- a type called with one starred argument -/
theorem callS_type {M : Model} {A : Around} {E : Value → Shared → Prop} {s : Shared} {env : Env} {pos p : Pos} {T : String} {e : Expr} {Q : Value → Shared → Prop}
    (h : wpAny M A (eval e env) (fun v s1 => PySem.W.StarOf M A E v (fun vs s2 => wpAny M A (call (.type T) vs) Q E s2) s1) E s) (he : starEach [.Starred e p] env = [(true, eval e env)] := by rfl) :
    wpAny M A (callWith pos (.type T) [] (backTo pos (starEach [.Starred e p] env)) []) Q E s := by
  rw [he]
  refine PySem.W.ks_call (P := fun _ => True) rfl (fun h _ => ⟨.machine, .inr (.inl rfl), PySem.W.Looks.of_pure rfl⟩) (PySem.W.ks_lone (thn h fun v s1 q => ?_))
  unfold PySem.W.StarOf at q ⊢
  exact thn q fun b s2 ⟨hb, q2⟩ => ⟨hb, thn q2 fun vs s3 q3 => ⟨trivial, q3⟩⟩
theorem vals_at : ∀ {xs : List V} {us : List Value} {i : Nat} {u : Value}, Vals xs us → us[i]? = some u → RelV (xs.getD i .non) u
  | _, _, _, _, .nil, e => by simp at e
  | _, _, 0, _, .cons r _, e => by simp at e; subst e; exact r
  | _ :: xs, _ :: us, i + 1, u, .cons _ t, e => by
    have := vals_at (i := i) t (by simpa using e)
    simpa [List.getD_eq_getElem?_getD] using this
def colsV (n : Nat) (rows : List (List V)) : List (List V) := (List.range n).map fun i => rows.map fun r => r.getD i .non
theorem blt {a b : Nat} (h : a < b) : @LT.lt Addr _ a b := h
/-- one, two, three tuples of one length -/
def tZipS (K : PySem.W.Frag) (te : TE) : TE := fun σ H Q => te σ H fun y H1 => ∃ (a : Addr) (rs : List Addr) (rows : List (List V)) (n : Nat), y = V.ref a ∧ SqT K H1 a (rs.map V.ref) ∧ rows.length = rs.length ∧ 1 ≤ rs.length ∧ rs.length ≤ 3 ∧ 1 ≤ n ∧ n ≤ 1000 ∧
  (∀ (j : Nat) (r : Addr) (row : List V), rs[j]? = some r → rows[j]? = some row → SqT K H1 r row ∧ row.length = n) ∧ ∀ ts G' S, Chain H1 (colsV n rows) ts G' → G' S = none → Q (.ref S) (upd G' S (.lst ts))
section
variable {X : Cx} {pins : List (Addr × Obj)} {σ : L2.St} {G : Hp}
def ZMade (X : Cx) (pins : List (Addr × Obj)) (σ : L2.St) (G : Hp) (rows : List (List V)) (n : Nat) (u : Value) (s' : Shared) : Prop :=
  ∀ (A : Around) (Q E : Value → Shared → Prop), A.handled = none → (∀ S s2 G' ts, Inv X pins σ (upd G' S (.lst ts)) s2 → G' S = none → Chain G (colsV n rows) ts G' → Q (.ref S) s2) → wpAny (model X.prog X.w) A (call (.type "list") [u]) Q E s'

theorem made1 {r1 : Addr} {w1 : List V} {n : Nat} {s : Shared} {E : Value → Shared → Prop} (I : Inv X pins σ G s) (h1 : SqT X.K G r1 w1) (l1 : w1.length = n) (hn : 1 ≤ n) (hn2 : n ≤ 1000) :
    wpAny (model X.prog X.w) X.A (call (.type "zip") [.ref r1]) (ZMade X pins σ G [w1] n) E s := by
  obtain ⟨its1, rv1, p1, _⟩ := I.tuple h1
  have q1 : s.heap.IsTuple r1 its1.toArray := p1
  have lt1 : r1 < s.heap.objs.size := by obtain ⟨o, ho, _⟩ := q1; exact Heap.lt_size ho
  have sz1 : its1.toArray.size = n := by rw [List.size_toArray, ← rv1.length, l1]
  refine zip_begins1 (begins_tuple r1 its1.toArray) q1 fun h' g1 g2 g3 b1 gsz hk => ?_
  intro A Q E hh hQ
  have I2 : Inv X pins σ G { s with heap := h' } := I.kept (t' := s.toks) hk
  have fo : ∀ b ∈ [s.heap.objs.size + 3, s.heap.objs.size + 2, s.heap.objs.size], FpOk X pins G b := fun b hb => by
    have hle : s.heap.objs.size ≤ b := by
      simp only [List.mem_cons, List.not_mem_nil, or_false] at hb
      rcases hb with rfl | rfl | rfl <;> first | exact Nat.le_refl _ | exact Nat.le_add_right _ _
    exact I.fpOk hle (I.hok.fresh hle)
  have hB : ∀ b ∈ [s.heap.objs.size + 3, s.heap.objs.size + 2, s.heap.objs.size], b < h'.objs.size := fun b hb => by
    rw [gsz]
    simp only [List.mem_cons, List.not_mem_nil, or_false] at hb
    rcases hb with rfl | rfl | rfl <;> exact blt (by omega)
  have hF : ∀ b ∈ [s.heap.objs.size + 1, s.heap.objs.size + 2, s.heap.objs.size, r1], b < h'.objs.size := fun b hb => by
    rw [gsz]
    simp only [List.mem_cons, List.not_mem_nil, or_false] at hb
    rcases hb with rfl | rfl | rfl | rfl
    · exact blt (by omega)
    · exact blt (by omega)
    · exact blt (by omega)
    · exact Nat.lt_of_lt_of_le lt1 (Nat.le_add_right _ _)
  refine list_zip (s := { s with heap := h' }) (cols := fun i => [w1].map fun r => r.getD i .non) (zk1 (b := s.heap.objs.size) lt1 sz1) hh hn2 hn (by simp) (fun i vals ⟨v1, y1, e⟩ => by subst e; exact (.cons (vals_at rv1 (by simpa using y1)) .nil)) (fun i => by simp) I2 fo hB hF g1 ⟨g2, ⟨_, g3⟩, ⟨⟨_, b1, rfl, rfl⟩, by obtain ⟨o, ho, hc⟩ := q1; exact ⟨o, hk _ _ ho, hc⟩⟩⟩ fun S s2 G' ts a1 a2 a3 => hQ S s2 G' ts a1 a2 a3
theorem made2 {r1 r2 : Addr} {w1 w2 : List V} {n : Nat} {s : Shared} {E : Value → Shared → Prop} (I : Inv X pins σ G s) (h1 : SqT X.K G r1 w1) (h2 : SqT X.K G r2 w2) (l1 : w1.length = n) (l2 : w2.length = n) (hn : 1 ≤ n) (hn2 : n ≤ 1000) :
    wpAny (model X.prog X.w) X.A (call (.type "zip") [.ref r1, .ref r2]) (ZMade X pins σ G [w1, w2] n) E s := by
  obtain ⟨its1, rv1, p1, _⟩ := I.tuple h1
  have q1 : s.heap.IsTuple r1 its1.toArray := p1
  have lt1 : r1 < s.heap.objs.size := by obtain ⟨o, ho, _⟩ := q1; exact Heap.lt_size ho
  have sz1 : its1.toArray.size = n := by rw [List.size_toArray, ← rv1.length, l1]
  obtain ⟨its2, rv2, p2, _⟩ := I.tuple h2
  have q2 : s.heap.IsTuple r2 its2.toArray := p2
  have lt2 : r2 < s.heap.objs.size := by obtain ⟨o, ho, _⟩ := q2; exact Heap.lt_size ho
  have sz2 : its2.toArray.size = n := by rw [List.size_toArray, ← rv2.length, l2]
  refine zip_begins2 (begins_tuple r1 its1.toArray) (begins_tuple r2 its2.toArray) q1 q2 fun h' g1 g2 g3 b1 b2 gsz hk => ?_
  intro A Q E hh hQ
  have I2 : Inv X pins σ G { s with heap := h' } := I.kept (t' := s.toks) hk
  have fo : ∀ b ∈ [s.heap.objs.size + 4, s.heap.objs.size + 3, s.heap.objs.size, (s.heap.objs.size + 1)], FpOk X pins G b := fun b hb => by
    have hle : s.heap.objs.size ≤ b := by
      simp only [List.mem_cons, List.not_mem_nil, or_false] at hb
      rcases hb with rfl | rfl | rfl | rfl <;> first | exact Nat.le_refl _ | exact Nat.le_add_right _ _
    exact I.fpOk hle (I.hok.fresh hle)
  have hB : ∀ b ∈ [s.heap.objs.size + 4, s.heap.objs.size + 3, s.heap.objs.size, (s.heap.objs.size + 1)], b < h'.objs.size := fun b hb => by
    rw [gsz]
    simp only [List.mem_cons, List.not_mem_nil, or_false] at hb
    rcases hb with rfl | rfl | rfl | rfl <;> exact blt (by omega)
  have hF : ∀ b ∈ [s.heap.objs.size + 2, s.heap.objs.size + 3, s.heap.objs.size, (s.heap.objs.size + 1), r1, r2], b < h'.objs.size := fun b hb => by
    rw [gsz]
    simp only [List.mem_cons, List.not_mem_nil, or_false] at hb
    rcases hb with rfl | rfl | rfl | rfl | rfl | rfl
    · exact blt (by omega)
    · exact blt (by omega)
    · exact blt (by omega)
    · exact blt (by omega)
    · exact Nat.lt_of_lt_of_le lt1 (Nat.le_add_right _ _)
    · exact Nat.lt_of_lt_of_le lt2 (Nat.le_add_right _ _)
  refine list_zip (s := { s with heap := h' }) (cols := fun i => [w1, w2].map fun r => r.getD i .non) (zk2 (b := s.heap.objs.size) lt1 lt2 sz1 sz2) hh hn2 hn (by simp) (fun i vals ⟨v1, v2, y1, y2, e⟩ => by subst e; exact (.cons (vals_at rv1 (by simpa using y1)) (.cons (vals_at rv2 (by simpa using y2)) .nil))) (fun i => by simp) I2 fo hB hF g1 ⟨g2, ⟨_, _, g3⟩, ⟨⟨_, b1, rfl, rfl⟩, by obtain ⟨o, ho, hc⟩ := q1; exact ⟨o, hk _ _ ho, hc⟩⟩, ⟨⟨_, b2, rfl, rfl⟩, by obtain ⟨o, ho, hc⟩ := q2; exact ⟨o, hk _ _ ho, hc⟩⟩⟩ fun S s2 G' ts a1 a2 a3 => hQ S s2 G' ts a1 a2 a3
theorem made3 {r1 r2 r3 : Addr} {w1 w2 w3 : List V} {n : Nat} {s : Shared} {E : Value → Shared → Prop} (I : Inv X pins σ G s) (h1 : SqT X.K G r1 w1) (h2 : SqT X.K G r2 w2) (h3 : SqT X.K G r3 w3) (l1 : w1.length = n) (l2 : w2.length = n) (l3 : w3.length = n) (hn : 1 ≤ n) (hn2 : n ≤ 1000) :
    wpAny (model X.prog X.w) X.A (call (.type "zip") [.ref r1, .ref r2, .ref r3]) (ZMade X pins σ G [w1, w2, w3] n) E s := by
  obtain ⟨its1, rv1, p1, _⟩ := I.tuple h1
  have q1 : s.heap.IsTuple r1 its1.toArray := p1
  have lt1 : r1 < s.heap.objs.size := by obtain ⟨o, ho, _⟩ := q1; exact Heap.lt_size ho
  have sz1 : its1.toArray.size = n := by rw [List.size_toArray, ← rv1.length, l1]
  obtain ⟨its2, rv2, p2, _⟩ := I.tuple h2
  have q2 : s.heap.IsTuple r2 its2.toArray := p2
  have lt2 : r2 < s.heap.objs.size := by obtain ⟨o, ho, _⟩ := q2; exact Heap.lt_size ho
  have sz2 : its2.toArray.size = n := by rw [List.size_toArray, ← rv2.length, l2]
  obtain ⟨its3, rv3, p3, _⟩ := I.tuple h3
  have q3 : s.heap.IsTuple r3 its3.toArray := p3
  have lt3 : r3 < s.heap.objs.size := by obtain ⟨o, ho, _⟩ := q3; exact Heap.lt_size ho
  have sz3 : its3.toArray.size = n := by rw [List.size_toArray, ← rv3.length, l3]
  refine zip_begins3 (begins_tuple r1 its1.toArray) (begins_tuple r2 its2.toArray) (begins_tuple r3 its3.toArray) q1 q2 q3 fun h' g1 g2 g3 b1 b2 b3 gsz hk => ?_
  intro A Q E hh hQ
  have I2 : Inv X pins σ G { s with heap := h' } := I.kept (t' := s.toks) hk
  have fo : ∀ b ∈ [s.heap.objs.size + 5, s.heap.objs.size + 4, s.heap.objs.size, (s.heap.objs.size + 1), (s.heap.objs.size + 2)], FpOk X pins G b := fun b hb => by
    have hle : s.heap.objs.size ≤ b := by
      simp only [List.mem_cons, List.not_mem_nil, or_false] at hb
      rcases hb with rfl | rfl | rfl | rfl | rfl <;> first | exact Nat.le_refl _ | exact Nat.le_add_right _ _
    exact I.fpOk hle (I.hok.fresh hle)
  have hB : ∀ b ∈ [s.heap.objs.size + 5, s.heap.objs.size + 4, s.heap.objs.size, (s.heap.objs.size + 1), (s.heap.objs.size + 2)], b < h'.objs.size := fun b hb => by
    rw [gsz]
    simp only [List.mem_cons, List.not_mem_nil, or_false] at hb
    rcases hb with rfl | rfl | rfl | rfl | rfl <;> exact blt (by omega)
  have hF : ∀ b ∈ [s.heap.objs.size + 3, s.heap.objs.size + 4, s.heap.objs.size, (s.heap.objs.size + 1), (s.heap.objs.size + 2), r1, r2, r3], b < h'.objs.size := fun b hb => by
    rw [gsz]
    simp only [List.mem_cons, List.not_mem_nil, or_false] at hb
    rcases hb with rfl | rfl | rfl | rfl | rfl | rfl | rfl | rfl
    · exact blt (by omega)
    · exact blt (by omega)
    · exact blt (by omega)
    · exact blt (by omega)
    · exact blt (by omega)
    · exact Nat.lt_of_lt_of_le lt1 (Nat.le_add_right _ _)
    · exact Nat.lt_of_lt_of_le lt2 (Nat.le_add_right _ _)
    · exact Nat.lt_of_lt_of_le lt3 (Nat.le_add_right _ _)
  refine list_zip (s := { s with heap := h' }) (cols := fun i => [w1, w2, w3].map fun r => r.getD i .non) (zk3 (b := s.heap.objs.size) lt1 lt2 lt3 sz1 sz2 sz3) hh hn2 hn (by simp) (fun i vals ⟨v1, v2, v3, y1, y2, y3, e⟩ => by subst e; exact (.cons (vals_at rv1 (by simpa using y1)) (.cons (vals_at rv2 (by simpa using y2)) (.cons (vals_at rv3 (by simpa using y3)) .nil)))) (fun i => by simp) I2 fo hB hF g1 ⟨g2, ⟨_, _, _, g3⟩, ⟨⟨_, b1, rfl, rfl⟩, by obtain ⟨o, ho, hc⟩ := q1; exact ⟨o, hk _ _ ho, hc⟩⟩, ⟨⟨_, b2, rfl, rfl⟩, by obtain ⟨o, ho, hc⟩ := q2; exact ⟨o, hk _ _ ho, hc⟩⟩, ⟨⟨_, b3, rfl, rfl⟩, by obtain ⟨o, ho, hc⟩ := q3; exact ⟨o, hk _ _ ho, hc⟩⟩⟩ fun S s2 G' ts a1 a2 a3 => hQ S s2 G' ts a1 a2 a3
end
end EvL
end

section
set_option Elab.async false
set_option linter.all false
set_option maxRecDepth 100000
set_option maxHeartbeats 400000
/-! E21f: the rule of list(zip(*rows)) -/
namespace EvL
open PySem PySem.Spec PyProof.Rows L2 EvZ
theorem star_call (f : Expr) (as : List Expr) (ks : List Keyword) (pos : Pos) (es : List Expr) (env : Env) : starEach (.Call f as ks pos :: es) env = (false, eval (.Call f as ks pos) env) :: starEach es env := rfl
theorem star_one (e : Expr) (p : Pos) (env : Env) : starEach [.Starred e p] env = [(true, eval e env)] := rfl
theorem star_none (pos : Pos) (env : Env) : (backTo pos (starEach [] env)).any (·.1) = false := rfl
section
variable {X : Cx} {pins : List (Addr × Obj)} {σ : L2.St} {H1 : Hp} {Q : VK}
/-- whatever rows there are -/
theorem madeAny {rs : List Addr} {rows : List (List V)} {n : Nat} {s : Shared} {E : Value → Shared → Prop} {us : List Value} (I : Inv X pins σ H1 s) (hl : rows.length = rs.length) (h1 : 1 ≤ rs.length) (h3 : rs.length ≤ 3) (hn : 1 ≤ n) (hn2 : n ≤ 1000)
    (hrow : ∀ (j : Nat) (r : Addr) (row : List V), rs[j]? = some r → rows[j]? = some row → SqT X.K H1 r row ∧ row.length = n) (rv : Vals (rs.map V.ref) us) : wpAny (model X.prog X.w) X.A (call (.type "zip") us) (ZMade X pins σ H1 rows n) E s := by
  match rs, rows, hl, h1, h3, hrow, rv with
  | [r1], [w1], _, _, _, hrow, .cons a1 .nil =>
    obtain ⟨q1, l1⟩ := hrow 0 r1 w1 rfl rfl
    cases a1
    exact made1 I q1 l1 hn hn2
  | [r1, r2], [w1, w2], _, _, _, hrow, .cons a1 (.cons a2 .nil) =>
    obtain ⟨q1, l1⟩ := hrow 0 r1 w1 rfl rfl
    obtain ⟨q2, l2⟩ := hrow 1 r2 w2 rfl rfl
    cases a1
    cases a2
    exact made2 I q1 q2 l1 l2 hn hn2
  | [r1, r2, r3], [w1, w2, w3], _, _, _, hrow, .cons a1 (.cons a2 (.cons a3 .nil)) =>
    obtain ⟨q1, l1⟩ := hrow 0 r1 w1 rfl rfl
    obtain ⟨q2, l2⟩ := hrow 1 r2 w2 rfl rfl
    obtain ⟨q3, l3⟩ := hrow 2 r3 w3 rfl rfl
    cases a1
    cases a2
    cases a3
    exact made3 I q1 q2 q3 l1 l2 l3 hn hn2
theorem listMade {rows : List (List V)} {n : Nat} {u : Value} {s : Shared} (hh : X.A.handled = none) (zm : ZMade X pins σ H1 rows n u s) (q : ∀ ts G' S, Chain H1 (colsV n rows) ts G' → G' S = none → Q (.ref S) (upd G' S (.lst ts))) :
    wpAny (model X.prog X.w) X.A (call (.type "list") [u]) (EP X pins σ Q) X.xe s :=
  zm X.A (EP X pins σ Q) X.xe hh fun S s4 G' ts j1 j2 j3 => ⟨.ref S, _, j1, rfl, q ts G' S j3 j2⟩
end
section
variable {X : Cx} {e : Expr} {te : TE} {p p1 p2 p3 p4 : Pos}
theorem run_zip {pins : List (Addr × Obj)} {s : Shared} {σ : L2.St} {H : Hp} {Q : VK} (hg : Gl X "zip") (hm : X.mg "zip" = none) (ha : PE X e te) (I : Inv X pins σ H s) (h : tZipS X.K te σ H Q) :
    wpAny (model X.prog X.w) X.A (eval (.Call (.Name "zip" p) [.Starred e p4] [] p3) X.env) (fun u s3 => ∃ H1 rows n, ZMade X pins σ H1 rows n u s3 ∧ ∀ ts G' S, Chain H1 (colsV n rows) ts G' → G' S = none → Q (.ref S) (upd G' S (.lst ts))) X.xe s := by
  refine Call_ (ld_blt I hg hm PyProof.Rows.boot_zip (callS_type (thn (ha.run pins s σ H _ I h) fun v s1 ⟨y, H1, I1, ry, a, rs, rows, n, ey, hs, hl2, h1, h3, hn1, hn2, hrow, q⟩ => ?_) (star_one _ _ _)))
  subst ey
  obtain rfl : v = Value.ref a := ry
  exact star_tup I1 hs fun us s2 I2 rv => thn (madeAny I2 hl2 h1 h3 hn1 hn2 hrow rv) fun u s3 zm => ⟨H1, rows, n, zm, q⟩
theorem pe_listZipS (hc : X.calm = true) (hl : Gl X "list") (hml : X.mg "list" = none) (hg : Gl X "zip") (hm : X.mg "zip" = none) (ha : PE X e te) : PE X (.Call (.Name "list" p1) [.Call (.Name "zip" p) [.Starred e p4] [] p3] [] p2) (tZipS X.K te) := by
  refine ⟨fun pins s σ H Q I h => ?_⟩
  refine Call_ (ld_blt I hl hml boot_list (PyProof.Rows.callWith_type1 (args_cons (thn (run_zip hg hm ha I h) fun u s3 ⟨H1, rows, n, zm, q⟩ => args_nil ?_) (star_call _ _ _ _ _ _)) (star_call _ _ _ _ _ _) (star_none _ _)))
  exact listMade (I.ok.hd hc) zm q
end
end EvL
end

section
set_option Elab.async false
set_option linter.all false
set_option maxRecDepth 100000
set_option maxHeartbeats 4000000
/-! E21: list(zip(*rows)) -/
namespace EvL
open PySem PySem.Spec PyProof.Rows L2
section
variable {K : PySem.W.Frag} {tb : Tb} {W : WX} {X : Cx} {a b c e : Expr} {es : List Expr} {fa fb fc f : Sem1} {ff : SemF} {pos p p1 p2 p3 p4 : Pos} {k j : Nat} {x : Str}
/-- rows that are tuples -/
def tups : List Dv → Option (List (List Dv))
  | [] => some []
  | .tup xs :: r => (tups r).map (xs :: ·)
  | _ :: _ => none
def wide (rows : List (List Dv)) : Nat := match rows with
  | [] => 0
  | r :: rs => rs.foldl (fun n q => min n q.length) r.length
def cols (rows : List (List Dv)) : List Dv := (List.range (wide rows)).map fun i => .tup (rows.map fun r => r.getD i .non)
def fZipS (f : Sem1) : SemF := fun en m => (f en m).bind fun x m1 => match frz m1 x with
  | some (.tup rows, m2) => (match tups rows with
    | some rs => if (decide (1 ≤ rs.length) && decide (rs.length ≤ 3) && decide (1 ≤ wide rs) && decide (wide rs ≤ 1000) && rs.all fun r => decide (r.length = wide rs)) then .ok (cols rs) m2 else .no
    | none => .no)
  | _ => .no
theorem repL_getD {F : Hp} : ∀ {xs : List Dv} {vs : List V} (i : Nat), RepL K tb F xs vs → Rep K tb F (xs.getD i .non) (vs.getD i .non)
  | _, _, i, .nil => by simpa using .non
  | _, _, 0, .cons h _ => by simpa [List.getD_eq_getElem?_getD] using h
  | _ :: xs, _ :: vs, i + 1, .cons _ r => by
    have := repL_getD i r
    simpa [List.getD_eq_getElem?_getD] using this
/-- rows, each a tuple: where they lie, what they hold -/
theorem tups_rep {F : Hp} : ∀ {rows : List Dv} {rs : List (List Dv)} {vs : List V}, RepL K tb F rows vs → tups rows = some rs → ∃ (as : List Addr) (ws : List (List V)), vs = as.map V.ref ∧ ws.length = as.length ∧ as.length = rs.length ∧ (∀ (j : Nat) (a : Addr) (w : List V), as[j]? = some a → ws[j]? = some w → SqT K F a w) ∧ ∀ (j : Nat) (r : List Dv) (w : List V), rs[j]? = some r → ws[j]? = some w → RepL K tb F r w
  | [], rs, _, .nil, e => by
    cases e
    exact ⟨[], [], rfl, rfl, rfl, fun j a w h => by simp at h, fun j a w h => by simp at h⟩
  | x :: rows, rs, _, .cons h r, e => by
    cases x <;> simp only [tups, Option.map_eq_some_iff, reduceCtorEq] at e
    obtain ⟨l, h1, rfl⟩ := e
    obtain ⟨as, ws, rfl, q1, q2, q3, q4⟩ := tups_rep r h1
    cases h with
    | @tup a xs vs' hs hr =>
      refine ⟨a :: as, vs' :: ws, rfl, by simp [q1], by simp [q2], fun j a' w h h' => ?_, fun j r' w h h' => ?_⟩
      · cases j with
        | zero => simp at h h'; subst h; subst h'; exact hs
        | succ j => simp at h h'; exact q3 j a' w h h'
      · cases j with
        | zero => simp at h h'; subst h; subst h'; exact hr
        | succ j => simp at h h'; exact q4 j r' w h h'
/-- the new tuples, told -/
theorem chain_rep {F : Hp} {ρ : List Addr} {m : Store} {G G' : Hp} {cs : List (List V)} {ts : List V} (h : Chain G cs ts G') (o : Wo K tb F ρ m G) : ∀ (ps : List (List Dv × List V)), cs = ps.map (·.2) → (∀ q ∈ ps, RepL K tb F q.1 q.2) → ∃ F', Ext F ρ F' ρ ∧ Wo K tb F' ρ m G' ∧ RepL K tb F' (ps.map fun q => Dv.tup q.1) ts := by
  induction h with
  | nil =>
    intro ps e _
    have : ps = [] := by simpa using e.symm
    subst this
    exact ⟨F, .refl _ _, o, .nil⟩
  | @snoc G0 cs ts T c hc hT ih =>
    intro ps e hp
    obtain ⟨p1, p2, rfl, e1, e2⟩ := List.map_eq_append_iff.mp e.symm
    obtain ⟨q, rfl, e3⟩ : ∃ q, p2 = [q] ∧ q.2 = c := by
      cases p2 with
      | nil => simp at e2
      | cons q p2 =>
        simp at e2
        exact ⟨q, by rw [e2.2], e2.1⟩
    obtain ⟨F1, x1, o1, r1⟩ := ih p1 e1.symm fun q hq => hp q (by simp [hq])
    obtain ⟨o2, x2⟩ := o1.alloc hT (.tup c)
    have rq := (hp q (by simp)).mono (x1.le.trans x2.le)
    rw [e3] at rq
    refine ⟨_, x1.trans x2, o2, ?_⟩
    rw [List.map_append]
    exact (r1.mono x2.le).append (.cons (.tup (.inl (.inl upd_same)) rq) .nil)
theorem rf_zipS (hc : X.calm = true) (hl : Gl X "list") (hml : X.mg "list" = none) (hg : Gl X "zip") (hm : X.mg "zip" = none) (ha : RE X tb W a fa) : RF X tb W (.Call (.Name "list" p1) [.Call (.Name "zip" p) [.Starred a p4] [] p3] [] p2) (fZipS fa) := by
  refine PE.weak (pe_listZipS hc hl hml hg hm ha) fun σ H Q q => ?_
  obtain ⟨F, ρ, en, m, he, ho, q⟩ := q
  refine tE_bindF he ho q fun x m1 F1 ρ1 H1 v e1 he1 ho1 r1 q1 => ?_
  split at q1
  · rename_i rows m2 hd
    obtain ⟨F2, x2, o2, r2⟩ := frz_ok ho1 r1 hd
    split at q1
    · rename_i rs hrs
      split at q1
      · rename_i hk
        simp only [Bool.and_eq_true, decide_eq_true_eq, List.all_eq_true] at hk
        obtain ⟨⟨⟨⟨k1, k2⟩, k3⟩, k4⟩, k5⟩ := hk
        cases r2 with
        | @tup a xs vs hs hr =>
          obtain ⟨as, ws, rfl, j1, j2, j3, j4⟩ := tups_rep hr hrs
          refine ⟨a, as, ws, wide rs, rfl, o2.sub.sqt hs, j1, by omega, by omega, k3, k4, fun j r row h h' => ?_, fun ts G' S hch hS => ?_⟩
          · refine ⟨o2.sub.sqt (j3 j r row h h'), ?_⟩
            have hj : j < rs.length := by rw [← j2]; exact (List.getElem?_eq_some_iff.mp h).1
            have := j4 j rs[j] row (List.getElem?_eq_getElem hj) h'
            rw [← this.length]
            exact k5 _ (List.getElem_mem _)
          · have rw_ : ∀ i : Nat, RepL X.K tb F2 (rs.map fun r => r.getD i .non) (ws.map fun r => r.getD i .non) := fun i => by
              have : ∀ (n : Nat) (rs : List (List Dv)) (ws : List (List V)), rs.length = n → ws.length = n → (∀ (j : Nat) (r : List Dv) (w : List V), rs[j]? = some r → ws[j]? = some w → RepL X.K tb F2 r w) → RepL X.K tb F2 (rs.map fun r => r.getD i .non) (ws.map fun r => r.getD i .non) := by
                intro n
                induction n with
                | zero =>
                  intro rs ws e1 e2 _
                  rw [List.eq_nil_of_length_eq_zero e1, List.eq_nil_of_length_eq_zero e2]
                  exact .nil
                | succ n ih =>
                  intro rs ws e1 e2 h
                  cases rs with
                  | nil => simp at e1
                  | cons r rs =>
                    cases ws with
                    | nil => simp at e2
                    | cons w ws =>
                      exact .cons (repL_getD i (h 0 r w rfl rfl)) (ih rs ws (by simpa using e1) (by simpa using e2) fun j r' w' h1 h2 => h (j + 1) r' w' (by simpa using h1) (by simpa using h2))
              exact this rs.length rs ws rfl (by omega) j4
            obtain ⟨F3, x3, o3, r3⟩ := chain_rep hch o2 ((List.range (wide rs)).map fun i => (rs.map fun r => r.getD i .non, ws.map fun r => r.getD i .non)) (by rw [List.map_map]; rfl) (fun q hq => by
              obtain ⟨i, _, rfl⟩ := List.mem_map.mp hq
              exact rw_ i)
            rw [List.map_map] at r3
            exact q1 F3 ρ1 G' S ts (x2.trans x3) o3 hS r3
      · exact q1.elim
    · exact q1.elim
  · exact q1.elim
end
end EvL
end

section
set_option Elab.async false
set_option linter.all false
set_option maxRecDepth 100000
set_option maxHeartbeats 4000000
/-! E22: built-ins of two; defs with their facts in one -/
namespace EvL
open PySem PySem.Spec PyProof.Rows L2
section
variable {K : PySem.W.Frag} {tb : Tb} {W : WX} {X : Cx} {a b : Expr} {fa fb : Sem1} {pos p : Pos} {x : Str} {bid : String}
def sTwo (op : Int → Int → Int) (fa fb : Sem1) : Sem1 := sBin (iop fun i j => .int (op i j)) fa fb
theorem re_b2 {op : Int → Int → Int} (hc : CallR X (.builtin bid) (fun xs H Q => ∃ i j, xs = [.int i, .int j] ∧ Q (.int (op i j)) H)) (hg : Gl X x) (hm : X.mg x = none) (hv : bootBuiltins x = some (.builtin bid)) (ha : RE X tb W a fa) (hb : RE X tb W b fb) (hn : x ≠ "__name__" := by decide) (hdb : (x == ("__debug__" : Str)) = false := by decide)
    (hs : starEach [a, b] X.env = (false, eval a X.env) :: starEach [b] X.env := by rfl) (hs2 : starEach [b] X.env = (false, eval b X.env) :: starEach [] X.env := by rfl) (hpl : (backTo pos (starEach [b] X.env)).any (·.1) = false := by rfl) : RE X tb W (.Call (.Name x p) [a, b] [] pos) (sTwo op fa fb) := by
  refine PE.weak (pe_callB hc hg hm hv (pa_cons ha (pa_cons hb pa_nil hs2) hs) hn hdb hs hpl) fun σ H Q q => ?_
  obtain ⟨F, ρ, en, m, he, ho, q⟩ := tE_iff.mp q
  refine tE_bind he ho q fun y m1 F1 ρ1 H1 v e1 he1 ho1 r1 q1 => ?_
  refine tE_bind he1 ho1 q1 fun z m2 F2 ρ2 H2 u e2 he2 ho2 r2 q2 => ?_
  split at q2
  · rename_i d1 d2 h1 h2
    have t1 := rv_top ho2 (r1.mono e2) h1
    have t2 := rv_top ho2 r2 h2
    cases d1 <;> cases d2 <;> try exact q2.elim
    exact ⟨_, _, by rw [t1.int, t2.int], q2 F2 ρ2 H2 _ (.refl _ _) ho2 (.d (.int _))⟩
  · exact q2.elim
theorem re_min2 (hc : X.calm = true) (hg : Gl X "min") (hm : X.mg "min" = none) (ha : RE X tb W a fa) (hb : RE X tb W b fb) (hs : starEach [a, b] X.env = (false, eval a X.env) :: starEach [b] X.env := by rfl) (hs2 : starEach [b] X.env = (false, eval b X.env) :: starEach [] X.env := by rfl) (hpl : (backTo pos (starEach [b] X.env)).any (·.1) = false := by rfl) :
    RE X tb W (.Call (.Name "min" p) [a, b] [] pos) (sTwo (fun i j => if j < i then j else i) fa fb) := re_b2 (call_min2 hc) hg hm (by decide +kernel) ha hb (by decide) (by decide) hs hs2 hpl
theorem re_max2 (hc : X.calm = true) (hg : Gl X "max") (hm : X.mg "max" = none) (ha : RE X tb W a fa) (hb : RE X tb W b fb) (hs : starEach [a, b] X.env = (false, eval a X.env) :: starEach [b] X.env := by rfl) (hs2 : starEach [b] X.env = (false, eval b X.env) :: starEach [] X.env := by rfl) (hpl : (backTo pos (starEach [b] X.env)).any (·.1) = false := by rfl) :
    RE X tb W (.Call (.Name "max" p) [a, b] [] pos) (sTwo (fun i j => if j > i then j else i) fa fb) := re_b2 (call_max2 hc) hg hm (by decide +kernel) ha hb (by decide) (by decide) hs hs2 hpl
end
/-- a def of the top: x, text st -/
structure Dt (K : PySem.W.Frag) (mg : Str → Option Value) (x : Str) (st : Stmt) (ps : List Str) : Prop where
  ex : ∃ (f : Addr) (fd : FuncData), Fun K x x st f fd ∧ Binds K fd ps [] ∧ KwB K fd ps 0 ps ∧ mg x = some (.ref f)
/-- its promise -/
structure FoX (P : Program) (w : World) (K : PySem.W.Frag) (mg : Str → Option Value) (gb : Heap) (tb : Tb) (k : Nat) (x : Str) (ps : List Str) (g : Fs) : Prop where
  ex : ∃ (f : Addr) (fd : FuncData), Fo P w K mg gb tb k x ps g f fd ∧ KwB K fd ps 0 ps
  ar : Ar ps.length g
section
variable {P : Program} {w : World} {K : PySem.W.Frag} {mg : Str → Option Value} {gb : Heap} {tb : Tb} {W : WX} {X : Cx} {e : Expr} {es : List Expr} {fl : SemL} {pos p : Pos} {j k : Nat} {x : Str} {ps ks : List Str} {g : Fs} {kws : List Keyword} {st : Stmt} {N : List Str}
theorem FoX.up (F : FoX P w K mg gb tb j x ps g) (h : j ≤ k) : FoX P w K mg gb tb k x ps g := by
  obtain ⟨⟨f, fd, F1, F2⟩, ar⟩ := F
  exact ⟨⟨f, fd, F1.up h, F2⟩, ar⟩
theorem fo_mk {G : SemS} (D : Dt K mg x st ps) (S : FnScope N ps (defScope st))
    (body : ∀ (f : Addr) (cdv : Value) (A : Around) (up : List Env) (s : Shared) (H : Hp) (E : XK), Room k (A.deeper (envOfC x (defScope st) s.heap.objs.size f cdv)) → A.guards = some [] →
      ∀ W : WX, Takes (cxOf (L2.CX P w) P w K mg gb N x (defScope st) f cdv A up s H E) W → RSs (cxOf (L2.CX P w) P w K mg gb N x (defScope st) f cdv A up s H E) tb W (defBody st) G) :
    FoX P w K mg gb tb (k + 1) x ps (fnS N.length ps.length G) := by
  obtain ⟨f, fd, F, b, kb, hm⟩ := D.ex
  exact ⟨⟨f, fd, ⟨fnE F S fun cdv A up s H E hr hg W tk => body f cdv A up s H E hr hg W tk, hm, F.kp, b⟩, kb⟩, ar_fnS⟩
/-- a def of which nothing is promised -/
theorem fo_no (D : Dt K mg x st ps) : FoX P w K mg gb tb k x ps (fun _ _ => .no) := by
  obtain ⟨f, fd, F, b, kb, hm⟩ := D.ex
  exact ⟨⟨f, fd, ⟨⟨fun vs H Q E h => h.1, fun A up s H ar us vs Q E _ _ _ _ _ h => by obtain ⟨_, _, _, _, _, _, _, z⟩ := h; exact z.elim⟩, hm, F.kp, b⟩, kb⟩, fun _ _ _ => rfl⟩
theorem re_fo (F : FoX X.prog X.w X.K X.mg X.base tb k x ps g) (hr : Room k X.A) (hgu : X.A.guards = some []) (tk : Takes X W) (hg : Gl X x) (ha : RA X tb W (e :: es) fl)
    (hdb : (x == ("__debug__" : Str)) = false := by decide) (hs : starEach (e :: es) X.env = (false, eval e X.env) :: starEach es X.env := by rfl) (hpl : (backTo pos (starEach es X.env)).any (·.1) = false := by rfl) :
    RE X tb W (.Call (.Name x p) (e :: es) [] pos) (sCall g fl) := by
  obtain ⟨⟨f, fd, F1, _⟩, ar⟩ := F
  exact re_call F1 hr hgu tk ar hg ha hdb hs hpl
theorem re_foK (F : FoX X.prog X.w X.K X.mg X.base tb k x ps g) (hr : Room k X.A) (hgu : X.A.guards = some []) (tk : Takes X W) (hg : Gl X x) (ha : RK X tb W kws fl)
    (hall : (backToKw pos (keywordEach kws X.env)).all (·.1.isSome) = true := by rfl) (hks : (backToKw pos (keywordEach kws X.env)).filterMap (·.1) = ps := by rfl) (hdb : (x == ("__debug__" : Str)) = false := by decide)
    (hpl : ((backTo pos (starEach [] X.env)).any (·.1) || (backToKw pos (keywordEach kws X.env)).any (·.1.isNone)) = false := by rfl) :
    RE X tb W (.Call (.Name x p) [] kws pos) (sCall g fl) := by
  obtain ⟨⟨f, fd, F1, kb⟩, ar⟩ := F
  exact re_callK0 F1 kb hr hgu tk ar hg ha hall hks hdb hpl
/-- held in the table -/
theorem ft_of {n : Nat} (F : FoX P w K mg gb tb k x ps g) (hm : mg x = some (.ref (tb.fnA n))) : Ft P w K mg gb tb k n g := by
  obtain ⟨⟨f, fd, F1, kb⟩, ar⟩ := F
  have e := F1.mg
  rw [hm] at e
  cases e
  exact ⟨ps, fd, F1.ok, F1.kp, F1.bd, ar⟩
theorem Ft.up {n : Nat} (F : Ft P w K mg gb tb j n g) (h : j ≤ k) : Ft P w K mg gb tb k n g := by
  obtain ⟨ps, fd, F1, F2⟩ := F.ex
  exact ⟨ps, fd, F1.up h, F2⟩
end
section
variable {tb : Tb} {W : WX} {X : Cx} {e : Expr} {f : Sem1} {pos p1 p2 p3 : Pos} {x : Str} {i : Nat}
theorem rs_app2 (hi : PE X (.Name x p1) (tVar i)) (he : RE X tb W e f) (hs : swapsWith (.Call (.Attribute (.Name x p1) "append" p2) [e] [] p3) none pos.line X.env = pure false := by rfl)
    (hst : starEach [e] X.env = (false, eval e X.env) :: starEach [] X.env := by rfl) (hbase : attributeBase (.Name x p1) "append" X.env (eval (.Name x p1) X.env) = eval (.Name x p1) X.env := by rfl)
    (hfew : ((backTo p3 (starEach (e :: []) X.env)).all (fun x => !x.1) && (backToKw p3 (keywordEach [] X.env)).all (fun x => x.1.isSome) && decide ((e :: []).length + ([] : List Keyword).length + (if ([] : List Keyword).isEmpty then 0 else 1) < 30)) = true := by rfl)
    (hline : (p2.endLine == p3.line) = true := by rfl) (hpl : (backTo p3 (starEach [] X.env)).any (·.1) = false := by rfl) : RS X tb W (.Expr (.Call (.Attribute (.Name x p1) "append" p2) [e] [] p3) pos) (gApp i f) :=
  rs_app hi he hs hst (pe_bm PySem.F.plainAttrs_list PySem.F.slot_list_append PySem.F.type_list_append mt_append hi (pa_cons he pa_nil hst) hbase hfew hline hst hpl)
end
theorem takesS {X : Cx} {a : Addr} {pn : List (Addr × Obj)} : Takes (X.suite a pn) WN := fun _ _ ⟨_, _, _, _, _, _, _, _, _, _, _, _, _, _, _, _, w⟩ => w.elim
end EvL
end

section
set_option Elab.async false
set_option linter.all false
set_option maxRecDepth 100000
set_option maxHeartbeats 4000000
/-! E23: the head of a law, its promise told where no repr is under way -/
namespace EvL
open PySem PySem.Spec PyProof.Rows L2
theorem head_call {P : Program} {w : World} {K : PySem.W.Frag} {mg mb : Str → Option Value} {k : Nat} {fa a : Addr} {tb : Tb} {nm x : Str} {g : Fs} {s₁ : Shared} {vs : List Value} {ns : List Int}
    (KX : K.In s₁.heap) (hns : s₁.heap.Ns mainGlobals mg) (hb : s₁.heap.Ns builtinsNs mb) (hbb : ∀ x : Str, x ≠ "__name__" → mb x = bootBuiltins x) (hlim : s₁.heap.NoLimit) (hg : s₁.gens = #[])
    (ha : s₁.heap.get? a = some { cls := .type "list", data := .seq vs.toArray }) (hi : IntsAre vs ns) (hl : ns.length ≤ sizeLine) (hr : Room k callerA)
    (F : ∀ gb : Heap, K.In gb → gb.Ns mainGlobals mg → FoX P w K mg gb tb k nm [x] g) (hfa : mg nm = some (.ref fa))
    (hsp : ∀ H : Hp, SqL K H a (ns.map V.int) → spE K tb 1 g [.ref a] H (fun v _ => v = .bl true) fun _ _ _ => False) :
    codeAny (model P w) callerA (.call (.ref fa) ⟨[.ref a], []⟩) (fun r s' => r = .ok (.ret (.bool true)) ∧ OldK s₁.heap s'.heap ∧ s'.os = s₁.os ∧ AllBare s'.gens) s₁ := by
  have rv := vals_ints hi
  have lenV := hi.length
  have main : ∀ H : Hp, Only H → SqL K H a (ns.map V.int) → HOk P w H s₁.heap → (∀ b, H b ≠ none → b = a) → (H a ≠ none → K.lookup a = none) →
      codeAny (model P w) callerA (.call (.ref fa) ⟨[.ref a], []⟩) (fun r s' => r = .ok (.ret (.bool true)) ∧ OldK s₁.heap s'.heap ∧ s'.os = s₁.os ∧ AllBare s'.gens) s₁ := by
    intro H only seq ok one out
    have keep : ∀ {b : Addr} {o : Obj}, s₁.heap.get? b = some o → H b = none → (hidT s₁.heap H).get? b = some o := fun e n => hidT_get e n
    have notD : ∀ {b : Addr} {o : Obj} {es : Array DictEntry} {ep : Nat}, s₁.heap.get? b = some o → o.data = .dict es ep → H b = none := fun {b o es ep} e d => by
      cases q : H b with
      | none => rfl
      | some u =>
        obtain rfl : b = a := one b (by rw [q]; simp)
        rw [ha] at e; cases e
        have d2 : Data.seq vs.toArray _ = Data.dict es ep := d
        cases d2
    have kNs : ∀ {b : Addr} {m : Str → Option Value}, s₁.heap.Ns b m → (hidT s₁.heap H).Ns b m := fun {b m} ⟨o, es, ep, e, d, r⟩ => ⟨o, es, ep, keep e (notD e d), d, r⟩
    have kIn : K.In (hidT s₁.heap H) := fun b o e => keep (KX b o e) (by
      cases q : H b with
      | none => rfl
      | some u =>
        obtain rfl : b = a := one b (by rw [q]; simp)
        rw [out (by rw [q]; simp)] at e; cases e)
    have hM : Mod K mg (hidT s₁.heap H) := ⟨kIn, kNs hns, ⟨mb, kNs hb, hbb⟩, let ⟨mc, h1, h2⟩ := hlim; ⟨mc, kNs h1, h2⟩⟩
    have e0 : Env0 P w K mg (hidT s₁.heap H) callerA [] s₁ H := ⟨rfl, hM, fun b o e => of_hidT e, Nat.le_of_eq (hidT_size _ _), trivial, fun b hb => absurd (show b ∈ ([] : List Addr) from hb) (by simp), ok, .of_eq hg⟩
    obtain ⟨⟨f, fd, Fo, _⟩, _⟩ := F _ kIn (kNs hns)
    have ef := Fo.mg
    rw [hfa] at ef
    cases ef
    refine codeAny_mono (Fo.ok.go callerA [] s₁ H ⟨[.ref a], []⟩ [.ref a] [.ref a] _ _ hr rfl e0 (Fo.bd s₁ [.ref a] KX rfl) (.cons rfl .nil) (hsp H seq)) fun r s' h => ?_
    cases r with
    | error e =>
      obtain ⟨_, _, _, _, _, _, _, _, _, _, _, _, z⟩ := (show L2.CX P w [] H s₁ (fun _ _ _ => False) e s' from h)
      exact z.elim
    | ok fl =>
      cases fl with
      | ret u =>
        obtain ⟨v, H', os, bare, un, ok2, r2, q⟩ := h
        have q2 : v = .bl true := q
        subst q2
        obtain rfl : u = Value.bool true := r2
        refine ⟨rfl, OldK.of_keep fun b o e => ?_, os, bare⟩
        cases q : H b with
        | none => exact un.keep b o e q (by intro z; exact absurd (show b ∈ ([] : List Addr) from z) (by simp)) (by simp)
        | some u =>
          rcases only b with z | ⟨ob, xs, z⟩
          · rw [q] at z; cases z
          · obtain ⟨e1, _⟩ := ok b _ z
            obtain ⟨e2, _⟩ := ok2 b _ (un.frzs b ob _ z)
            rw [e] at e1; cases e1
            exact e2
      | _ => exact False.elim h
  cases hk : K.lookup a with
  | some o =>
    have e := KX a o hk
    rw [ha] at e
    cases e
    refine main (fun _ => none) (fun _ => .inl rfl) (.inr ⟨_, vs.toArray, _, hk, rfl, rfl, rfl, by rw [List.size_toArray, lenV]; exact hl, by simpa using rv⟩) (fun b u z => by have z2 : (none : Option HO) = some u := z; cases z2) (fun b z => absurd rfl z) fun z => absurd rfl z
  | none =>
    refine main (fun b => if b = a then some (.frz { cls := .type "list", data := .seq vs.toArray } (.lst (ns.map V.int))) else none) (fun b => ?_) (.inl (.inr ⟨{ cls := .type "list", data := .seq vs.toArray }, if_pos rfl⟩)) (fun b u z => ?_) (fun b z => ?_) fun _ => hk
    · by_cases h : b = a
      · exact .inr ⟨_, _, if_pos h⟩
      · exact .inl (if_neg h)
    · by_cases h : b = a
      · have z2 := (if_pos h).symm.trans z
        cases z2
        subst h
        exact ⟨ha, by rw [List.length_map]; exact hl, vs, _, rv, ha⟩
      · have z2 := (if_neg h).symm.trans z
        cases z2
    · by_cases h : b = a
      · exact h
      · exact absurd (if_neg h) z
/-- what k_head leaves, from what the law's def computes -/
theorem walkG {l : PySem.W.OpenLaw} {n k : Nat} {q : Program} {loose : List Str} {XP : (Str → Option Value) → Heap → Prop} {YP : World → Heap → Prop} {d : DefRec} {K : Params → PySem.W.Frag} {x : Str} {g : Fs}
    (hn : l.most = some n) (hn2 : n ≤ sizeLine) (hdf : d.params.defaults = []) (hr : Room k callerA) (hY : ∀ (w : World) (h : Heap), YP w h → (K w.params).In h)
    (F : ∀ (w : World) (mg : Str → Option Value) (h : Heap), (K w.params).In h → h.Ns mainGlobals mg → ∃ tb : Tb, ∀ gb : Heap, FoX l.prog w (K w.params) mg gb tb k d.name [x] g)
    (hg : ∀ ns : List Int, ns.length ≤ n → ∃ m, g [.d (.scr ns)] [] = .ok (.d (.bl true)) m) : PySem.W.WalkO q loose XP YP l.row.toRowW d [] (fun f vs => PySem.call f vs) := by
  refine Att.attach_call hn hdf fun w s₀ s₁ mg mb fa o pm cd doc a vs ns G Y ho hd hcd hmg hobj hints hlen hgn => ?_
  have KX := hY w _ Y
  obtain ⟨tb, hF⟩ := F w mg _ KX G.T.g
  refine head_call KX G.T.g G.T.b G.T.builtins G.T.nolimit hgn hobj hints (Nat.le_trans hlen hn2) hr (fun gb _ _ => hF gb) hmg fun H hS => ⟨rfl, ?_⟩
  obtain ⟨m, e⟩ := hg ns hlen
  refine ⟨H, [], [.d (.scr ns)], [], .cons (.d (.scr hS)) .nil, ⟨.refl H, rfl, List.nodup_nil, fun i a xs h => by simp at h, fun i a xs h => by simp at h, fun a h => by simp at h⟩, ?_⟩
  rw [e]
  intro F' ρ' H' v _ _ r
  cases r with
  | d r => cases r; rfl
def mkTb (as cs : List Addr) : Tb := ⟨fun n => as.getD n 0, fun n => cs.getD n 0⟩
/-! facts of the written part -/
section
variable {P : Program} {K : PySem.W.Frag} {h : Heap} {mg : Str → Option Value} {tb : Tb} {x f pref q : Str} {C fI fa cda cc : Addr} {ci : Nat} {st : Stmt} {ps : List Str}
theorem dt_mk {oc kV doc pm cdv ct : Value} {od an : Option Addr} {osl : Array (Option Value)} (X : K.In h) (G : h.Ns mainGlobals mg) (a : PySem.W.nsIn K mainGlobals x = some (some (.ref fa)))
    (l : K.lookup fa = some ⟨oc, od, .func (PySem.W.fnOf x x (defArgs st) (defBody st) (defScope st) .none kV doc pm an cdv ct), osl⟩) (c : PySem.W.codeIn K cdv x = true) (k : PySem.W.keepIn K (.ref fa) = true)
    (hb : ∀ (kV doc pm : Value) (an : Option Addr) (cdv ct : Value) (us : List Value), us.length = ps.length → bindArgs (PySem.W.fnOf x x (defArgs st) (defBody st) (defScope st) .none kV doc pm an cdv ct) ⟨us, []⟩ = pure (ps.zip us))
    (hk : ∀ (kV doc pm : Value) (an : Option Addr) (cdv ct : Value) (us : List Value), us.length = ps.length → bindArgs (PySem.W.fnOf x x (defArgs st) (defBody st) (defScope st) .none kV doc pm an cdv ct) ⟨[], ps.zip us⟩ = pure (ps.zip us)) : Dt K mg x st ps := by
  have F := fun_mk (st := st) l c k
  refine ⟨fa, _, F, F.binds hb, fun s us ws _ hn hl => ?_, PySem.W.mg_of X G a⟩
  obtain rfl : us = [] := List.eq_nil_of_length_eq_zero hn
  rw [List.nil_append] at hl ⊢
  exact .of_eq (hk _ _ _ _ _ _ ws hl)
/-- an error class at C, wherever the table holds it -/
def Er1C (P : Program) (K : PySem.W.Frag) (mg : Str → Option Value) (C : Addr) (x f pref : Str) : Prop := ∀ (tb : Tb) (ci : Nat), tb.clA ci = C → Er1 P K mg tb ci x f pref
def Er0C (K : PySem.W.Frag) (mg : Str → Option Value) (C : Addr) (x : Str) : Prop := ∀ (tb : Tb) (ci : Nat), tb.clA ci = C → Er0 K mg tb ci x
theorem er1_mk {nm q2 : Str} {N : Addr} {bs bm : List Value} {sn : List Str} {sub : List Value} {ab : Bool} {col : Option Bool} {dd : Option Addr} {m0 m1 m2 m3 m5 : Option Value} {oc kV doc pm ct : Value} {od an : Option Addr} {osl : Array (Option Value)} {j : Nat} {p1 p2 q1 q2' q3 q4 q5 q6 q7 q8 q9 q10 q11 q12 q13 : Pos}
    {ccl cl : Value} {cdd cld : Option Addr} {vs : Array Value} {ccs csl : Array (Option Value)} {file : Str} {tf : Tok} (X : K.In h) (G : h.Ns mainGlobals mg)
    (aC : PySem.W.nsIn K mainGlobals x = some (some (.ref C))) (xL : K.lookup C = some (excClassObj nm q2 C N bs bm true sn sub ab col dd m0 m1 m2 m3 m5 "ValueError.__new__"))
    (sa : PySem.W.findIn K (.ref C) "__setattr__" = some (some (.builtin "object.__setattr__"))) (noN : PySem.W.findIn K (.ref C) f = some none) (iC : PySem.W.findIn K (.ref C) "__init__" = some (some (.ref fI)))
    (tC : PySem.W.typeIn K (.ref fI) = some (.type "function")) (kC : PySem.W.keepIn K (.ref C) = true) (exC : PySem.W.subIn K (.ref C) (.type "BaseException") = some true) (veC : PySem.W.subIn K (.ref C) (.type "ValueError") = some true) (tyC : PySem.W.typeIn K (.ref C) = some (.type "type"))
    (op : PySem.W.nsIn K cStatics "thirdparty.any" = some none) (lI : K.lookup fI = some ⟨oc, od, .func (PySem.W.fnX "__init__" q (PySem.EvX.eArgs f p1 p2) (PySem.EvX.eBody pref f j q1 q2' q3 q4 q5 q6 q7 q8 q9 q10 q11 q12 q13) (PySem.EvX.eScope f) [("__class__", cc)] .none kV doc pm an (.ref cda) ct), osl⟩)
    (cI : PySem.W.codeIn K (.ref cda) q = true) (lc : K.lookup cda = some ⟨ccl, cdd, .fields vs, ccs⟩) (hv : vs[2]? = some (.str file tf)) (lcell : K.lookup cc = some ⟨cl, cld, .cell (some (.ref C)), csl⟩) (sp : PySem.W.nsIn K mainGlobals "super" = some none)
    (ga : PySem.W.findIn K (.ref C) "__getattribute__" = some (some (.builtin "BaseException.__getattribute__"))) (gg : PySem.W.findIn K (.ref C) "__getattr__" = some none) (hdC : PySem.W.hasDictIn K C = true)
    (hbm : PySem.HandSPX.refsVE bm = true) (su : PySem.W.alongIn K "__init__" bm = some (some (.builtin "ValueError.__init__"))) (hfile : ((P.main.file : Str) == file) = true) (hln : (q3.endLine == q8.line) = true)
    (hbn : ∀ a b : Value, bindArgs (PySem.W.fnX "__init__" q (PySem.EvX.eArgs f p1 p2) (PySem.EvX.eBody pref f j q1 q2' q3 q4 q5 q6 q7 q8 q9 q10 q11 q12 q13) (PySem.EvX.eScope f) [("__class__", cc)] .none kV doc pm an (.ref cda) ct) ⟨[a, b], []⟩ = (pure [(("self" : Str), a), (f, b)] : Sem (List (Str × Value))))
    (top : (P.main.scope.names.lookup ("super" : Str)).isSome = false) (okf : PySem.EvX.okF f = true) (hp : pref.length ≤ 1000) : Er1C P K mg C x f pref := by
  intro tb ci ht
  subst ht
  have hcl : PySem.W.clsIn K (tb.clA ci) = some { name := nm, bases := bs, mro := .ref (tb.clA ci) :: bm, ns := N, qualname := q2, hasDict := true, slotNames := sn, subclasses := sub, abstract := ab, collection := col, hasDel := false } := by unfold PySem.W.clsIn; rw [xL] <;> rfl
  refine ⟨⟨fI, { gC := PySem.W.mg_of X G aC, cls := ⟨nm, q2, N, bs, bm, sn, sub, ab, col, dd, m0, m1, m2, m3, m5, xL, hbm⟩, sa := sa, noN := noN, iC := iC, tC := tC, kC := kC, exC := exC, veC := veC, tyC := tyC, su := ?_, op := op, mr := ?_, fn := ⟨oc, od, q, doc, pm, kV, an, ct, osl, cda, cc, j, p1, p2, q1, q2', q3, q4, q5, q6, q7, q8, q9, q10, q11, q12, q13, lI, hln, hbn, cI, ⟨ccl, cdd, vs, ccs, file, tf, lc, hv, hfile⟩, ⟨cl, cld, csl, lcell⟩⟩, sp := PySem.W.mg_none_of X G sp, top := top, okf := okf, hp := hp }⟩, ⟨ga, gg, exC, hdC⟩⟩
  · unfold PySem.W.ks_superIn
    rw [hcl]
    show PySem.W.alongIn K "__init__" (((Value.ref (tb.clA ci) :: bm).dropWhile (· != .ref (tb.clA ci))).drop 1) = _
    have : ((Value.ref (tb.clA ci) :: bm).dropWhile (· != .ref (tb.clA ci))) = Value.ref (tb.clA ci) :: bm := by simp [List.dropWhile_cons]
    rw [this]
    exact su
  · unfold PySem.W.mroIn
    rw [hcl]
    simp
theorem conT_mk {A : Addr} {ns : List Int} {o : Obj} {its : Array Value} {n : Nat} (X : K.In h) (G : h.Ns mainGlobals mg) (a : PySem.W.nsIn K mainGlobals x = some (some (.ref A))) (l : K.lookup A = some o) (hc : o.cls = .type "tuple") (hd : o.data = .seq its n) (hz : its.size ≤ sizeLine) (hv : Vals (ns.map V.int) its.toList) : ConT K mg x ns :=
  ⟨A, o, its, n, PySem.W.mg_of X G a, l, hc, hd, hz, hv⟩
theorem er0_mk (X : K.In h) (G : h.Ns mainGlobals mg) (aC : PySem.W.nsIn K mainGlobals x = some (some (.ref C))) (q : PySem.W.excIn K C [.type "ValueError", .type "Exception", .type "BaseException", .type "object"] "ValueError.__new__" = true) (kC : PySem.W.keepIn K (.ref C) = true)
    (exC : PySem.W.subIn K (.ref C) (.type "BaseException") = some true) (tyC : PySem.W.typeIn K (.ref C) = some (.type "type")) : Er0C K mg C x := by
  intro tb ci ht
  subst ht
  exact ⟨⟨_, _, _, _, F.excBase_ValueError, q⟩, PySem.W.mg_of X G aC, kC, exC, tyC⟩
end
end EvL
end

section
set_option Elab.async false
set_option linter.all false
set_option maxRecDepth 100000
set_option maxHeartbeats 2000000
/-! H0: what the laws' helpers compute: begun, draw, of, like -/
namespace EvH
open PySem PySem.Spec PyProof.Rows L2 EvL
def g__law_begun : SemS := (gSeq (gSet 2 (sBin oAddP (sSlP (sVar 0) (oYes (sVar 1)) oNo) (sSlP (sVar 0) oNo (oYes (sVar 1))))) (gSeq (gNew 3 (fComp (iSeq (sVar 0)) (tgN 5) (sT (sBin oGe (sVar 5) (sBin oPow (sC (.int 10)) (sC (.int 18))))) (sVar 5) [5])) (gSeq (gSet 4 (sBin oAddP (sC (.int 91)) (sVar 1))) (gSeq (gFor (iSeq (sVar 2)) (tgN 5) (gSet 4 (sBin oMod (sUn oInt (sBin oAddP (sBin oMulP (sVar 4) (sC (.int 48271))) (sVar 5))) (sC (.int 2147483647))))) (gRet (sDisp ["left", "seed", "cells", "spot"] (lCons (sIf (sT (sBin oLt (sVar 1) (sUn oLen (sVar 3)))) (sBin oIx (sVar 3) (sVar 1)) (sC (.int 0))) (lCons (sVar 4) (lCons (sBin oAddP (sVar 2) (sF (fLst (lCons (sBin oAddP (sBin oMulP (sC (.int 61)) (sVar 1)) (sC (.int 17))) lNil)))) (lCons (sC (.int 0)) lNil))))))))))
def f__law_begun : Fs := fnS 6 2 g__law_begun
def g__law_draw : SemS := (gSeq (gIf (sT (sBin oGt (sUn (oDGet "left") (sVar 0)) (sC (.int 0)))) (gSeq (gSet 2 (sBin oMod (sUn oInt (sUn (oDGet "left") (sVar 0))) (sVar 1))) (gSeq (gPutD 0 "left" (sBin oDiv (sUn (oDGet "left") (sVar 0)) (sVar 1))) (gRet (sVar 2)))) gNext) (gSeq (gSet 3 (sUn (oDGet "spot") (sVar 0))) (gSeq (gPutD 0 "spot" (sBin oAddP (sVar 3) (sC (.int 1)))) (gSeq (gPar 4 5 (lCons (sUn (oDGet "cells") (sVar 0)) (lCons (sBin oAddP (sUn (oDGet "seed") (sVar 0)) (sBin oMulP (sBin oMulP (sC (.int 40503)) (sVar 3)) (sVar 3))) lNil))) (gSeq (gSet 6 (sBin oIx (sVar 4) (sBin oMod (sUn oInt (sVar 3)) (sUn oLen (sVar 4))))) (gSeq (gSet 7 (sBin oMod (sUn oInt (sBin oAddP (sBin oMulP (sVar 6) (sBin oAddP (sBin oMulP (sC (.int 2)) (sVar 3)) (sC (.int 3)))) (sVar 5))) (sC (.int 2147483647)))) (gSeq (gSet 7 (sBin oMod (sUn oInt (sBin oAddP (sBin oAddP (sBin oMulP (sVar 7) (sVar 7)) (sBin oMulP (sC (.int 69621)) (sVar 3))) (sUn (oDGet "seed") (sVar 0)))) (sC (.int 2147483629)))) (gRet (sBin oMod (sBin oDiv (sBin oMod (sUn oInt (sBin oAddP (sBin oMulP (sVar 7) (sC (.int 48271))) (sVar 3))) (sC (.int 2147483647))) (sC (.int 11))) (sVar 1))))))))))
def f__law_draw : Fs := fnS 8 2 g__law_draw
def g__law_of : SemS := (gRet (sBin oIx (sVar 1) (sCall f__law_draw (lCons (sVar 0) (lCons (sUn oLen (sVar 1)) lNil)))))
def f__law_of : Fs := fnS 2 2 g__law_of
def g__law_like : SemS := (gRet (sAnd (sBin oEq (sVar 0) (sVar 1)) (sBin oEqS (sUn oRepr (sVar 0)) (sUn oRepr (sVar 1)))))
def f__law_like : Fs := fnS 2 2 g__law_like
/-- the state of draws -/
def dk (L S : Int) (C : List Int) (p : Int) : List (Key × Dv) := [(.inr "left", .int L), (.inr "seed", .int S), (.inr "cells", .lst (C.map .int)), (.inr "spot", .int p)]
section
variable (L S : Int) (C : List Int) (p x : Int)
theorem g_left : kGet (dk L S C p) (.inr "left") = some (.int L) := rfl
theorem g_seed : kGet (dk L S C p) (.inr "seed") = some (.int S) := rfl
theorem g_cells : kGet (dk L S C p) (.inr "cells") = some (.lst (C.map .int)) := rfl
theorem g_spot : kGet (dk L S C p) (.inr "spot") = some (.int p) := rfl
theorem p_left : kPut (dk L S C p) (.inr "left") (.int x) = dk x S C p := rfl
theorem p_spot : kPut (dk L S C p) (.inr "spot") (.int x) = dk L S C x := rfl
end
theorem rv_d (m : Store) (d : Dv) : rv m (.d d) = some d := rfl
theorem rv_dic {m : Store} {j : Nat} {kvs : List (Key × Dv)} (h : m[j]? = some (.dic kvs)) : rv m (.o j) = some (.dic kvs) := by simp [rv, h]
theorem rv_lst {m : Store} {j : Nat} {xs : List Dv} (h : m[j]? = some (.lst xs)) : rv m (.o j) = some (.lst xs) := by simp [rv, h]
theorem frz_d (m : Store) (d : Dv) : frz m (.d d) = some (d, m) := rfl
theorem t_gt0 {L : Int} (h : 0 < L) : iop (fun i j => Dv.bl (decide (j < i))) (.int L) (.int 0) = some (.bl true) := by simp [iop, h]
theorem take_set (m : Store) (j : Nat) (x : So) : (m.set j x).take m.length = m.set j x := List.take_of_length_le (by simp)
theorem take_self (m : Store) : m.take m.length = m := List.take_of_length_le (Nat.le_refl _)
theorem get_set {m : Store} {j : Nat} {x y : So} (h : m[j]? = some y) : (m.set j x)[j]? = some x := List.getElem?_set_self (List.getElem?_eq_some_iff.mp h).1
theorem rv_set {m : Store} {j : Nat} {kvs : List (Key × Dv)} {y : So} (h : m[j]? = some y) : rv (m.set j (.dic kvs)) (.o j) = some (.dic kvs) := rv_dic (get_set h)
theorem fm {a b : Int} (h : 0 < b) : a.fmod b = a % b := Int.fmod_eq_emod_of_nonneg a (Int.le_of_lt h)
theorem fd {a b : Int} (h : 0 < b) : a.fdiv b = a / b := Int.fdiv_eq_ediv_of_nonneg a (Int.le_of_lt h)
theorem oIx_l {xs : List Dv} {k : Int} {d : Dv} (h0 : 0 ≤ k) (h : xs[k.toNat]? = some d) : oIx (.lst xs) (.int k) = some d := by
  have hl := (List.getElem?_eq_some_iff.mp h).1
  have e : ixN xs.length k = some k.toNat := by
    unfold ixN
    rw [if_pos h0, if_pos (by omega)]
  show atI xs k = _
  unfold atI
  rw [e]
  exact h
theorem draw_left {m : Store} {j : Nat} {L S p span : Int} {C : List Int} (hm : m[j]? = some (.dic (dk L S C p))) (hL : 0 < L) (hs : 1 ≤ span) (hs2 : span < 1073741824) :
    f__law_draw [.o j, .d (.int span)] m = .ok (.d (.int (L % span))) (m.set j (.dic (dk (L / span) S C p))) := by
  have hd : divOk L span = true := by simp [divOk]; omega
  have hmo : modOk L span = true := by simp [modOk]; omega
  have hf : fits ((dk L S C p).length + 1) = true := rfl
  simp [fnS, start0, gSeq, gIf, gSet, gRet, gPutD, gPar, gNext, gExpr, gAsg, gNew, sVar, sC, sBin, sUn, sT, sIf, sTup, sCall, lCons, lNil, truth, Rs.bind, Rs.st, rv_d, frz_d, fnEnd, oDGet, iop, iopC, oInt, oMulP_i, oAddP_i, f__law_draw, g__law_draw, rv_dic hm, hm, g_left, hL, hd, hmo, hf, p_left, take_set, fm (a := L) (show 0 < span by omega), fd (a := L) (show 0 < span by omega)]
theorem draw_cells {m : Store} {j : Nat} {L S p span : Int} {C : List Int} (hm : m[j]? = some (.dic (dk L S C p))) (hL : L ≤ 0) (hs : 1 ≤ span) (hs2 : span < 1073741824) (hp : 0 ≤ p) (hp2 : p < 1000000) (hC : C ≠ []) (hC2 : C.length ≤ 1000) :
    ∃ r, 0 ≤ r ∧ r < span ∧ f__law_draw [.o j, .d (.int span)] m = .ok (.d (.int r)) (m.set j (.dic (dk L S C (p + 1)))) := by
  have hf : fits ((dk L S C p).length + 1) = true := rfl
  have hL' : ¬ 0 < L := by omega
  have hn : 0 < C.length := List.length_pos_iff.mpr hC
  have hlen : oLen (.lst (C.map .int)) = some (.int C.length) := by simp [oLen]
  have k1 : mulOk 40503 p = true := by simp [mulOk]
  have k2 : mulOk (40503 * p) p = true := by simp [mulOk]; omega
  have k3 : ∀ q, modOk q (C.length : Int) = true := fun q => by simp [modOk]; omega
  have k4 : mulOk 2 p = true := by simp [mulOk]
  have k5 : ∀ c, mulOk c (2 * p + 3) = true := fun c => by simp [mulOk]; omega
  have k6 : ∀ q, modOk q 2147483647 = true := fun q => by simp [modOk]
  have k7 : ∀ q, modOk q 2147483629 = true := fun q => by simp [modOk]
  have k8 : ∀ q : Int, mulOk (q % 2147483647) (q % 2147483647) = true := fun q => by simp [mulOk]; omega
  have k9 : mulOk 69621 p = true := by simp [mulOk]
  have k10 : ∀ q : Int, mulOk q 48271 = true := fun q => by simp [mulOk]
  have k11 : ∀ q : Int, divOk q 11 = true := fun q => by simp [divOk]
  have k12 : ∀ q : Int, modOk q span = true := fun q => by simp [modOk]; omega
  have hix : ∃ c : Int, oIx (.lst (C.map .int)) (.int (p % C.length)) = some (.int c) := by
    have h1 : 0 ≤ p % (C.length : Int) := Int.emod_nonneg _ (by omega)
    have h2 : p % (C.length : Int) < C.length := Int.emod_lt_of_pos _ (by omega)
    have h3 : (p % (C.length : Int)).toNat < C.length := by omega
    exact ⟨C[(p % (C.length : Int)).toNat], oIx_l h1 (by simp [h3])⟩
  obtain ⟨c, hc⟩ := hix
  obtain ⟨q, hq⟩ : ∃ q : Int, f__law_draw [.o j, .d (.int span)] m = .ok (.d (.int (q % span))) (m.set j (.dic (dk L S C (p + 1)))) := by
    simp [fnS, start0, gSeq, gIf, gSet, gRet, gPutD, gPar, gNext, gExpr, gAsg, gNew, sVar, sC, sBin, sUn, sT, sIf, sTup, sCall, lCons, lNil, truth, Rs.bind, Rs.st, rv_d, frz_d, fnEnd, oDGet, iop, iopC, oInt, oMulP_i, oAddP_i, f__law_draw, g__law_draw, rv_dic hm, hm, g_left, g_spot, g_seed, g_cells, hL', hf, p_spot, rv_set hm, k1, k2, k3, k4, k5, k6, k7, k8, k9, k10, k11, k12, hlen, hc, fm (a := p) (show (0 : Int) < C.length by omega), fun a : Int => fm (a := a) (b := 2147483647) (by decide), fun a : Int => fm (a := a) (b := 2147483629) (by decide), fun a : Int => fd (a := a) (b := 11) (by decide), fun a : Int => fm (a := a) (b := span) (by omega), take_set]
    exact ⟨_, rfl⟩
  exact ⟨q % span, Int.emod_nonneg _ (by omega), Int.emod_lt_of_pos _ (by omega), hq⟩
end EvH
end

section
set_option Elab.async false
set_option linter.all false
set_option maxRecDepth 100000
set_option maxHeartbeats 2000000
/-! H2: loops, comprehensions, draws by what holds of them -/
namespace EvH
open PySem PySem.Spec PyProof.Rows L2 EvL
theorem loop_inv {G : Tgt} {body : SemS} {xs : List Dv} (I : Nat → En → Store → Prop) (R : Sv → Store → Prop)
    (hs : ∀ i d en m, xs[i]? = some d → I i en m → ∃ en1, G (.d d) en m = some en1 ∧ ((∃ e2 m2, (body en1 m = .nx e2 m2 ∨ body en1 m = .ct e2 m2) ∧ I (i + 1) e2 m2) ∨ ∃ v m2, body en1 m = .rt v m2 ∧ R v m2)) :
    ∀ {en m}, I 0 en m → (∃ en' m', loop G body xs en m = .nx en' m' ∧ I xs.length en' m') ∨ ∃ v m2, loop G body xs en m = .rt v m2 ∧ R v m2 := by
  have main : ∀ (n i : Nat) en m, i + n = xs.length → I i en m → (∃ en' m', loop G body (xs.drop i) en m = .nx en' m' ∧ I xs.length en' m') ∨ ∃ v m2, loop G body (xs.drop i) en m = .rt v m2 ∧ R v m2 := by
    intro n
    induction n with
    | zero =>
      intro i en m hi h
      have : i = xs.length := by omega
      subst this
      rw [List.drop_length]
      exact .inl ⟨en, m, rfl, h⟩
    | succ n ih =>
      intro i en m hi h
      have hlt : i < xs.length := by omega
      rw [List.drop_eq_getElem_cons hlt]
      obtain ⟨en1, e1, q⟩ := hs i xs[i] en m (List.getElem?_eq_getElem hlt) h
      rcases q with ⟨e2, m2, q | q, h2⟩ | ⟨v, m2, q, r⟩
      · have := ih (i + 1) e2 m2 (by omega) h2
        unfold loop
        rw [e1]
        dsimp only
        rw [q]
        exact this
      · have := ih (i + 1) e2 m2 (by omega) h2
        unfold loop
        rw [e1]
        dsimp only
        rw [q]
        exact this
      · right
        refine ⟨v, m2, ?_, r⟩
        unfold loop
        rw [e1]
        dsimp only
        rw [q]
  intro en m h
  have := main xs.length 0 en m (by omega) h
  rwa [List.drop_zero] at this
/-- a loop that only goes on -/
theorem loop_nx {G : Tgt} {body : SemS} {xs : List Dv} (I : Nat → En → Store → Prop)
    (hs : ∀ i d en m, xs[i]? = some d → I i en m → ∃ en1, G (.d d) en m = some en1 ∧ ∃ e2 m2, (body en1 m = .nx e2 m2 ∨ body en1 m = .ct e2 m2) ∧ I (i + 1) e2 m2) {en : En} {m : Store} (h0 : I 0 en m) : ∃ en' m', loop G body xs en m = .nx en' m' ∧ I xs.length en' m' := by
  rcases loop_inv (body := body) I (fun _ _ => False) (fun i d en m hx h => by obtain ⟨e1, a, b⟩ := hs i d en m hx h; exact ⟨e1, a, .inl b⟩) h0 with h | ⟨_, _, _, h⟩
  · exact h
  · exact h.elim
theorem comp_inv {fi : SemF} {G : Tgt} {t : SemB} {f : Sem1} {vs : List Nat} {en : En} {m m1 : Store} {xs : List Dv} (hfi : fi en m = .ok xs m1) (hx : xs.length ≤ 16777216) (I : Nat → List Dv → Store → Prop) (h0 : I 0 [] (m1 ++ [.lst []]))
    (hs : ∀ i d acc S, xs[i]? = some d → S.length = m1.length + 1 → S[m1.length]? = some (.lst acc) → I i acc S → ∃ en', G (.d d) (wipeE en vs) S = some en' ∧
      ((∃ S1, t en' S = .ok false S1 ∧ S1.length = m1.length + 1 ∧ S1[m1.length]? = some (.lst acc) ∧ I (i + 1) acc S1) ∨
        ∃ S1 z S2, t en' S = .ok true S1 ∧ f en' S1 = .ok (.d z) S2 ∧ S2.length = m1.length + 1 ∧ S2[m1.length]? = some (.lst acc) ∧ I (i + 1) (acc ++ [z]) (S2.set m1.length (.lst (acc ++ [z]))))) :
    ∃ acc S, fComp fi G t f vs en m = .ok acc (S.take m1.length) ∧ S.length = m1.length + 1 ∧ acc.length ≤ xs.length ∧ I xs.length acc S := by
  have main : ∀ (n i : Nat) acc S, i + n = xs.length → acc.length ≤ i → S.length = m1.length + 1 → S[m1.length]? = some (.lst acc) → I i acc S →
      ∃ acc' S', lcLoop m1.length G t f (wipeE en vs) (xs.drop i) S = .ok acc' (S'.take m1.length) ∧ S'.length = m1.length + 1 ∧ acc'.length ≤ xs.length ∧ I xs.length acc' S' := by
    intro n
    induction n with
    | zero =>
      intro i acc S hi ha hl hg h
      have : i = xs.length := by omega
      subst this
      rw [List.drop_length]
      exact ⟨acc, S, by unfold lcLoop; rw [if_pos hl, hg], hl, ha, h⟩
    | succ n ih =>
      intro i acc S hi ha hl hg h
      have hlt : i < xs.length := by omega
      rw [List.drop_eq_getElem_cons hlt]
      obtain ⟨en', e1, q⟩ := hs i xs[i] acc S (List.getElem?_eq_getElem hlt) hl hg h
      unfold lcLoop
      rw [e1]
      dsimp only
      rcases q with ⟨S1, q1, q2, q3, q4⟩ | ⟨S1, z, S2, q1, q2, q3, q4, q5⟩
      · rw [q1]
        exact ih (i + 1) acc S1 (by omega) (by omega) q2 q3 q4
      · rw [q1]
        dsimp only
        rw [q2]
        have hf : fits (acc.length + 1) = true := by unfold fits; rw [decide_eq_true_eq]; omega
        simp only [frz_d, q4, hf, if_true]
        exact ih (i + 1) (acc ++ [z]) _ (by omega) (by simp; omega) (by simp [q3]) (by rw [List.getElem?_set_self (by omega)]) q5
  obtain ⟨acc, S, h1, h2, h3, h4⟩ := main xs.length 0 [] (m1 ++ [.lst []]) (by omega) (Nat.le_refl _) (by simp) (by simp) h0
  rw [List.drop_zero] at h1
  refine ⟨acc, S, ?_, h2, h3, h4⟩
  unfold fComp
  rw [hfi]
  exact h1
/-- a comprehension whose parts leave the store alone -/
theorem comp_pure {fi : SemF} {G : Tgt} {t : SemB} {f : Sem1} {vs : List Nat} {en : En} {m m1 : Store} {xs : List Dv} (b : Dv → Bool) (v : Dv → Dv) (hfi : fi en m = .ok xs m1) (hx : xs.length ≤ 16777216)
    (hs : ∀ d acc, d ∈ xs → ∃ en', G (.d d) (wipeE en vs) (m1 ++ [.lst acc]) = some en' ∧ t en' (m1 ++ [.lst acc]) = .ok (b d) (m1 ++ [.lst acc]) ∧ (b d = true → f en' (m1 ++ [.lst acc]) = .ok (.d (v d)) (m1 ++ [.lst acc]))) :
    fComp fi G t f vs en m = .ok ((xs.filter b).map v) m1 := by
  obtain ⟨acc, S, h1, h2, h3, rfl, rfl⟩ := comp_inv (vs := vs) (t := t) (f := f) (G := G) hfi hx (fun i acc S => S = m1 ++ [.lst acc] ∧ acc = ((xs.take i).filter b).map v) ⟨rfl, by simp⟩ (by
    rintro i d acc S hd hl hg ⟨rfl, ha⟩
    obtain ⟨en', e1, e2, e3⟩ := hs d acc (List.mem_of_getElem? hd)
    refine ⟨en', e1, ?_⟩
    have tk : xs.take (i + 1) = xs.take i ++ [d] := by rw [List.take_add_one, hd]; rfl
    cases hb : b d with
    | false =>
      rw [hb] at e2
      exact .inl ⟨_, e2, hl, hg, rfl, by rw [tk, List.filter_append, ha]; simp [hb]⟩
    | true =>
      rw [hb] at e2
      exact .inr ⟨_, v d, _, e2, e3 hb, hl, hg, by simp, by rw [tk, List.filter_append, List.map_append, ← ha]; simp [hb]⟩)
  rw [h1]
  simp
/-! draws -/
structure Dr (m : Store) (j : Nat) (b : Int) : Prop where
  ex : ∃ L S C p, m[j]? = some (.dic (dk L S C p)) ∧ 0 ≤ L ∧ C ≠ [] ∧ C.length ≤ 1000 ∧ 0 ≤ p ∧ p ≤ b
/-- all but the thing at j stays -/
structure Sj (j : Nat) (m m' : Store) : Prop where
  len : m'.length = m.length
  at_ : ∀ i, i ≠ j → m'[i]? = m[i]?
theorem Sj.refl (j : Nat) (m : Store) : Sj j m m := ⟨rfl, fun _ _ => rfl⟩
theorem Sj.trans {j : Nat} {a b c : Store} (h : Sj j a b) (h' : Sj j b c) : Sj j a c := ⟨h'.len.trans h.len, fun i hi => (h'.at_ i hi).trans (h.at_ i hi)⟩
theorem Sj.set (j : Nat) (m : Store) (x : So) : Sj j m (m.set j x) := ⟨by simp, fun i hi => by rw [List.getElem?_set_ne (Ne.symm hi)]⟩
theorem Dr.lt {m : Store} {j : Nat} {b : Int} (h : Dr m j b) : j < m.length := by
  obtain ⟨_, _, _, _, h, _⟩ := h.ex
  exact (List.getElem?_eq_some_iff.mp h).1
theorem Dr.mono {m : Store} {j : Nat} {b c : Int} (h : Dr m j b) (hc : b ≤ c) : Dr m j c := by
  obtain ⟨L, S, C, p, h1, h2, h3, h4, h5, h6⟩ := h.ex
  exact ⟨L, S, C, p, h1, h2, h3, h4, h5, by omega⟩
theorem Dr.of {m m' : Store} {j : Nat} {b : Int} (h : Dr m j b) (e : m'[j]? = m[j]?) : Dr m' j b := by
  obtain ⟨L, S, C, p, h1, h2⟩ := h.ex
  exact ⟨L, S, C, p, by rw [e]; exact h1, h2⟩
theorem draw_ok {m : Store} {j : Nat} {b span : Int} (h : Dr m j b) (hb : b < 1000000) (hs : 1 ≤ span) (hs2 : span < 1073741824) : ∃ r m', f__law_draw [.o j, .d (.int span)] m = .ok (.d (.int r)) m' ∧ 0 ≤ r ∧ r < span ∧ Sj j m m' ∧ Dr m' j (b + 1) := by
  obtain ⟨L, S, C, p, h1, h2, h3, h4, h5, h6⟩ := h.ex
  by_cases hL : 0 < L
  · refine ⟨_, _, draw_left h1 hL hs hs2, Int.emod_nonneg _ (by omega), Int.emod_lt_of_pos _ (by omega), .set _ _ _, ⟨_, _, _, _, get_set h1, Int.ediv_nonneg h2 (by omega), h3, h4, h5, by omega⟩⟩
  · obtain ⟨r, r1, r2, e⟩ := draw_cells h1 (by omega) hs hs2 h5 (by omega) h3 h4
    exact ⟨r, _, e, r1, r2, .set _ _ _, ⟨_, _, _, _, get_set h1, h2, h3, h4, by omega, by omega⟩⟩
theorem oIx_t {xs : List Dv} {k : Int} {d : Dv} (h0 : 0 ≤ k) (h : xs[k.toNat]? = some d) : oIx (.tup xs) (.int k) = some d := by
  have := oIx_l h0 h
  exact this
theorem of_ok {m : Store} {j : Nat} {b : Int} {xs : List Dv} (h : Dr m j b) (hb : b < 1000000) (hx : xs ≠ []) (hx2 : xs.length < 1000000) : ∃ (k : Nat) (x : Dv) (m' : Store), xs[k]? = some x ∧ f__law_of [.o j, .d (.lst xs)] m = .ok (.d x) m' ∧ Sj j m m' ∧ Dr m' j (b + 1) := by
  have hp : 0 < xs.length := List.length_pos_iff.mpr hx
  obtain ⟨r, m', e, r1, r2, s1, d1⟩ := draw_ok (span := xs.length) h hb (by omega) (by omega)
  have hl : oLen (.lst xs) = some (.int xs.length) := by simp [oLen]
  have hk : r.toNat < xs.length := by omega
  refine ⟨r.toNat, xs[r.toNat], m', List.getElem?_eq_getElem hk, ?_, s1, d1⟩
  have hi : oIx (.lst xs) (.int r) = some xs[r.toNat] := oIx_l r1 (List.getElem?_eq_getElem hk)
  have tk : m'.take m.length = m' := by rw [← s1.len]; exact take_self m'
  simp [fnS, start0, gSeq, gIf, gSet, gRet, gPutD, gPar, gNext, gExpr, gAsg, gNew, sVar, sC, sBin, sUn, sT, sIf, sTup, sCall, lCons, lNil, truth, Rs.bind, Rs.st, rv_d, frz_d, fnEnd, oDGet, iop, iopC, oInt, oMulP_i, oAddP_i, f__law_of, g__law_of, hl, e, hi, tk]
theorem of_ok2 {m : Store} {i j : Nat} {b : Int} {xs : List Dv} (h : Dr m j b) (hm : m[i]? = some (.lst xs)) (hb : b < 1000000) (hx : xs ≠ []) (hx2 : xs.length < 1000000) : ∃ (k : Nat) (x : Dv) (m' : Store), xs[k]? = some x ∧ f__law_of [.o j, .o i] m = .ok (.d x) m' ∧ Sj j m m' ∧ Dr m' j (b + 1) := by
  have hp : 0 < xs.length := List.length_pos_iff.mpr hx
  have hij : i ≠ j := fun z => by
    obtain ⟨L, S, C, p, h1, _⟩ := h.ex
    rw [← z, hm] at h1
    cases h1
  obtain ⟨r, m', e, r1, r2, s1, d1⟩ := draw_ok (span := xs.length) h hb (by omega) (by omega)
  have hl : oLen (.lst xs) = some (.int xs.length) := by simp [oLen]
  have hk : r.toNat < xs.length := by omega
  refine ⟨r.toNat, xs[r.toNat], m', List.getElem?_eq_getElem hk, ?_, s1, d1⟩
  have hi : oIx (.lst xs) (.int r) = some xs[r.toNat] := oIx_l r1 (List.getElem?_eq_getElem hk)
  have tk : m'.take m.length = m' := by rw [← s1.len]; exact take_self m'
  have r0 : rv m (.o i) = some (.lst xs) := rv_lst hm
  have r1' : rv m' (.o i) = some (.lst xs) := rv_lst (by rw [s1.at_ i hij]; exact hm)
  simp [fnS, start0, gSeq, gIf, gSet, gRet, gPutD, gPar, gNext, gExpr, gAsg, gNew, sVar, sC, sBin, sUn, sT, sIf, sTup, sCall, lCons, lNil, truth, Rs.bind, Rs.st, rv_d, frz_d, fnEnd, oDGet, iop, iopC, oInt, oMulP_i, oAddP_i, f__law_of, g__law_of, hl, e, hi, tk, r0, r1']
end EvH
end

section
set_option Elab.async false
set_option linter.all false
set_option maxRecDepth 100000
set_option maxHeartbeats 2000000
/-! H3: a def's own things above the caller's store -/
namespace EvH
open PySem PySem.Spec PyProof.Rows L2 EvL
/-- S: the caller's store, the thing at j aside, and more above -/
structure Xt (j : Nat) (m S : Store) : Prop where
  len : m.length ≤ S.length
  at_ : ∀ i, i < m.length → i ≠ j → S[i]? = m[i]?
theorem Xt.refl (j : Nat) (m : Store) : Xt j m m := ⟨Nat.le_refl _, fun _ _ _ => rfl⟩
theorem Xt.sj {j : Nat} {m S S' : Store} (h : Xt j m S) (h' : Sj j S S') : Xt j m S' := ⟨by rw [h'.len]; exact h.len, fun i hi hj => (h'.at_ i hj).trans (h.at_ i hi hj)⟩
theorem Xt.push {j : Nat} {m S : Store} (h : Xt j m S) (x : So) : Xt j m (S ++ [x]) := ⟨by simp; have := h.len; omega, fun i hi hj => by rw [List.getElem?_append_left (by have := h.len; omega)]; exact h.at_ i hi hj⟩
theorem Xt.put {j k : Nat} {m S : Store} (h : Xt j m S) (hk : m.length ≤ k) (x : So) : Xt j m (S.set k x) := ⟨by simp; exact h.len, fun i hi hj => by rw [List.getElem?_set_ne (by omega)]; exact h.at_ i hi hj⟩
theorem Xt.cut {j : Nat} {m S : Store} (h : Xt j m S) : Sj j m (S.take m.length) := ⟨by have := h.len; simp; omega, fun i hi => by
  rw [List.getElem?_take]
  split
  · rename_i hl; exact h.at_ i hl hi
  · rename_i hl; rw [List.getElem?_eq_none (by omega)]⟩
theorem Dr.cut {S : Store} {j n : Nat} {b : Int} (h : Dr S j b) (hj : j < n) : Dr (S.take n) j b := h.of (by rw [List.getElem?_take, if_pos hj])
theorem Dr.push {S : Store} {j : Nat} {b : Int} (h : Dr S j b) (x : So) : Dr (S ++ [x]) j b := h.of (by rw [List.getElem?_append_left h.lt])
theorem Dr.put {S : Store} {j k : Nat} {b : Int} (h : Dr S j b) (hk : k ≠ j) (x : So) : Dr (S.set k x) j b := h.of (by rw [List.getElem?_set_ne hk])
theorem get_push (S : Store) (x : So) : (S ++ [x])[S.length]? = some x := by simp
theorem get_keep {S : Store} {i : Nat} {y x : So} (h : S[i]? = some y) : (S ++ [x])[i]? = some y := by
  rw [List.getElem?_append_left (List.getElem?_eq_some_iff.mp h).1]; exact h
theorem ne_dic {S : Store} {i j : Nat} {b : Int} {xs : List Dv} (h : Dr S j b) (hi : S[i]? = some (.lst xs)) : i ≠ j := fun z => by
  obtain ⟨L, S', C, p, h1, _⟩ := h.ex
  rw [← z, hi] at h1
  cases h1
/-! equality of ints -/
theorem eqv_int (i j : Int) : PyData.eqv (.int i) (.int j) = decide (i = j) := by
  first | rfl | simp [PyData.eqv]
theorem good_int (i : Int) : good (.int i) = true := rfl
theorem oEq_int (i j : Int) : oEq (.int i) (.int j) = some (.bl (decide (i = j))) := by
  unfold oEq
  rw [good_int, good_int]
  show some (Dv.bl (PyData.eqv (.int i) (.int j))) = _
  rw [eqv_int]
theorem oNe_int (i j : Int) : oNe (.int i) (.int j) = some (.bl (!decide (i = j))) := by
  unfold oNe
  rw [good_int, good_int]
  show some (Dv.bl (!PyData.eqv (.int i) (.int j))) = _
  rw [eqv_int]
theorem iRange1_ok {f : Sem1} {en : En} {m m' : Store} {k : Int} (h : f en m = .ok (.d (.int k)) m') (h1 : -(2 ^ 62) ≤ k) (h2 : k < 2 ^ 62) : iRange1 f en m = .ok (rng 0 k) m' := by
  simp [iRange1, Rs.bind, h, rv_d, rngOk]
  omega
theorem rng_get {lo hi : Int} {i : Nat} {d : Dv} (h : (rng lo hi)[i]? = some d) : d = .int (lo + i) ∧ (i : Int) < hi - lo := by
  unfold rng at h
  rw [List.getElem?_map] at h
  cases e : (List.range (hi - lo).toNat)[i]? with
  | none => rw [e] at h; cases h
  | some n =>
    rw [e] at h
    have := List.getElem?_eq_some_iff.mp e
    obtain ⟨h1, h2⟩ := this
    simp at h1 h2
    subst h2
    cases h
    exact ⟨rfl, by omega⟩
theorem rng_len (lo hi : Int) : (rng lo hi).length = (hi - lo).toNat := by unfold rng; simp
theorem rng_mem {lo hi : Int} {d : Dv} (h : d ∈ rng lo hi) : ∃ i : Int, d = .int i ∧ lo ≤ i ∧ i < hi := by
  obtain ⟨i, hi⟩ := List.getElem?_of_mem h
  obtain ⟨rfl, h2⟩ := rng_get hi
  exact ⟨_, rfl, by omega, by omega⟩
theorem rng_nat (k : Nat) : rng 0 k = (List.range k).map fun i : Nat => Dv.int i := by unfold rng; simp
theorem iSeq_d {f : Sem1} {en : En} {m m' : Store} {xs : List Dv} (h : f en m = .ok (.d (.lst xs)) m') : iSeq f en m = .ok xs m' := by simp [iSeq, Rs.bind, h, frz_d, items]
theorem iSeq_t {f : Sem1} {en : En} {m m' : Store} {xs : List Dv} (h : f en m = .ok (.d (.tup xs)) m') : iSeq f en m = .ok xs m' := by simp [iSeq, Rs.bind, h, frz_d, items]
theorem iSeq_s {f : Sem1} {en : En} {m m' : Store} {ns : List Int} (h : f en m = .ok (.d (.scr ns)) m') : iSeq f en m = .ok (ns.map .int) m' := by simp [iSeq, Rs.bind, h, frz_d, items]
theorem iSeq_o {f : Sem1} {en : En} {m m' : Store} {q : Nat} {xs : List Dv} (h : f en m = .ok (.o q) m') (hq : m'[q]? = some (.lst xs)) : iSeq f en m = .ok xs (m'.set q .gone) := by simp [iSeq, Rs.bind, h, frz, hq, items]
theorem Xt.len' {j : Nat} {m S : Store} (h : Xt j m S) : m.length ≤ S.length := h.len
/-! steps -/
section
variable {en e1 : En} {m m1 : Store} {i k : Nat} {f : Sem1} {ff : SemF} {x : Sv} {xs : List Dv} {y : Dv} {g1 g2 : SemS} {t : SemB} {b : Bool} {G : Tgt} {fi : SemF} {body : SemS} {r : Sr}
theorem gSet_ok (h : f en m = .ok x m1) : gSet i f en m = .nx (en.set i (some x)) m1 := by simp [gSet, Rs.st, h]
theorem gNew_ok (h : ff en m = .ok xs m1) : gNew i ff en m = .nx (en.set i (some (.o m1.length))) (m1 ++ [.lst xs]) := by simp [gNew, Rs.st, h]
theorem gSeq_ok (h : g1 en m = .nx e1 m1) : gSeq g1 g2 en m = g2 e1 m1 := by simp [gSeq, h]
theorem gSeq_rt (h : g1 en m = .rt x m1) : gSeq g1 g2 en m = .rt x m1 := by simp [gSeq, h]
theorem gRet_ok (h : f en m = .ok x m1) : gRet f en m = .rt x m1 := by simp [gRet, Rs.st, h]
theorem gIf_t (h : t en m = .ok true m1) : gIf t g1 g2 en m = g1 en m1 := by simp [gIf, Rs.st, h]
theorem gIf_f (h : t en m = .ok false m1) : gIf t g1 g2 en m = g2 en m1 := by simp [gIf, Rs.st, h]
theorem gIf_ok (h : t en m = .ok b m1) : gIf t g1 g2 en m = if b = true then g1 en m1 else g2 en m1 := by simp [gIf, Rs.st, h]
theorem gApp_ok {zs : List Dv} (h0 : en[i]? = some (some (.o k))) (hk0 : m[k]? = some (.lst zs)) (h : f en m = .ok (.d y) m1) (hk : m1[k]? = some (.lst xs)) (hf : fits (xs.length + 1) = true) : gApp i f en m = .nx en (m1.set k (.lst (xs ++ [y]))) := by simp [gApp, Rs.st, h0, hk0, h, frz_d, hk, hf]
theorem gFor_ok (h : fi en m = .ok xs m1) : gFor fi G body en m = loop G body xs en m1 := by simp [gFor, Rs.st, h]
theorem gAsg_ok (h : f en m = .ok x m1) (hG : G x en m1 = some e1) : gAsg f G en m = .nx e1 m1 := by simp [gAsg, Rs.st, h, hG]
theorem sVar_ok (h : en[i]? = some (some x)) : sVar i en m = .ok x m := by unfold sVar; rw [h]
theorem sC_ok (d : Dv) : sC d en m = .ok (.d d) m := rfl
variable {fa fb fc : Sem1} {m2 m3 : Store} {a c d u v : Dv} {op : Dv → Dv → Option Dv} {up : Dv → Option Dv} {w z : Sv} {fl : SemL} {ws : List Sv} {g : Fs}
theorem sBin_ok (ha : fa en m = .ok w m1) (hb : fb en m1 = .ok z m2) (h1 : rv m2 w = some u) (h2 : rv m2 z = some v) (ho : op u v = some d) : sBin op fa fb en m = .ok (.d d) m2 := by simp [sBin, Rs.bind, ha, hb, h1, h2, ho]
theorem sUn_ok (ha : fa en m = .ok w m1) (h1 : rv m1 w = some u) (ho : up u = some d) : sUn up fa en m = .ok (.d d) m1 := by simp [sUn, Rs.bind, ha, h1, ho]
theorem sT_ok {b : Bool} (ha : fa en m = .ok (.d (.bl b)) m1) : sT fa en m = .ok b m1 := by simp [sT, Rs.bind, ha, rv_d, truth]
theorem lNil_ok : lNil en m = .ok [] m := rfl
theorem lCons_ok (ha : fa en m = .ok w m1) (hb : fl en m1 = .ok ws m2) : lCons fa fl en m = .ok (w :: ws) m2 := by simp [lCons, Rs.bind, ha, hb]
theorem sCall_ok (ha : fl en m = .ok ws m1) (hg : g ws m1 = .ok w m2) : sCall g fl en m = .ok w m2 := by simp [sCall, Rs.bind, ha, hg]
theorem gPar_ok {i j : Nat} (ha : fl en m = .ok [w, z] m1) : gPar i j fl en m = .nx ((en.set i (some w)).set j (some z)) m1 := by simp [gPar, Rs.st, ha]
theorem sF_ok (ha : ff en m = .ok xs m1) : sF ff en m = .ok (.d (.lst xs)) m1 := by simp [sF, Rs.bind, ha]
theorem sNew_ok (ha : ff en m = .ok xs m1) : sNew ff en m = .ok (.o m1.length) (m1 ++ [.lst xs]) := by simp [sNew, Rs.bind, ha]
theorem fn_d {ns np : Nat} (hn : ws.length = np) (hg : g1 (start0 ns ws) m = .rt (.d d) m1) : fnS ns np g1 ws m = .ok (.d d) (m1.take m.length) := by simp [fnS, hn, hg, fnEnd]
theorem gPutL_ok {l : Int} (hf : f en m = .ok (.d y) m1) (h0 : en[i]? = some (some (.o k))) (ha : fa en m1 = .ok (.d (.int l)) m2) (hk : m2[k]? = some (.lst xs)) (hl : 0 ≤ l) (hl2 : l < xs.length) : gPutL i fa f en m = .nx en (m2.set k (.lst (xs.set l.toNat y))) := by
  have e : ixN xs.length l = some l.toNat := by unfold ixN; rw [if_pos hl, if_pos hl2]
  simp [gPutL, Rs.st, hf, h0, ha, frz_d, rv_d, hk, e]
theorem iZip_l {x1 x2 : List Dv} (ha : fa en m = .ok (.d (.lst x1)) m1) (hb : fb en m1 = .ok (.d (.lst x2)) m2) : EvL.iZip fa fb en m = .ok (pairs x1 x2) m2 := by simp [EvL.iZip, Rs.bind, ha, hb, frz_d, zipD]
theorem iZip_t {x1 x2 : List Dv} (ha : fa en m = .ok (.d (.tup x1)) m1) (hb : fb en m1 = .ok (.d (.tup x2)) m2) : EvL.iZip fa fb en m = .ok (pairs x1 x2) m2 := by simp [EvL.iZip, Rs.bind, ha, hb, frz_d, zipD]
theorem lst_ok {l : List Dv} (ha : fl en m = .ok ws m1) (h : frzL m1 ws = some (l, m2)) (hf : fits l.length = true) : fLst fl en m = .ok l m2 := by simp [fLst, Rs.bind, ha, h, hf]
theorem tup_ok {l : List Dv} (ha : fl en m = .ok ws m1) (h : frzL m1 ws = some (l, m2)) (hf : fits l.length = true) : sTup fl en m = .ok (.d (.tup l)) m2 := by simp [sTup, Rs.bind, ha, h, hf]
theorem if_ok {b : Bool} (ht : t en m = .ok b m1) : sIf t fa fb en m = if b = true then fa en m1 else fb en m1 := by
  cases b <;> simp [sIf, Rs.bind, ht]
end
end EvH
end

section
set_option Elab.async false
set_option linter.all false
set_option maxRecDepth 100000
set_option maxHeartbeats 2000000
/-! H4: comprehensions that draw; begun; like -/
namespace EvH
open PySem PySem.Spec PyProof.Rows L2 EvL
theorem comp_draws {fi : SemF} {G : Tgt} {f : Sem1} {vs : List Nat} {en : En} {m : Store} {xs : List Dv} {j : Nat} {b : Int} (P : Dv → Prop) (hfi : fi en m = .ok xs m) (h : Dr m j b) (hx : xs.length ≤ 1000) (hb : b + xs.length < 1000000)
    (hs : ∀ d S c, d ∈ xs → Dr S j c → c < 1000000 → ∃ en' z S', G (.d d) (wipeE en vs) S = some en' ∧ f en' S = .ok (.d z) S' ∧ Sj j S S' ∧ Dr S' j (c + 1) ∧ P z) :
    ∃ acc m', fComp fi G bYes f vs en m = .ok acc m' ∧ acc.length = xs.length ∧ (∀ z ∈ acc, P z) ∧ Sj j m m' ∧ Dr m' j (b + xs.length) := by
  have hj := h.lt
  obtain ⟨acc, S, e, hl, _, h1, h2, h3, h4⟩ := comp_inv (t := bYes) (G := G) (f := f) (vs := vs) hfi (by omega) (fun i acc S => acc.length = i ∧ (∀ z ∈ acc, P z) ∧ (∀ k, k < m.length → k ≠ j → S[k]? = m[k]?) ∧ Dr S j (b + i))
    ⟨rfl, by simp, fun k hk _ => List.getElem?_append_left hk, (h.push _).mono (by simp)⟩ (by
    rintro i d acc S hd hl hg ⟨a1, a2, a3, a4⟩
    have hi := (List.getElem?_eq_some_iff.mp hd).1
    obtain ⟨en', z, S', e1, e2, sj, d1, pz⟩ := hs d S _ (List.mem_of_getElem? hd) a4 (by omega)
    refine ⟨en', e1, .inr ⟨S, z, S', rfl, e2, by rw [sj.len]; exact hl, by rw [sj.at_ _ (by omega)]; exact hg, by simp [a1], fun y hy => ?_, fun k hk hkj => ?_, ?_⟩⟩
    · rcases List.mem_append.mp hy with q | q
      · exact a2 y q
      · simp at q; subst q; exact pz
    · rw [List.getElem?_set_ne (by omega), sj.at_ k hkj]
      exact a3 k hk hkj
    · exact (d1.put (by omega) _).mono (by omega))
  refine ⟨acc, _, e, h1, h2, ⟨by simp; omega, fun k hk => ?_⟩, h4.cut hj⟩
  rw [List.getElem?_take]
  split
  · rename_i hkl; exact h3 k hkl hk
  · rename_i hkl; rw [List.getElem?_eq_none (by omega)]
/-! like -/
theorem sAnd_t {f g : Sem1} {en : En} {m m1 : Store} (h : f en m = .ok (.d (.bl true)) m1) : sAnd f g en m = g en m1 := by unfold sAnd; rw [h]; rfl
theorem sAnd_f {f g : Sem1} {en : En} {m m1 : Store} (h : f en m = .ok (.d (.bl false)) m1) : sAnd f g en m = .ok (.d (.bl false)) m1 := by unfold sAnd; rw [h]; rfl
theorem sOr_t {f g : Sem1} {en : En} {m m1 : Store} (h : f en m = .ok (.d (.bl true)) m1) : sOr f g en m = .ok (.d (.bl true)) m1 := by unfold sOr; rw [h]; rfl
theorem sOr_f {f g : Sem1} {en : En} {m m1 : Store} (h : f en m = .ok (.d (.bl false)) m1) : sOr f g en m = g en m1 := by unfold sOr; rw [h]; rfl
theorem sNot_ok {f : Sem1} {en : En} {m m1 : Store} {b : Bool} (h : f en m = .ok (.d (.bl b)) m1) : sNot f en m = .ok (.d (.bl (!b))) m1 := by unfold sNot; rw [h]; rfl
theorem bAnd_t {f g : SemB} {en : En} {m m1 : Store} (h : f en m = .ok true m1) : bAnd f g en m = g en m1 := by unfold bAnd; rw [h]; rfl
theorem bAnd_f {f g : SemB} {en : En} {m m1 : Store} (h : f en m = .ok false m1) : bAnd f g en m = .ok false m1 := by unfold bAnd; rw [h]; rfl
theorem bOr_t {f g : SemB} {en : En} {m m1 : Store} (h : f en m = .ok true m1) : bOr f g en m = .ok true m1 := by unfold bOr; rw [h]; rfl
theorem bOr_f {f g : SemB} {en : En} {m m1 : Store} (h : f en m = .ok false m1) : bOr f g en m = g en m1 := by unfold bOr; rw [h]; rfl
theorem bNot_ok {f : SemB} {en : En} {m m1 : Store} {b : Bool} (h : f en m = .ok b m1) : bNot f en m = .ok (!b) m1 := by unfold bNot; rw [h]; rfl
theorem like_ok {d : Dv} {m : Store} (h : showOk d = true) : f__law_like [.d d, .d d] m = .ok (.d (.bl true)) m := by
  have hg : good d = true := by
    unfold showOk at h
    simp only [Bool.and_eq_true] at h
    exact h.1.1.1.1
  have he : PyData.eqv (cv d) (cv d) = true := by
    unfold good at hg
    rw [Bool.and_eq_true] at hg
    exact SeqAt.eqv_refl _ (SeqAt.canLay_of_shaped hg.2)
  have e1 : oEq d d = some (.bl true) := by unfold oEq; rw [hg]; simp [he]
  have e2 : oRepr d = some (.str (cv d).shown) := by unfold oRepr; rw [if_pos h]
  have e3 : ∀ z : Str, oEqS (.str z) (.str z) = some (.bl true) := fun z => by simp [oEqS]
  have h1 : sBin oEq (sVar 0) (sVar 1) [some (.d d), some (.d d)] m = .ok (.d (.bl true)) m := sBin_ok (sVar_ok rfl) (sVar_ok rfl) rfl rfl e1
  have h2 : sBin oEqS (sUn oRepr (sVar 0)) (sUn oRepr (sVar 1)) [some (.d d), some (.d d)] m = .ok (.d (.bl true)) m := sBin_ok (sUn_ok (sVar_ok rfl) rfl e2) (sUn_ok (sVar_ok rfl) rfl e2) rfl rfl (e3 _)
  have h3 : g__law_like [some (.d d), some (.d d)] m = .rt (.d (.bl true)) m := gRet_ok ((sAnd_t h1).trans h2)
  exact (fn_d (ns := 2) (np := 2) (ws := [.d d, .d d]) (g1 := g__law_like) rfl h3).trans (by rw [take_self])
end EvH
end

section
set_option Elab.async false
set_option linter.all false
set_option maxRecDepth 100000
set_option maxHeartbeats 2000000
/-! H5: data small enough for repr -/
namespace EvH
open PySem PySem.Spec PyProof.Rows L2 EvL
structure Sm (w p : Nat) (d : Dv) : Prop where
  fl : flat d = true
  can : (cv d).canLay0 = true
  sh : (cv d).intsShort 13 = true
  sw : (cv d).showable = true
  wt : (cv d).weight ≤ w
  dp : (cv d).depth ≤ p
theorem Sm.mono {w p w' p' : Nat} {d : Dv} (h : Sm w p d) (hw : w ≤ w') (hp : p ≤ p') : Sm w' p' d := ⟨h.fl, h.can, h.sh, h.sw, Nat.le_trans h.wt hw, Nat.le_trans h.dp hp⟩
theorem Sm.ok {w p : Nat} {d : Dv} (h : Sm w p d) (hw : w ≤ 60000) (hp : p ≤ 60) : showOk d = true := by
  have h1 := PyData.shown_le 13 (by decide) (cv d) (PyData.leavesShort_of_canLay0 13 _ h.can h.sh)
  have h2 := h.wt
  have h3 := h.dp
  have h4 := PyData.hasDict_of_canLay _ h.can
  unfold showOk good SeqAt.shaped
  rw [h.fl, h.can, h.sw, h4]
  simp
  omega
theorem Sm.non : Sm 0 0 .non := ⟨rfl, rfl, rfl, rfl, Nat.le_refl _, Nat.le_refl _⟩
theorem Sm.bl (b : Bool) : Sm 0 0 (.bl b) := ⟨rfl, rfl, rfl, rfl, Nat.le_refl _, Nat.le_refl _⟩
theorem Sm.int {i : Int} (h : i.natAbs < 10 ^ 12) : Sm 41 0 (.int i) := by
  have hl : i.natAbs.log2 < 40 := by
    by_cases z : i.natAbs = 0
    · rw [z]; decide
    · exact (Nat.log2_lt z).mpr (Nat.lt_trans h (by decide))
  refine ⟨rfl, rfl, ?_, ?_, ?_, Nat.le_refl _⟩
  · show decide ((PyData.shown (.int i)).length ≤ 13) = true
    exact decide_eq_true (PyData.shown_int_le h)
  · show decide (i.natAbs.log2 < 1920) = true
    exact decide_eq_true (by omega)
  · show (if i == 0 then 0 else i.natAbs.log2 + 1) ≤ 41
    split <;> omega
theorem Sm.str {z : Str} (h : PyData.strOk z = true) : Sm z.cps.size 0 (.str z) := ⟨rfl, h, rfl, rfl, Nat.le_refl _, Nat.le_refl _⟩
theorem smL {w p : Nat} : ∀ {xs : List Dv}, (∀ x ∈ xs, Sm w p x) → flatL xs = true ∧ PyData.canLayAll0 (cvL xs) = true ∧ PyData.intsShortAll 13 (cvL xs) = true ∧ PyData.showableAll (cvL xs) = true ∧ PyData.weightAll (cvL xs) ≤ xs.length * (w + 1) ∧ PyData.depthAll (cvL xs) ≤ p
  | [], _ => ⟨rfl, rfl, rfl, rfl, by simp [cvL, PyData.weightAll], Nat.zero_le _⟩
  | x :: xs, h => by
    obtain ⟨a1, a2, a3, a4, a5, a6⟩ := smL fun y hy => h y (List.mem_cons_of_mem _ hy)
    have hx := h x List.mem_cons_self
    refine ⟨?_, ?_, ?_, ?_, ?_, ?_⟩
    · unfold flatL; rw [hx.fl, a1]; rfl
    · unfold cvL PyData.canLayAll0; rw [hx.can, a2]; rfl
    · unfold cvL PyData.intsShortAll; rw [hx.sh, a3]; rfl
    · unfold cvL PyData.showableAll; rw [hx.sw, a4]; rfl
    · unfold cvL PyData.weightAll
      have := hx.wt
      rw [List.length_cons, Nat.succ_mul]
      omega
    · unfold cvL PyData.depthAll
      have := hx.dp
      omega
theorem Sm.tup {w p n : Nat} {xs : List Dv} (h : ∀ x ∈ xs, Sm w p x) (hn : xs.length ≤ n) : Sm (n * (w + 1)) (p + 1) (.tup xs) := by
  obtain ⟨a1, a2, a3, a4, a5, a6⟩ := smL h
  refine ⟨by unfold flat; exact a1, by unfold cv PyData.canLay0; exact a2, by unfold cv PyData.intsShort; exact a3, by unfold cv PyData.showable; exact a4, ?_, by unfold cv PyData.depth; omega⟩
  unfold cv PyData.weight
  exact Nat.le_trans a5 (Nat.mul_le_mul_right _ hn)
theorem Sm.lst {w p n : Nat} {xs : List Dv} (h : ∀ x ∈ xs, Sm w p x) (hn : xs.length ≤ n) : Sm (n * (w + 1)) (p + 1) (.lst xs) := by
  obtain ⟨a1, a2, a3, a4, a5, a6⟩ := smL h
  refine ⟨by unfold flat; exact a1, by unfold cv PyData.canLay0; exact a2, by unfold cv PyData.intsShort; exact a3, by unfold cv PyData.showable; exact a4, ?_, by unfold cv PyData.depth; omega⟩
  unfold cv PyData.weight
  exact Nat.le_trans a5 (Nat.mul_le_mul_right _ hn)
theorem Sm.ty {w p : Nat} {d : Dv} (h : Sm w p d) : (tyName d).isSome = true := by
  have := h.fl
  cases d with
  | fn n => simp [flat] at this
  | _ => rfl
end EvH
end

section
set_option Elab.async false
set_option linter.all false
set_option maxRecDepth 100000
set_option maxHeartbeats 8000000
namespace K21
open PySem PySem.Spec PyProof.Rows L2 EvL
def top (i : Nat) : Stmt := PySem.Challenge.pw_gridbodies_k21_whole_moves.main.body.getD i (.Pass ⟨0, 0, 0, 0⟩)
abbrev nCls : Nat := 6
def subC : Nat → Nat → Bool := fun i j => i == j
structure Fx (P : Program) (K : PySem.W.Frag) (mg : Str → Option Value) (tb : Tb) : Prop where
  b_abs : mg "abs" = none
  b_all : mg "all" = none
  b_any : mg "any" = none
  b_bool : mg "bool" = none
  b_enumerate : mg "enumerate" = none
  b_int : mg "int" = none
  b_isinstance : mg "isinstance" = none
  b_len : mg "len" = none
  b_list : mg "list" = none
  b_max : mg "max" = none
  b_min : mg "min" = none
  b_range : mg "range" = none
  b_repr : mg "repr" = none
  b_sum : mg "sum" = none
  b_tuple : mg "tuple" = none
  b_zip : mg "zip" = none
  c_DEEPS : ConT K mg "DEEPS" [1, 2, 3]
  c_MOST_NUMBER : ConI mg "MOST_NUMBER" 1000
  c_MOST_PLACE : ConI mg "MOST_PLACE" 1000
  e_BadNumber : Er1 P K mg tb 0 "BadNumber" "value" "no number: "
  e_BadPoint : Er1 P K mg tb 1 "BadPoint" "value" "no point: "
  e_BadMove : Er1 P K mg tb 3 "BadMove" "path" "no move: "
  e_TooGreat : Er1 P K mg tb 4 "TooGreat" "most" "more than is let: "
  e_Unlike : Er0 K mg tb 5 "Unlike"
  exm : ∀ i j, i < nCls → j < nCls → PySem.W.exmOne K (.ref (tb.clA i)) (.ref (tb.clA j)) = some (subC i j)
  f_composed : mg "composed" = some (.ref (tb.fnA 0))
  f_moved_point : mg "moved_point" = some (.ref (tb.fnA 1))
  f_inverse_move : mg "inverse_move" = some (.ref (tb.fnA 2))
  f_need_move : mg "need_move" = some (.ref (tb.fnA 3))
  f_move_sign : mg "move_sign" = some (.ref (tb.fnA 4))
  f_moved_body : mg "moved_body" = some (.ref (tb.fnA 5))
  f_plain_move : mg "plain_move" = some (.ref (tb.fnA 6))
abbrev st_is_integer : Stmt := top 9
abbrev N_is_integer : List Str := ["value"]
theorem sc_is_integer : FnScope N_is_integer ["value"] (defScope st_is_integer) := ⟨rfl, rfl, rfl, by decide +kernel, rfl, by decide +kernel, by decide +kernel⟩
def g_is_integer : SemS := (gRet (sAnd (sUn (oIs "int") (sVar 0)) (sNot (sUn (oIs "bool") (sVar 0)))))
def f_is_integer : Fs := fnS 1 1 g_is_integer
abbrev st_is_from : Stmt := top 10
abbrev N_is_from : List Str := ["value", "least", "most"]
theorem sc_is_from : FnScope N_is_from ["value", "least", "most"] (defScope st_is_from) := ⟨rfl, rfl, rfl, by decide +kernel, rfl, by decide +kernel, by decide +kernel⟩
def g_is_from : SemS := (gRet (sAnd (sCall f_is_integer (lCons (sVar 0) lNil)) (sChain oLe oLe (sVar 1) (sVar 0) (sVar 2))))
def f_is_from : Fs := fnS 3 3 g_is_from
abbrev st_determinant_in : Stmt := top 38
abbrev N_determinant_in : List Str := ["lines", "found", "place", "near", "far"]
theorem sc_determinant_in : FnScope N_determinant_in ["lines"] (defScope st_determinant_in) := ⟨rfl, rfl, rfl, by decide +kernel, rfl, by decide +kernel, by decide +kernel⟩
def g_determinant_in : SemS := (gSeq (gIf (sT (sBin oEq (sUn oLen (sVar 0)) (sC (.int 1)))) (gRet (sBin oIx (sBin oIx (sVar 0) (sC (.int 0))) (sC (.int 0)))) gNext) (gSeq (gIf (sT (sBin oEq (sUn oLen (sVar 0)) (sC (.int 2)))) (gRet (sBin oSub (sBin oMulP (sBin oIx (sBin oIx (sVar 0) (sC (.int 0))) (sC (.int 0))) (sBin oIx (sBin oIx (sVar 0) (sC (.int 1))) (sC (.int 1)))) (sBin oMulP (sBin oIx (sBin oIx (sVar 0) (sC (.int 0))) (sC (.int 1))) (sBin oIx (sBin oIx (sVar 0) (sC (.int 1))) (sC (.int 0)))))) gNext) (gSeq (gSet 1 (sC (.int 0))) (gSeq (gFor (iRange1 (sC (.int 3))) (tgN 2) (gSeq (gPar 3 4 (lCons (sBin oMod (sBin oAddP (sVar 2) (sC (.int 1))) (sC (.int 3))) (lCons (sBin oMod (sBin oAddP (sVar 2) (sC (.int 2))) (sC (.int 3))) lNil))) (gAug 1 (fun i j => i + j) (sBin oMulP (sBin oIx (sBin oIx (sVar 0) (sC (.int 0))) (sVar 2)) (sBin oSub (sBin oMulP (sBin oIx (sBin oIx (sVar 0) (sC (.int 1))) (sVar 3)) (sBin oIx (sBin oIx (sVar 0) (sC (.int 2))) (sVar 4))) (sBin oMulP (sBin oIx (sBin oIx (sVar 0) (sC (.int 1))) (sVar 4)) (sBin oIx (sBin oIx (sVar 0) (sC (.int 2))) (sVar 3)))))))) (gRet (sVar 1))))))
def f_determinant_in : Fs := fnS 5 1 g_determinant_in
abbrev st_lines_fault : Stmt := top 39
abbrev N_lines_fault : List Str := ["value", "number", "line", "place", "one"]
theorem sc_lines_fault : FnScope N_lines_fault ["value"] (defScope st_lines_fault) := ⟨rfl, rfl, rfl, by decide +kernel, rfl, by decide +kernel, by decide +kernel⟩
def g_lines_fault : SemS := (gSeq (gIf (bOr (bNot (sT (sUn (oIs "tuple") (sVar 0)))) (bNot (sT (sChain oLe oLe (sC (.int 1)) (sUn oLen (sVar 0)) (sC (.int 3)))))) (gRet (sTup lNil)) gNext) (gSeq (gFor (iEnumS (sVar 0)) (tgTup 2 (tgCons (tgN 1) (tgCons (tgN 2) tgNil))) (gSeq (gIf (bOr (bNot (sT (sUn (oIs "tuple") (sVar 2)))) (sT (sBin oNe (sUn oLen (sVar 2)) (sUn oLen (sVar 0))))) (gRet (sTup (lCons (sVar 1) lNil))) gNext) (gFor (iEnumS (sVar 2)) (tgTup 2 (tgCons (tgN 3) (tgCons (tgN 4) tgNil))) (gIf (bNot (sT (sCall f_is_from (lCons (sVar 4) (lCons (sBin oSub (sC (.int 0)) (sC (.int 1000))) (lCons (sC (.int 1000)) lNil)))))) (gRet (sTup (lCons (sVar 1) (lCons (sVar 3) lNil)))) gNext)))) (gRet (sIf (sT (sBin oEq (sUn oAbs (sCall f_determinant_in (lCons (sVar 0) lNil))) (sC (.int 1)))) (sC .non) (sTup lNil)))))
def f_lines_fault : Fs := fnS 5 1 g_lines_fault
abbrev st_is_point : Stmt := top 15
abbrev N_is_point : List Str := ["axes", "value", "one"]
theorem sc_is_point : FnScope N_is_point ["axes", "value"] (defScope st_is_point) := ⟨rfl, rfl, rfl, by decide +kernel, rfl, by decide +kernel, by decide +kernel⟩
def g_is_point : SemS := (gSeq (gIf (bOr (bNot (sT (sUn (oIs "tuple") (sVar 1)))) (sT (sBin oNe (sUn oLen (sVar 1)) (sVar 0)))) (gRet (sC (.bl false))) gNext) (gRet (sUn oAll (sF (fComp (iSeq (sVar 1)) (tgN 2) bYes (sCall f_is_from (lCons (sVar 2) (lCons (sBin oSub (sC (.int 0)) (sC (.int 1000))) (lCons (sC (.int 1000)) lNil)))) [2])))))
def f_is_point : Fs := fnS 3 2 g_is_point
abbrev st_move_fault : Stmt := top 40
abbrev N_move_fault : List Str := ["value", "found"]
theorem sc_move_fault : FnScope N_move_fault ["value"] (defScope st_move_fault) := ⟨rfl, rfl, rfl, by decide +kernel, rfl, by decide +kernel, by decide +kernel⟩
def g_move_fault : SemS := (gSeq (gIf (bOr (bNot (sT (sUn (oIs "tuple") (sVar 0)))) (sT (sBin oNe (sUn oLen (sVar 0)) (sC (.int 2))))) (gRet (sTup lNil)) gNext) (gSeq (gSet 1 (sCall f_lines_fault (lCons (sBin oIx (sVar 0) (sC (.int 0))) lNil))) (gSeq (gIf (sT (sBin oNotN (sVar 1) (sC .non))) (gRet (sBin oAddP (sTup (lCons (sC (.int 0)) lNil)) (sVar 1))) gNext) (gRet (sIf (sT (sCall f_is_point (lCons (sUn oLen (sBin oIx (sVar 0) (sC (.int 0)))) (lCons (sBin oIx (sVar 0) (sC (.int 1))) lNil)))) (sC .non) (sTup (lCons (sC (.int 1)) lNil)))))))
def f_move_fault : Fs := fnS 2 1 g_move_fault
abbrev st_need_move : Stmt := top 41
abbrev N_need_move : List Str := ["move", "found"]
theorem sc_need_move : FnScope N_need_move ["move"] (defScope st_need_move) := ⟨rfl, rfl, rfl, by decide +kernel, rfl, by decide +kernel, by decide +kernel⟩
def g_need_move : SemS := (gSeq (gSet 1 (sCall f_move_fault (lCons (sVar 0) lNil))) (gSeq (gIf (sT (sBin oNotN (sVar 1) (sC .non))) (gRaise 3 "path" (sVar 1)) gNext) (gRet (sVar 0))))
def f_need_move : Fs := fnS 2 1 g_need_move
abbrev st_let_rows : Stmt := top 46
abbrev N_let_rows : List Str := ["rows", "row", "one"]
theorem sc_let_rows : FnScope N_let_rows ["rows"] (defScope st_let_rows) := ⟨rfl, rfl, rfl, by decide +kernel, rfl, by decide +kernel, by decide +kernel⟩
def g_let_rows : SemS := (gSeq (gIf (sT (sUn oAny (sF (fComp2 (iSeq (sVar 0)) (tgN 1) bYes (iSeq (sVar 1)) (tgN 2) bYes (sBin oGt (sUn oAbs (sVar 2)) (sC (.int 1000))) [1, 2] [2])))) (gRaise 4 "most" (sC (.int 1000))) gNext) (gRet (sVar 0)))
def f_let_rows : Fs := fnS 3 1 g_let_rows
abbrev st_let_move : Stmt := top 48
abbrev N_let_move : List Str := ["move"]
theorem sc_let_move : FnScope N_let_move ["move"] (defScope st_let_move) := ⟨rfl, rfl, rfl, by decide +kernel, rfl, by decide +kernel, by decide +kernel⟩
def g_let_move : SemS := (gSeq (gExpr (sCall f_let_rows (lCons (sBin oAddP (sF (fUn oList (sBin oIx (sVar 0) (sC (.int 0))))) (sF (fLst (lCons (sBin oIx (sVar 0) (sC (.int 1))) lNil)))) lNil))) (gRet (sVar 0)))
def f_let_move : Fs := fnS 1 1 g_let_move
abbrev st_times_lines : Stmt := top 50
abbrev N_times_lines : List Str := ["lines", "far_lines", "columns", "line", "column", "one", "two"]
theorem sc_times_lines : FnScope N_times_lines ["lines", "far_lines"] (defScope st_times_lines) := ⟨rfl, rfl, rfl, by decide +kernel, rfl, by decide +kernel, by decide +kernel⟩
def g_times_lines : SemS := (gSeq (gSet 2 (sF (fZipS (sVar 1)))) (gRet (sUn oTuple (sF (fComp (iSeq (sVar 0)) (tgN 3) bYes (sUn oTuple (sF (fComp (iSeq (sVar 2)) (tgN 4) bYes (sUn oSum (sF (fComp (EvL.iZip (sVar 3) (sVar 4)) (tgTup 2 (tgCons (tgN 5) (tgCons (tgN 6) tgNil))) bYes (sBin oMulP (sVar 5) (sVar 6)) [5, 6]))) [4]))) [3])))))
def f_times_lines : Fs := fnS 7 2 g_times_lines
abbrev st_plus_point : Stmt := top 44
abbrev N_plus_point : List Str := ["point", "other", "one", "two"]
theorem sc_plus_point : FnScope N_plus_point ["point", "other"] (defScope st_plus_point) := ⟨rfl, rfl, rfl, by decide +kernel, rfl, by decide +kernel, by decide +kernel⟩
def g_plus_point : SemS := (gRet (sUn oTuple (sF (fComp (EvL.iZip (sVar 0) (sVar 1)) (tgTup 2 (tgCons (tgN 2) (tgCons (tgN 3) tgNil))) bYes (sBin oAddP (sVar 2) (sVar 3)) [2, 3]))))
def f_plus_point : Fs := fnS 4 2 g_plus_point
abbrev st_led_by_lines : Stmt := top 43
abbrev N_led_by_lines : List Str := ["lines", "row", "line", "one", "two"]
theorem sc_led_by_lines : FnScope N_led_by_lines ["lines", "row"] (defScope st_led_by_lines) := ⟨rfl, rfl, rfl, by decide +kernel, rfl, by decide +kernel, by decide +kernel⟩
def g_led_by_lines : SemS := (gRet (sUn oTuple (sF (fComp (iSeq (sVar 0)) (tgN 2) bYes (sUn oSum (sF (fComp (EvL.iZip (sVar 2) (sVar 1)) (tgTup 2 (tgCons (tgN 3) (tgCons (tgN 4) tgNil))) bYes (sBin oMulP (sVar 3) (sVar 4)) [3, 4]))) [2]))))
def f_led_by_lines : Fs := fnS 5 2 g_led_by_lines
abbrev st_moved_point_in : Stmt := top 45
abbrev N_moved_point_in : List Str := ["move", "point"]
theorem sc_moved_point_in : FnScope N_moved_point_in ["move", "point"] (defScope st_moved_point_in) := ⟨rfl, rfl, rfl, by decide +kernel, rfl, by decide +kernel, by decide +kernel⟩
def g_moved_point_in : SemS := (gRet (sCall f_plus_point (lCons (sCall f_led_by_lines (lCons (sBin oIx (sVar 0) (sC (.int 0))) (lCons (sVar 1) lNil))) (lCons (sBin oIx (sVar 0) (sC (.int 1))) lNil))))
def f_moved_point_in : Fs := fnS 2 2 g_moved_point_in
abbrev st_composed_in : Stmt := top 51
abbrev N_composed_in : List Str := ["move", "far_move"]
theorem sc_composed_in : FnScope N_composed_in ["move", "far_move"] (defScope st_composed_in) := ⟨rfl, rfl, rfl, by decide +kernel, rfl, by decide +kernel, by decide +kernel⟩
def g_composed_in : SemS := (gRet (sTup (lCons (sCall f_times_lines (lCons (sBin oIx (sVar 1) (sC (.int 0))) (lCons (sBin oIx (sVar 0) (sC (.int 0))) lNil))) (lCons (sCall f_moved_point_in (lCons (sVar 1) (lCons (sBin oIx (sVar 0) (sC (.int 1))) lNil))) lNil))))
def f_composed_in : Fs := fnS 2 2 g_composed_in
abbrev st_composed : Stmt := top 58
abbrev N_composed : List Str := ["move", "far_move"]
theorem sc_composed : FnScope N_composed ["move", "far_move"] (defScope st_composed) := ⟨rfl, rfl, rfl, by decide +kernel, rfl, by decide +kernel, by decide +kernel⟩
def g_composed : SemS := (gSeq (gExpr (sCall f_need_move (lCons (sVar 0) lNil))) (gSeq (gIf (sT (sBin oNe (sUn oLen (sBin oIx (sCall f_need_move (lCons (sVar 1) lNil)) (sC (.int 1)))) (sUn oLen (sBin oIx (sVar 0) (sC (.int 1)))))) (gRaise0 5) gNext) (gRet (sCall f_let_move (lCons (sCall f_composed_in (lCons (sVar 0) (lCons (sVar 1) lNil))) lNil)))))
def f_composed : Fs := fnS 2 2 g_composed
abbrev st_is_any_point : Stmt := top 42
abbrev N_is_any_point : List Str := ["value"]
theorem sc_is_any_point : FnScope N_is_any_point ["value"] (defScope st_is_any_point) := ⟨rfl, rfl, rfl, by decide +kernel, rfl, by decide +kernel, by decide +kernel⟩
def g_is_any_point : SemS := (gRet (sAnd (sUn (oIs "tuple") (sVar 0)) (sAnd (sBin (oIn false) (sUn oLen (sVar 0)) (sC (.tup (([1, 2, 3] : List Int).map .int)))) (sCall f_is_point (lCons (sUn oLen (sVar 0)) (lCons (sVar 0) lNil))))))
def f_is_any_point : Fs := fnS 1 1 g_is_any_point
abbrev st_moved_point : Stmt := top 55
abbrev N_moved_point : List Str := ["move", "point"]
theorem sc_moved_point : FnScope N_moved_point ["move", "point"] (defScope st_moved_point) := ⟨rfl, rfl, rfl, by decide +kernel, rfl, by decide +kernel, by decide +kernel⟩
def g_moved_point : SemS := (gSeq (gExpr (sCall f_need_move (lCons (sVar 0) lNil))) (gSeq (gIf (bNot (sT (sCall f_is_any_point (lCons (sVar 1) lNil)))) (gRaise 1 "value" (sVar 1)) gNext) (gSeq (gIf (sT (sBin oNe (sUn oLen (sVar 1)) (sUn oLen (sBin oIx (sVar 0) (sC (.int 1)))))) (gRaise0 5) gNext) (gRet (sBin oIx (sCall f_let_rows (lCons (sF (fLst (lCons (sCall f_moved_point_in (lCons (sVar 0) (lCons (sVar 1) lNil))) lNil))) lNil)) (sC (.int 0)))))))
def f_moved_point : Fs := fnS 2 2 g_moved_point
abbrev st_turned_lines : Stmt := top 52
abbrev N_turned_lines : List Str := ["lines", "found", "place", "row", "number", "one", "two", "near", "far"]
theorem sc_turned_lines : FnScope N_turned_lines ["lines"] (defScope st_turned_lines) := ⟨rfl, rfl, rfl, by decide +kernel, rfl, by decide +kernel, by decide +kernel⟩
def g_turned_lines : SemS := (gSeq (gIf (sT (sBin oEq (sUn oLen (sVar 0)) (sC (.int 1)))) (gRet (sTup (lCons (sTup (lCons (sC (.int 1)) lNil)) lNil))) gNext) (gSeq (gIf (sT (sBin oEq (sUn oLen (sVar 0)) (sC (.int 2)))) (gRet (sTup (lCons (sTup (lCons (sBin oIx (sBin oIx (sVar 0) (sC (.int 1))) (sC (.int 1))) (lCons (sBin oSub (sC (.int 0)) (sBin oIx (sBin oIx (sVar 0) (sC (.int 0))) (sC (.int 1)))) lNil))) (lCons (sTup (lCons (sBin oSub (sC (.int 0)) (sBin oIx (sBin oIx (sVar 0) (sC (.int 1))) (sC (.int 0)))) (lCons (sBin oIx (sBin oIx (sVar 0) (sC (.int 0))) (sC (.int 0))) lNil))) lNil)))) gNext) (gSeq (gNew 1 (fLst lNil)) (gSeq (gFor (iRange1 (sC (.int 3))) (tgN 2) (gSeq (gNew 3 (fLst lNil)) (gSeq (gFor (iRange1 (sC (.int 3))) (tgN 4) (gSeq (gAsg (sF (fLst (lCons (sBin oIx (sVar 0) (sBin oMod (sBin oAddP (sVar 4) (sC (.int 1))) (sC (.int 3)))) (lCons (sBin oIx (sVar 0) (sBin oMod (sBin oAddP (sVar 4) (sC (.int 2))) (sC (.int 3)))) lNil)))) (tgLst 2 (tgCons (tgN 5) (tgCons (tgN 6) tgNil)))) (gSeq (gPar 7 8 (lCons (sBin oMod (sBin oAddP (sVar 2) (sC (.int 1))) (sC (.int 3))) (lCons (sBin oMod (sBin oAddP (sVar 2) (sC (.int 2))) (sC (.int 3))) lNil))) (gApp 3 (sBin oSub (sBin oMulP (sBin oIx (sVar 5) (sVar 7)) (sBin oIx (sVar 6) (sVar 8))) (sBin oMulP (sBin oIx (sVar 5) (sVar 8)) (sBin oIx (sVar 6) (sVar 7)))))))) (gApp 1 (sUn oTuple (sVar 3)))))) (gRet (sUn oTuple (sVar 1)))))))
def f_turned_lines : Fs := fnS 9 1 g_turned_lines
abbrev st_inverse_in : Stmt := top 53
abbrev N_inverse_in : List Str := ["move", "sign", "lines", "line", "one"]
theorem sc_inverse_in : FnScope N_inverse_in ["move"] (defScope st_inverse_in) := ⟨rfl, rfl, rfl, by decide +kernel, rfl, by decide +kernel, by decide +kernel⟩
def g_inverse_in : SemS := (gSeq (gSet 1 (sCall f_determinant_in (lCons (sBin oIx (sVar 0) (sC (.int 0))) lNil))) (gSeq (gSet 2 (sUn oTuple (sF (fComp (iSeq (sCall f_turned_lines (lCons (sBin oIx (sVar 0) (sC (.int 0))) lNil))) (tgN 3) bYes (sUn oTuple (sF (fComp (iSeq (sVar 3)) (tgN 4) bYes (sBin oMulP (sVar 1) (sVar 4)) [4]))) [3])))) (gRet (sTup (lCons (sVar 2) (lCons (sUn oTuple (sF (fComp (iSeq (sCall f_led_by_lines (lCons (sVar 2) (lCons (sBin oIx (sVar 0) (sC (.int 1))) lNil)))) (tgN 4) bYes (sBin oSub (sC (.int 0)) (sVar 4)) [4]))) lNil))))))
def f_inverse_in : Fs := fnS 5 1 g_inverse_in
abbrev st_inverse_move : Stmt := top 59
abbrev N_inverse_move : List Str := ["move"]
theorem sc_inverse_move : FnScope N_inverse_move ["move"] (defScope st_inverse_move) := ⟨rfl, rfl, rfl, by decide +kernel, rfl, by decide +kernel, by decide +kernel⟩
def g_inverse_move : SemS := (gRet (sCall f_let_move (lCons (sCall f_inverse_in (lCons (sCall f_need_move (lCons (sVar 0) lNil)) lNil)) lNil)))
def f_inverse_move : Fs := fnS 1 1 g_inverse_move
abbrev st_move_sign : Stmt := top 60
abbrev N_move_sign : List Str := ["move"]
theorem sc_move_sign : FnScope N_move_sign ["move"] (defScope st_move_sign) := ⟨rfl, rfl, rfl, by decide +kernel, rfl, by decide +kernel, by decide +kernel⟩
def g_move_sign : SemS := (gRet (sCall f_determinant_in (lCons (sBin oIx (sCall f_need_move (lCons (sVar 0) lNil)) (sC (.int 0))) lNil)))
def f_move_sign : Fs := fnS 1 1 g_move_sign
abbrev st_checked_moved : Stmt := top 56
def f_checked_moved : Fs := fun _ _ => .no
abbrev st_need_body : Stmt := top 34
def f_need_body : Fs := fun _ _ => .no
abbrev st_moved_body : Stmt := top 57
abbrev N_moved_body : List Str := ["move", "body"]
theorem sc_moved_body : FnScope N_moved_body ["move", "body"] (defScope st_moved_body) := ⟨rfl, rfl, rfl, by decide +kernel, rfl, by decide +kernel, by decide +kernel⟩
def g_moved_body : SemS := (gSeq (gExpr (sCall f_need_move (lCons (sVar 0) lNil))) (gRet (sCall f_checked_moved (lCons (sVar 0) (lCons (sCall f_need_body (lCons (sVar 1) lNil)) lNil)))))
def f_moved_body : Fs := fnS 2 2 g_moved_body
abbrev st_plain_in : Stmt := top 49
abbrev N_plain_in : List Str := ["deep", "number", "place"]
theorem sc_plain_in : FnScope N_plain_in ["deep"] (defScope st_plain_in) := ⟨rfl, rfl, rfl, by decide +kernel, rfl, by decide +kernel, by decide +kernel⟩
def g_plain_in : SemS := (gRet (sTup (lCons (sUn oTuple (sF (fComp (iRange1 (sVar 0)) (tgN 1) bYes (sUn oTuple (sF (fComp (iRange1 (sVar 0)) (tgN 2) bYes (sUn oInt (sBin oEq (sVar 2) (sVar 1))) [2]))) [1]))) (lCons (sBin oMulP (sTup (lCons (sC (.int 0)) lNil)) (sVar 0)) lNil))))
def f_plain_in : Fs := fnS 3 1 g_plain_in
abbrev st_plain_move : Stmt := top 54
abbrev N_plain_move : List Str := ["axes"]
theorem sc_plain_move : FnScope N_plain_move ["axes"] (defScope st_plain_move) := ⟨rfl, rfl, rfl, by decide +kernel, rfl, by decide +kernel, by decide +kernel⟩
def g_plain_move : SemS := (gSeq (gIf (bNot (sT (sCall f_is_from (lCons (sVar 0) (lCons (sC (.int 1)) (lCons (sC (.int 3)) lNil)))))) (gRaise 0 "value" (sVar 0)) gNext) (gRet (sCall f_plain_in (lCons (sVar 0) lNil))))
def f_plain_move : Fs := fnS 1 1 g_plain_move
abbrev nDisp : Nat := 7
def disp : Nat → Fs
  | 0 => f_composed
  | 1 => f_moved_point
  | 2 => f_inverse_move
  | 3 => f_need_move
  | 4 => f_move_sign
  | 5 => f_moved_body
  | 6 => f_plain_move
  | _ => fun _ _ => .no
abbrev st__law_begun : Stmt := top 62
abbrev N__law_begun : List Str := ["script", "turn", "cells", "great", "seed", "cell"]
theorem sc__law_begun : FnScope N__law_begun ["script", "turn"] (defScope st__law_begun) := ⟨rfl, rfl, rfl, by decide +kernel, rfl, by decide +kernel, by decide +kernel⟩
def g__law_begun : SemS := (gSeq (gSet 2 (sBin oAddP (sSlP (sVar 0) (oYes (sVar 1)) oNo) (sSlP (sVar 0) oNo (oYes (sVar 1))))) (gSeq (gNew 3 (fComp (iSeq (sVar 0)) (tgN 5) (sT (sBin oGe (sVar 5) (sBin oPow (sC (.int 10)) (sC (.int 18))))) (sVar 5) [5])) (gSeq (gSet 4 (sBin oAddP (sC (.int 91)) (sVar 1))) (gSeq (gFor (iSeq (sVar 2)) (tgN 5) (gSet 4 (sBin oMod (sUn oInt (sBin oAddP (sBin oMulP (sVar 4) (sC (.int 48271))) (sVar 5))) (sC (.int 2147483647))))) (gRet (sDisp ["left", "seed", "cells", "spot"] (lCons (sIf (sT (sBin oLt (sVar 1) (sUn oLen (sVar 3)))) (sBin oIx (sVar 3) (sVar 1)) (sC (.int 0))) (lCons (sVar 4) (lCons (sBin oAddP (sVar 2) (sF (fLst (lCons (sBin oAddP (sBin oMulP (sC (.int 61)) (sVar 1)) (sC (.int 17))) lNil)))) (lCons (sC (.int 0)) lNil))))))))))
def f__law_begun : Fs := fnS 6 2 g__law_begun
abbrev st__law_draw : Stmt := top 63
abbrev N__law_draw : List Str := ["m", "span", "found", "spot", "cells", "extra", "cell", "blend"]
theorem sc__law_draw : FnScope N__law_draw ["m", "span"] (defScope st__law_draw) := ⟨rfl, rfl, rfl, by decide +kernel, rfl, by decide +kernel, by decide +kernel⟩
def g__law_draw : SemS := (gSeq (gIf (sT (sBin oGt (sUn (oDGet "left") (sVar 0)) (sC (.int 0)))) (gSeq (gSet 2 (sBin oMod (sUn oInt (sUn (oDGet "left") (sVar 0))) (sVar 1))) (gSeq (gPutD 0 "left" (sBin oDiv (sUn (oDGet "left") (sVar 0)) (sVar 1))) (gRet (sVar 2)))) gNext) (gSeq (gSet 3 (sUn (oDGet "spot") (sVar 0))) (gSeq (gPutD 0 "spot" (sBin oAddP (sVar 3) (sC (.int 1)))) (gSeq (gPar 4 5 (lCons (sUn (oDGet "cells") (sVar 0)) (lCons (sBin oAddP (sUn (oDGet "seed") (sVar 0)) (sBin oMulP (sBin oMulP (sC (.int 40503)) (sVar 3)) (sVar 3))) lNil))) (gSeq (gSet 6 (sBin oIx (sVar 4) (sBin oMod (sUn oInt (sVar 3)) (sUn oLen (sVar 4))))) (gSeq (gSet 7 (sBin oMod (sUn oInt (sBin oAddP (sBin oMulP (sVar 6) (sBin oAddP (sBin oMulP (sC (.int 2)) (sVar 3)) (sC (.int 3)))) (sVar 5))) (sC (.int 2147483647)))) (gSeq (gSet 7 (sBin oMod (sUn oInt (sBin oAddP (sBin oAddP (sBin oMulP (sVar 7) (sVar 7)) (sBin oMulP (sC (.int 69621)) (sVar 3))) (sUn (oDGet "seed") (sVar 0)))) (sC (.int 2147483629)))) (gRet (sBin oMod (sBin oDiv (sBin oMod (sUn oInt (sBin oAddP (sBin oMulP (sVar 7) (sC (.int 48271))) (sVar 3))) (sC (.int 2147483647))) (sC (.int 11))) (sVar 1))))))))))
def f__law_draw : Fs := fnS 8 2 g__law_draw
abbrev st__law_of : Stmt := top 64
abbrev N__law_of : List Str := ["m", "some"]
theorem sc__law_of : FnScope N__law_of ["m", "some"] (defScope st__law_of) := ⟨rfl, rfl, rfl, by decide +kernel, rfl, by decide +kernel, by decide +kernel⟩
def g__law_of : SemS := (gRet (sBin oIx (sVar 1) (sCall f__law_draw (lCons (sVar 0) (lCons (sUn oLen (sVar 1)) lNil)))))
def f__law_of : Fs := fnS 2 2 g__law_of
abbrev st__law_shuffled : Stmt := top 66
abbrev N__law_shuffled : List Str := ["m", "count", "left", "found", "turn", "one", "twin"]
theorem sc__law_shuffled : FnScope N__law_shuffled ["m", "count"] (defScope st__law_shuffled) := ⟨rfl, rfl, rfl, by decide +kernel, rfl, by decide +kernel, by decide +kernel⟩
def g__law_shuffled : SemS := (gSeq (gPar 2 3 (lCons (sF (fRange1 (sVar 1))) (lCons (sNew (fLst lNil)) lNil))) (gSeq (gFor (iRange1 (sVar 1)) (tgN 4) (gSeq (gSet 5 (sCall f__law_of (lCons (sVar 0) (lCons (sVar 2) lNil)))) (gSeq (gNew 2 (fComp (iSeq (sVar 2)) (tgN 6) (sT (sBin oNe (sVar 6) (sVar 5))) (sVar 6) [6])) (gApp 3 (sVar 5))))) (gRet (sUn oTuple (sVar 3)))))
def f__law_shuffled : Fs := fnS 7 2 g__law_shuffled
abbrev st__law_some_turn : Stmt := top 67
abbrev N__law_some_turn : List Str := ["m", "deep", "found", "again", "here", "there", "by", "k", "j", "one", "two"]
theorem sc__law_some_turn : FnScope N__law_some_turn ["m", "deep"] (defScope st__law_some_turn) := ⟨rfl, rfl, rfl, by decide +kernel, rfl, by decide +kernel, by decide +kernel⟩
def g__law_some_turn : SemS := (gSeq (gNew 2 (fComp (iRange1 (sVar 1)) (tgN 7) bYes (sF (fComp (iRange1 (sVar 1)) (tgN 8) bYes (sUn oInt (sBin oEq (sVar 7) (sVar 8))) [8])) [7])) (gSeq (gFor (iRange1 (sIf (sT (sBin oGt (sVar 1) (sC (.int 1)))) (sBin oMulP (sC (.int 2)) (sVar 1)) (sC (.int 0)))) (tgN 3) (gSeq (gPar 4 5 (lCons (sCall f__law_draw (lCons (sVar 0) (lCons (sVar 1) lNil))) (lCons (sCall f__law_draw (lCons (sVar 0) (lCons (sVar 1) lNil))) lNil))) (gIf (sT (sBin oNe (sVar 4) (sVar 5))) (gSeq (gSet 6 (sBin oSub (sCall f__law_draw (lCons (sVar 0) (lCons (sC (.int 3)) lNil))) (sC (.int 1)))) (gPutL 2 (sVar 4) (sF (fComp (EvL.iZip (sBin oIx (sVar 2) (sVar 4)) (sBin oIx (sVar 2) (sVar 5))) (tgTup 2 (tgCons (tgN 9) (tgCons (tgN 10) tgNil))) bYes (sBin oAddP (sVar 9) (sBin oMulP (sVar 6) (sVar 10))) [9, 10])))) gNext))) (gSeq (gNew 2 (fComp (iSeq (sCall f__law_shuffled (lCons (sVar 0) (lCons (sVar 1) lNil)))) (tgN 7) bYes (sBin oIx (sVar 2) (sVar 7)) [7])) (gSeq (gIf (sT (sBin oEq (sCall f__law_draw (lCons (sVar 0) (lCons (sC (.int 2)) lNil))) (sC (.int 0)))) (gPutL 2 (sC (.int 0)) (sF (fComp (iSeq (sBin oIx (sVar 2) (sC (.int 0)))) (tgN 9) bYes (sUn oNeg (sVar 9)) [9]))) gNext) (gRet (sUn oTuple (sF (fComp (iSeq (sVar 2)) (tgN 9) bYes (sUn oTuple (sVar 9)) [9]))))))))
def f__law_some_turn : Fs := fnS 11 2 g__law_some_turn
abbrev st__law_some_move : Stmt := top 73
abbrev N__law_some_move : List Str := ["m", "deep", "reach", "k"]
theorem sc__law_some_move : FnScope N__law_some_move ["m", "deep", "reach"] (defScope st__law_some_move) := ⟨rfl, rfl, rfl, by decide +kernel, rfl, by decide +kernel, by decide +kernel⟩
def g__law_some_move : SemS := (gRet (sTup (lCons (sCall f__law_some_turn (lCons (sVar 0) (lCons (sVar 1) lNil))) (lCons (sUn oTuple (sF (fComp (iRange1 (sVar 1)) (tgN 3) bYes (sBin oSub (sCall f__law_draw (lCons (sVar 0) (lCons (sBin oAddP (sBin oMulP (sC (.int 2)) (sVar 2)) (sC (.int 1))) lNil))) (sVar 2)) [3]))) lNil))))
def f__law_some_move : Fs := fnS 4 3 g__law_some_move
abbrev st__law_moved : Stmt := top 68
abbrev N__law_moved : List Str := ["point_so", "turn_so", "shift_so", "line_so", "k", "one", "two"]
theorem sc__law_moved : FnScope N__law_moved ["point_so", "turn_so", "shift_so"] (defScope st__law_moved) := ⟨rfl, rfl, rfl, by decide +kernel, rfl, by decide +kernel, by decide +kernel⟩
def g__law_moved : SemS := (gRet (sUn oTuple (sF (fComp (EvL.iZip (sVar 1) (sVar 2)) (tgTup 2 (tgCons (tgN 3) (tgCons (tgN 4) tgNil))) bYes (sBin oAddP (sUn oSum (sF (fComp (EvL.iZip (sVar 3) (sVar 0)) (tgTup 2 (tgCons (tgN 5) (tgCons (tgN 6) tgNil))) bYes (sBin oMulP (sVar 5) (sVar 6)) [5, 6]))) (sVar 4)) [3, 4]))))
def f__law_moved : Fs := fnS 7 3 g__law_moved
abbrev st__law_called : Stmt := top 69
abbrev N__law_called : List Str := ["call", "things"]
theorem sc__law_called : FnScope N__law_called ["call", "things"] (defScope st__law_called) := ⟨rfl, rfl, rfl, by decide +kernel, rfl, by decide +kernel, by decide +kernel⟩
def g__law_called : SemS := (gSeq (gIf (sT (sBin oEq (sUn oLen (sVar 1)) (sC (.int 1)))) (gRet (sCallL 0 nDisp disp (lCons (sBin oIx (sVar 1) (sC (.int 0))) lNil))) gNext) (gSeq (gIf (sT (sBin oEq (sUn oLen (sVar 1)) (sC (.int 2)))) (gRet (sCallL 0 nDisp disp (lCons (sBin oIx (sVar 1) (sC (.int 0))) (lCons (sBin oIx (sVar 1) (sC (.int 1))) lNil)))) gNext) (gRet (sCallL 0 nDisp disp (lCons (sBin oIx (sVar 1) (sC (.int 0))) (lCons (sBin oIx (sVar 1) (sC (.int 1))) (lCons (sBin oIx (sVar 1) (sC (.int 2))) lNil)))))))
def f__law_called : Fs := fnS 2 2 g__law_called
abbrev st__law_heard : Stmt := top 74
abbrev N__law_heard : List Str := ["call", "things", "error"]
theorem sc__law_heard : FnScope N__law_heard ["call", "things"] (defScope st__law_heard) := ⟨rfl, rfl, rfl, by decide +kernel, rfl, by decide +kernel, by decide +kernel⟩
def g__law_heard : SemS := (gTry nCls subC (gRet (sF (fLst (lCons (sCall f__law_called (lCons (sVar 0) (lCons (sVar 1) lNil))) lNil)))) [(3, .fld 2 "move" "path"), (1, .fld 2 "point" "value"), (0, .fld 2 "number" "value"), (4, .fld 2 "great" "most"), (5, .sts (gRet (sTup (lCons (sC (.str "unlike")) (lCons (sC (.int 0)) lNil)))))])
def f__law_heard : Fs := fnS 3 2 g__law_heard
abbrev st__law_like : Stmt := top 65
abbrev N__law_like : List Str := ["told", "due"]
theorem sc__law_like : FnScope N__law_like ["told", "due"] (defScope st__law_like) := ⟨rfl, rfl, rfl, by decide +kernel, rfl, by decide +kernel, by decide +kernel⟩
def g__law_like : SemS := (gRet (sAnd (sBin oEq (sVar 0) (sVar 1)) (sBin oEqS (sUn oRepr (sVar 0)) (sUn oRepr (sVar 1)))))
def f__law_like : Fs := fnS 2 2 g__law_like
abbrev st__law_det : Stmt := top 72
abbrev N__law_det : List Str := ["lines_so", "found", "k", "one", "rest", "line", "j", "two"]
theorem sc__law_det : FnScope N__law_det ["lines_so"] (defScope st__law_det) := ⟨rfl, rfl, rfl, by decide +kernel, rfl, by decide +kernel, by decide +kernel⟩
def g__law_det (self : Fs) : SemS := (gSeq (gIf (sT (sBin oEq (sUn oLen (sVar 0)) (sC (.int 1)))) (gRet (sBin oIx (sBin oIx (sVar 0) (sC (.int 0))) (sC (.int 0)))) gNext) (gSeq (gSet 1 (sC (.int 0))) (gSeq (gFor (iEnumS (sBin oIx (sVar 0) (sC (.int 0)))) (tgTup 2 (tgCons (tgN 2) (tgCons (tgN 3) tgNil))) (gSeq (gNew 4 (fComp (iSeq (sSlP (sVar 0) (oYes (sC (.int 1))) oNo)) (tgN 5) bYes (sUn oTuple (sF (fComp (iEnumS (sVar 5)) (tgTup 2 (tgCons (tgN 6) (tgCons (tgN 7) tgNil))) (sT (sBin oNe (sVar 6) (sVar 2))) (sVar 7) [6, 7]))) [5])) (gSet 1 (sBin oAddP (sVar 1) (sBin oMulP (sIf (sT (sBin oEq (sBin oMod (sVar 2) (sC (.int 2))) (sC (.int 0)))) (sVar 3) (sUn oNeg (sVar 3))) (sCall self (lCons (sVar 4) lNil))))))) (gRet (sVar 1)))))
def f__law_det : Nat → Fs
  | 0 => fun _ _ => .no
  | k + 1 => fnS 8 1 (g__law_det (f__law_det k))
abbrev fuel__law_det : Nat := 4
abbrev st__law_two_right : Stmt := top 78
abbrev N__law_two_right : List Str := ["m", "one", "two", "spot", "deep", "lines_so", "both", "most", "told", "there", "back", "plain", "k", "j", "i", "line", "a"]
theorem sc__law_two_right : FnScope N__law_two_right ["m", "one", "two", "spot"] (defScope st__law_two_right) := ⟨rfl, rfl, rfl, by decide +kernel, rfl, by decide +kernel, by decide +kernel⟩
def g__law_two_right : SemS := (gSeq (gSet 4 (sUn oLen (sVar 3))) (gSeq (gSet 5 (sUn oTuple (sF (fComp (iRange1 (sVar 4)) (tgN 12) bYes (sUn oTuple (sF (fComp (iRange1 (sVar 4)) (tgN 13) bYes (sUn oSum (sF (fComp (iRange1 (sVar 4)) (tgN 14) bYes (sBin oMulP (sBin oIx (sBin oIx (sBin oIx (sVar 2) (sC (.int 0))) (sVar 12)) (sVar 14)) (sBin oIx (sBin oIx (sBin oIx (sVar 1) (sC (.int 0))) (sVar 14)) (sVar 13))) [14]))) [13]))) [12])))) (gSeq (gSet 6 (sTup (lCons (sVar 5) (lCons (sCall f__law_moved (lCons (sBin oIx (sVar 1) (sC (.int 1))) (lCons (sBin oIx (sVar 2) (sC (.int 0))) (lCons (sBin oIx (sVar 2) (sC (.int 1))) lNil)))) lNil)))) (gSeq (gSet 7 (sUn oMax (sF (fComp (iSeq (sBin oAddP (sVar 5) (sTup (lCons (sBin oIx (sVar 6) (sC (.int 1))) lNil)))) (tgN 15) bYes (sUn oMax (sF (fComp (iSeq (sVar 15)) (tgN 16) bYes (sUn oAbs (sVar 16)) [16]))) [15])))) (gSeq (gSet 8 (sCall f__law_heard (lCons (sC (.fn 0)) (lCons (sTup (lCons (sVar 1) (lCons (sVar 2) lNil))) lNil)))) (gSeq (gIf (bNot (sT (sCall f__law_like (lCons (sVar 8) (lCons (sIf (sT (sBin oLe (sVar 7) (sC (.int 1000)))) (sF (fLst (lCons (sVar 6) lNil))) (sTup (lCons (sC (.str "great")) (lCons (sC (.int 1000)) lNil)))) lNil))))) (gRet (sC (.bl false))) gNext) (gSeq (gSet 9 (sCall f__law_moved (lCons (sVar 3) (lCons (sBin oIx (sVar 1) (sC (.int 0))) (lCons (sBin oIx (sVar 1) (sC (.int 1))) lNil))))) (gSeq (gIf (bNot (sT (sCall f__law_like (lCons (sCall f__law_heard (lCons (sC (.fn 1)) (lCons (sTup (lCons (sVar 1) (lCons (sVar 3) lNil))) lNil))) (lCons (sIf (sT (sBin oLe (sUn oMax (sF (fComp (iSeq (sVar 9)) (tgN 16) bYes (sUn oAbs (sVar 16)) [16]))) (sC (.int 1000)))) (sF (fLst (lCons (sVar 9) lNil))) (sTup (lCons (sC (.str "great")) (lCons (sC (.int 1000)) lNil)))) lNil))))) (gRet (sC (.bl false))) gNext) (gSeq (gIf (bNot (sT (sCall f__law_like (lCons (sCall f_move_sign (lCons (sVar 1) lNil)) (lCons (sCall (f__law_det fuel__law_det) (lCons (sBin oIx (sVar 1) (sC (.int 0))) lNil)) lNil))))) (gRet (sC (.bl false))) gNext) (gSeq (gSet 10 (sCall f__law_heard (lCons (sC (.fn 2)) (lCons (sTup (lCons (sVar 1) lNil)) lNil)))) (gSeq (gIf (bNot (sT (sUn (oIs "list") (sVar 10)))) (gRet (sAnd (sBin oEq (sVar 10) (sTup (lCons (sC (.str "great")) (lCons (sC (.int 1000)) lNil)))) (sBin oGt (sVar 4) (sC (.int 1))))) gNext) (gSeq (gSet 11 (sTup (lCons (sUn oTuple (sF (fComp (iRange1 (sVar 4)) (tgN 12) bYes (sUn oTuple (sF (fComp (iRange1 (sVar 4)) (tgN 13) bYes (sUn oInt (sBin oEq (sVar 12) (sVar 13))) [13]))) [12]))) (lCons (sBin oMulP (sTup (lCons (sC (.int 0)) lNil)) (sVar 4)) lNil)))) (gRet (sCall f__law_like (lCons (sF (fLst (lCons (sCall f_composed (lCons (sVar 1) (lCons (sBin oIx (sVar 10) (sC (.int 0))) lNil))) (lCons (sCall f_composed (lCons (sBin oIx (sVar 10) (sC (.int 0))) (lCons (sVar 1) lNil))) (lCons (sCall f_plain_move (lCons (sVar 4) lNil)) lNil))))) (lCons (sBin oMulP (sF (fLst (lCons (sVar 11) lNil))) (sC (.int 3))) lNil))))))))))))))))
def f__law_two_right : Fs := fnS 17 4 g__law_two_right
abbrev st__law_is_from : Stmt := top 70
abbrev N__law_is_from : List Str := ["thing", "low", "high"]
theorem sc__law_is_from : FnScope N__law_is_from ["thing", "low", "high"] (defScope st__law_is_from) := ⟨rfl, rfl, rfl, by decide +kernel, rfl, by decide +kernel, by decide +kernel⟩
def g__law_is_from : SemS := (gRet (sAnd (sUn (oIs "int") (sVar 0)) (sAnd (sNot (sUn (oIs "bool") (sVar 0))) (sChain oLe oLe (sVar 1) (sVar 0) (sVar 2)))))
def f__law_is_from : Fs := fnS 3 3 g__law_is_from
abbrev st__law_is_spot : Stmt := top 71
abbrev N__law_is_spot : List Str := ["deep", "thing", "one"]
theorem sc__law_is_spot : FnScope N__law_is_spot ["deep", "thing"] (defScope st__law_is_spot) := ⟨rfl, rfl, rfl, by decide +kernel, rfl, by decide +kernel, by decide +kernel⟩
def g__law_is_spot : SemS := (gSeq (gIf (bOr (bNot (sT (sUn (oIs "tuple") (sVar 1)))) (sT (sBin oNe (sUn oLen (sVar 1)) (sVar 0)))) (gRet (sC (.bl false))) gNext) (gRet (sBin oEq (sF (fComp (iSeq (sVar 1)) (tgN 2) (bNot (sT (sCall f__law_is_from (lCons (sVar 2) (lCons (sUn oNeg (sC (.int 1000))) (lCons (sC (.int 1000)) lNil)))))) (sC (.int 1)) [2])) (sF (fLst lNil)))))
def f__law_is_spot : Fs := fnS 3 2 g__law_is_spot
abbrev st__law_fault : Stmt := top 75
abbrev N__law_fault : List Str := ["thing", "lines_so", "k", "line", "j", "one"]
theorem sc__law_fault : FnScope N__law_fault ["thing"] (defScope st__law_fault) := ⟨rfl, rfl, rfl, by decide +kernel, rfl, by decide +kernel, by decide +kernel⟩
def g__law_fault : SemS := (gSeq (gIf (bOr (bNot (sT (sUn (oIs "tuple") (sVar 0)))) (sT (sBin oNe (sUn oLen (sVar 0)) (sC (.int 2))))) (gRet (sTup lNil)) gNext) (gSeq (gSet 1 (sBin oIx (sVar 0) (sC (.int 0)))) (gSeq (gIf (bOr (bNot (sT (sUn (oIs "tuple") (sVar 1)))) (bNot (sT (sChain oLe oLe (sC (.int 1)) (sUn oLen (sVar 1)) (sC (.int 3)))))) (gRet (sTup (lCons (sC (.int 0)) lNil))) gNext) (gSeq (gFor (iEnumS (sVar 1)) (tgTup 2 (tgCons (tgN 2) (tgCons (tgN 3) tgNil))) (gSeq (gIf (bOr (bNot (sT (sUn (oIs "tuple") (sVar 3)))) (sT (sBin oNe (sUn oLen (sVar 3)) (sUn oLen (sVar 1))))) (gRet (sTup (lCons (sC (.int 0)) (lCons (sVar 2) lNil)))) gNext) (gFor (iEnumS (sVar 3)) (tgTup 2 (tgCons (tgN 4) (tgCons (tgN 5) tgNil))) (gIf (bNot (sT (sCall f__law_is_from (lCons (sVar 5) (lCons (sUn oNeg (sC (.int 1000))) (lCons (sC (.int 1000)) lNil)))))) (gRet (sTup (lCons (sC (.int 0)) (lCons (sVar 2) (lCons (sVar 4) lNil))))) gNext)))) (gSeq (gIf (sT (sBin oNe (sUn oAbs (sCall (f__law_det fuel__law_det) (lCons (sVar 1) lNil))) (sC (.int 1)))) (gRet (sTup (lCons (sC (.int 0)) lNil))) gNext) (gRet (sIf (sT (sCall f__law_is_spot (lCons (sUn oLen (sVar 1)) (lCons (sBin oIx (sVar 0) (sC (.int 1))) lNil)))) (sC .non) (sTup (lCons (sC (.int 1)) lNil)))))))))
def f__law_fault : Fs := fnS 6 1 g__law_fault
abbrev st__law_judged_right : Stmt := top 77
abbrev N__law_judged_right : List Str := ["thing", "fault", "told", "right", "call", "one"]
theorem sc__law_judged_right : FnScope N__law_judged_right ["thing"] (defScope st__law_judged_right) := ⟨rfl, rfl, rfl, by decide +kernel, rfl, by decide +kernel, by decide +kernel⟩
def g__law_judged_right : SemS := (gSeq (gSet 1 (sCall f__law_fault (lCons (sVar 0) lNil))) (gSeq (gIf (sT (sBin oIsN (sVar 1) (sC .non))) (gRet (sCall f__law_like (lCons (sCall f_need_move (lCons (sVar 0) lNil)) (lCons (sVar 0) lNil)))) gNext) (gSeq (gNew 2 (fComp (iSeq (sTup (lCons (sC (.fn 3)) (lCons (sC (.fn 2)) (lCons (sC (.fn 4)) lNil))))) (tgN 4) bYes (sCall f__law_heard (lCons (sVar 4) (lCons (sTup (lCons (sVar 0) lNil)) lNil))) [4])) (gSeq (gSet 2 (sBin oAddP (sVar 2) (sF (fComp (iSeq (sTup (lCons (sC (.fn 1)) (lCons (sC (.fn 5)) (lCons (sC (.fn 0)) lNil))))) (tgN 4) bYes (sCall f__law_heard (lCons (sVar 4) (lCons (sTup (lCons (sVar 0) (lCons (sC .non) lNil))) lNil))) [4])))) (gSeq (gSet 3 (sTup (lCons (sTup (lCons (sTup (lCons (sTup (lCons (sC (.int 1)) lNil)) lNil)) (lCons (sTup (lCons (sC (.int 0)) lNil)) lNil))) (lCons (sTup (lCons (sTup (lCons (sTup (lCons (sC (.int 1)) (lCons (sC (.int 0)) lNil))) (lCons (sTup (lCons (sC (.int 0)) (lCons (sC (.int 1)) lNil))) lNil))) (lCons (sTup (lCons (sC (.int 0)) (lCons (sC (.int 0)) lNil))) lNil))) lNil)))) (gSeq (gSet 2 (sBin oAddP (sVar 2) (sF (fComp (iSeq (sVar 3)) (tgN 5) bYes (sCall f__law_heard (lCons (sC (.fn 0)) (lCons (sTup (lCons (sVar 5) (lCons (sVar 0) lNil))) lNil))) [5])))) (gRet (sCall f__law_like (lCons (sVar 2) (lCons (sBin oMulP (sF (fLst (lCons (sTup (lCons (sC (.str "move")) (lCons (sVar 1) lNil))) lNil))) (sC (.int 8))) lNil))))))))))
def f__law_judged_right : Fs := fnS 6 1 g__law_judged_right
abbrev st__law_bent : Stmt := top 76
abbrev N__law_bent : List Str := ["m", "thing", "lines_so", "by", "deep", "some", "k", "j", "odd", "line", "rest", "bent", "lists"]
theorem sc__law_bent : FnScope N__law_bent ["m", "thing"] (defScope st__law_bent) := ⟨rfl, rfl, rfl, by decide +kernel, rfl, by decide +kernel, by decide +kernel⟩
def g__law_bent : SemS := (gSeq (gAsg (sVar 1) (tgTup 2 (tgCons (tgN 2) (tgCons (tgN 3) tgNil)))) (gSeq (gSet 4 (sUn oLen (sVar 3))) (gSeq (gSet 5 (sF (fLst (lCons (sC .non) (lCons (sTup (lCons (sVar 2) lNil)) (lCons (sF (fLst (lCons (sVar 2) (lCons (sVar 3) lNil)))) (lCons (sTup (lCons (sVar 2) (lCons (sVar 3) (lCons (sC (.int 0)) lNil)))) (lCons (sTup (lCons (sF (fUn oList (sVar 2))) (lCons (sVar 3) lNil))) (lCons (sTup (lCons (sBin oAddP (sVar 2) (sSlP (sVar 2) oNo (oYes (sC (.int 1))))) (lCons (sVar 3) lNil))) (lCons (sTup (lCons (sVar 2) (lCons (sBin oAddP (sVar 3) (sTup (lCons (sC (.int 0)) lNil))) lNil))) (lCons (sTup (lCons (sVar 2) (lCons (sF (fUn oList (sVar 3))) lNil))) lNil))))))))))) (gSeq (gSet 5 (sBin oAddP (sVar 5) (sF (fLst (lCons (sTup (lCons (sTup lNil) (lCons (sTup lNil) lNil))) (lCons (sTup (lCons (sVar 2) (lCons (sC .non) lNil))) (lCons (sTup (lCons (sVar 2) (lCons (sBin oMulP (sTup (lCons (sC (.int 1001)) lNil)) (sVar 4)) lNil))) (lCons (sTup (lCons (sVar 2) (lCons (sBin oMulP (sTup (lCons (sC (.bl true)) lNil)) (sVar 4)) lNil))) (lCons (sTup (lCons (sBin oMulP (sTup (lCons (sBin oMulP (sTup (lCons (sC (.int 0)) lNil)) (sVar 4)) lNil)) (sVar 4)) (lCons (sC .non) lNil))) (lCons (sTup (lCons (sBin oMulP (sSlP (sVar 2) oNo (oYes (sC (.int 1)))) (sC (.int 4))) (lCons (sVar 3) lNil))) lNil)))))))))) (gSeq (gPar 6 7 (lCons (sCall f__law_draw (lCons (sVar 0) (lCons (sVar 4) lNil))) (lCons (sCall f__law_draw (lCons (sVar 0) (lCons (sVar 4) lNil))) lNil))) (gSeq (gSet 8 (sCall f__law_of (lCons (sVar 0) (lCons (sF (fLst (lCons (sC (.int 1001)) (lCons (sUn oNeg (sC (.int 1001))) (lCons (sC .non) (lCons (sC (.bl true)) (lCons (sC (.str "1")) (lCons (sTup (lCons (sC (.int 1)) lNil)) (lCons (sBin oAddP (sBin oIx (sBin oIx (sVar 2) (sVar 6)) (sVar 7)) (sC (.int 1))) (lCons (sC (.int 2)) lNil)))))))))) lNil)))) (gSeq (gPar 9 10 (lCons (sBin oIx (sVar 2) (sVar 6)) (lCons (sSlP (sVar 2) (oYes (sBin oAddP (sVar 6) (sC (.int 1)))) oNo) lNil))) (gSeq (gSet 11 (sBin oAddP (sBin oAddP (sSlP (sVar 2) oNo (oYes (sVar 6))) (sTup (lCons (sBin oAddP (sBin oAddP (sSlP (sVar 9) oNo (oYes (sVar 7))) (sTup (lCons (sVar 8) lNil))) (sSlP (sVar 9) (oYes (sBin oAddP (sVar 7) (sC (.int 1)))) oNo)) lNil))) (sVar 10))) (gSeq (gSet 12 (sBin oAddP (sBin oAddP (sSlP (sVar 2) oNo (oYes (sVar 6))) (sTup (lCons (sCall f__law_of (lCons (sVar 0) (lCons (sF (fLst (lCons (sC .non) (lCons (sBin oAddP (sVar 9) (sTup (lCons (sC (.int 0)) lNil))) (lCons (sF (fUn oList (sVar 9))) (lCons (sTup lNil) lNil)))))) lNil))) lNil))) (sVar 10))) (gRet (sCall f__law_of (lCons (sVar 0) (lCons (sBin oAddP (sBin oAddP (sBin oAddP (sVar 5) (sBin oMulP (sF (fLst (lCons (sTup (lCons (sVar 11) (lCons (sVar 3) lNil))) lNil))) (sC (.int 6)))) (sBin oMulP (sF (fLst (lCons (sTup (lCons (sVar 12) (lCons (sVar 3) lNil))) lNil))) (sC (.int 2)))) (sF (fLst (lCons (sTup (lCons (sVar 11) (lCons (sC .non) lNil))) (lCons (sTup (lCons (sVar 12) (lCons (sC (.int 0)) lNil))) lNil))))) lNil)))))))))))))
def f__law_bent : Fs := fnS 13 2 g__law_bent
abbrev st_law : Stmt := top 79
abbrev N_law : List Str := ["script", "turn", "m", "deep", "one", "two", "spot", "again", "odd", "other", "great", "told", "due", "k"]
theorem sc_law : FnScope N_law ["script"] (defScope st_law) := ⟨rfl, rfl, rfl, by decide +kernel, rfl, by decide +kernel, by decide +kernel⟩
def g_law : SemS := (gSeq (gFor (iRange1 (sBin oAddP (sC (.int 2)) (sTwo (fun i j => if j < i then j else i) (sC (.int 2)) (sUn oLen (sVar 0))))) (tgN 1) (gSeq (gSet 2 (sCall f__law_begun (lCons (sVar 0) (lCons (sVar 1) lNil)))) (gSeq (gSet 3 (sBin oAddP (sC (.int 1)) (sCall f__law_draw (lCons (sVar 2) (lCons (sC (.int 3)) lNil))))) (gSeq (gPar 4 5 (lCons (sCall f__law_some_move (lCons (sVar 2) (lCons (sVar 3) (lCons (sCall f__law_of (lCons (sVar 2) (lCons (sF (fLst (lCons (sC (.int 3)) (lCons (sC (.int 1000)) lNil)))) lNil))) lNil)))) (lCons (sCall f__law_some_move (lCons (sVar 2) (lCons (sVar 3) (lCons (sCall f__law_of (lCons (sVar 2) (lCons (sF (fLst (lCons (sC (.int 3)) (lCons (sC (.int 1000)) lNil)))) lNil))) lNil)))) lNil))) (gSeq (gSet 6 (sUn oTuple (sF (fComp (iRange1 (sVar 3)) (tgN 13) bYes (sBin oSub (sCall f__law_draw (lCons (sVar 2) (lCons (sC (.int 2001)) lNil))) (sC (.int 1000))) [13])))) (gSeq (gIf (bOr (bNot (sT (sCall f__law_two_right (lCons (sVar 2) (lCons (sVar 4) (lCons (sVar 5) (lCons (sVar 6) lNil))))))) (bNot (sT (sCall f__law_two_right (lCons (sVar 2) (lCons (sVar 5) (lCons (sVar 4) (lCons (sBin oMulP (sTup (lCons (sC (.int 0)) lNil)) (sVar 3)) lNil)))))))) (gRet (sC (.bl false))) gNext) (gSeq (gFor (iRange1 (sC (.int 5))) (tgN 7) (gIf (bNot (sT (sCall f__law_judged_right (lCons (sCall f__law_bent (lCons (sVar 2) (lCons (sVar 4) lNil))) lNil)))) (gRet (sC (.bl false))) gNext)) (gSeq (gFor (iSeq (sTup (lCons (sC .non) (lCons (sTup lNil) (lCons (sBin oMulP (sTup (lCons (sC (.int 1001)) lNil)) (sVar 3)) (lCons (sBin oMulP (sF (fLst (lCons (sC (.int 0)) lNil))) (sVar 3)) (lCons (sBin oMulP (sTup (lCons (sC (.bl true)) lNil)) (sVar 3)) (lCons (sBin oMulP (sTup (lCons (sC (.int 0)) lNil)) (sC (.int 4))) (lCons (sC (.int 5)) (lCons (sC (.str "1")) lNil)))))))))) (tgN 8) (gIf (bNot (sT (sCall f__law_like (lCons (sCall f__law_heard (lCons (sC (.fn 1)) (lCons (sTup (lCons (sVar 4) (lCons (sVar 8) lNil))) lNil))) (lCons (sTup (lCons (sC (.str "point")) (lCons (sVar 8) lNil))) lNil))))) (gRet (sC (.bl false))) gNext)) (gSeq (gIf (bNot (sT (sCall f__law_like (lCons (sCall f__law_heard (lCons (sC (.fn 1)) (lCons (sTup (lCons (sVar 4) (lCons (sBin oMulP (sTup (lCons (sC (.int 0)) lNil)) (sBin oAddP (sBin oMod (sVar 3) (sC (.int 3))) (sC (.int 1)))) lNil))) lNil))) (lCons (sTup (lCons (sC (.str "unlike")) (lCons (sC (.int 0)) lNil))) lNil))))) (gRet (sC (.bl false))) gNext) (gSeq (gSet 9 (sCall f__law_some_move (lCons (sVar 2) (lCons (sBin oAddP (sBin oMod (sVar 3) (sC (.int 3))) (sC (.int 1))) (lCons (sC (.int 2)) lNil))))) (gIf (bNot (sT (sCall f__law_like (lCons (sCall f__law_heard (lCons (sC (.fn 0)) (lCons (sTup (lCons (sVar 4) (lCons (sVar 9) lNil))) lNil))) (lCons (sTup (lCons (sC (.str "unlike")) (lCons (sC (.int 0)) lNil))) lNil))))) (gRet (sC (.bl false))) gNext))))))))))) (gSeq (gSet 10 (sTup (lCons (sTup (lCons (sTup (lCons (sC (.int 1)) (lCons (sC (.int 1000)) lNil))) (lCons (sTup (lCons (sC (.int 0)) (lCons (sC (.int 1)) lNil))) lNil))) (lCons (sTup (lCons (sC (.int 1000)) (lCons (sUn oNeg (sC (.int 1000))) lNil))) lNil)))) (gSeq (gNew 11 (fLst (lCons (sCall f_need_move (lCons (sVar 10) lNil)) (lCons (sCall f_inverse_move (lCons (sTup (lCons (sTup (lCons (sTup (lCons (sC (.int 1)) (lCons (sC (.int 1000)) lNil))) (lCons (sTup (lCons (sC (.int 0)) (lCons (sC (.int 1)) lNil))) lNil))) (lCons (sTup (lCons (sC (.int 0)) (lCons (sC (.int 0)) lNil))) lNil))) lNil)) (lCons (sCall f__law_heard (lCons (sC (.fn 2)) (lCons (sTup (lCons (sVar 10) lNil)) lNil))) (lCons (sCall f__law_heard (lCons (sC (.fn 0)) (lCons (sTup (lCons (sVar 10) (lCons (sVar 10) lNil))) lNil))) lNil)))))) (gSeq (gNew 12 (fLst (lCons (sVar 10) (lCons (sTup (lCons (sTup (lCons (sTup (lCons (sC (.int 1)) (lCons (sUn oNeg (sC (.int 1000))) lNil))) (lCons (sTup (lCons (sC (.int 0)) (lCons (sC (.int 1)) lNil))) lNil))) (lCons (sTup (lCons (sC (.int 0)) (lCons (sC (.int 0)) lNil))) lNil))) (lCons (sTup (lCons (sC (.str "great")) (lCons (sC (.int 1000)) lNil))) (lCons (sTup (lCons (sC (.str "great")) (lCons (sC (.int 1000)) lNil))) lNil)))))) (gSeq (gNew 11 (fBin oCatL (sVar 11) (sF (fLst (lCons (sCall f_moved_point (lCons (sTup (lCons (sTup (lCons (sTup (lCons (sUn oNeg (sC (.int 1))) lNil)) lNil)) (lCons (sTup (lCons (sC (.int 500)) lNil)) lNil))) (lCons (sTup (lCons (sUn oNeg (sC (.int 500))) lNil)) lNil))) (lCons (sCall f__law_heard (lCons (sC (.fn 1)) (lCons (sTup (lCons (sTup (lCons (sTup (lCons (sTup (lCons (sUn oNeg (sC (.int 1))) lNil)) lNil)) (lCons (sTup (lCons (sC (.int 500)) lNil)) lNil))) (lCons (sTup (lCons (sUn oNeg (sC (.int 501))) lNil)) lNil))) lNil))) lNil)))))) (gSeq (gNew 12 (fBin oCatL (sVar 12) (sF (fLst (lCons (sTup (lCons (sC (.int 1000)) lNil)) (lCons (sTup (lCons (sC (.str "great")) (lCons (sC (.int 1000)) lNil))) lNil)))))) (gSeq (gFor (iSeq (sTup (lCons (sC (.int 0)) (lCons (sC (.int 4)) (lCons (sC .non) (lCons (sC (.bl true)) (lCons (sC (.str "2")) (lCons (sTup (lCons (sC (.int 2)) lNil)) lNil)))))))) (tgN 8) (gSeq (gApp 11 (sCall f__law_heard (lCons (sC (.fn 6)) (lCons (sTup (lCons (sVar 8) lNil)) lNil)))) (gApp 12 (sTup (lCons (sC (.str "number")) (lCons (sVar 8) lNil)))))) (gRet (sCall f__law_like (lCons (sVar 11) (lCons (sVar 12) lNil)))))))))))
def f_law : Fs := fnS 14 1 g_law
structure Ds (K : PySem.W.Frag) (mg : Str → Option Value) : Prop where
  d_is_integer : Dt K mg "is_integer" st_is_integer ["value"]
  d_is_from : Dt K mg "is_from" st_is_from ["value", "least", "most"]
  d_determinant_in : Dt K mg "determinant_in" st_determinant_in ["lines"]
  d_lines_fault : Dt K mg "lines_fault" st_lines_fault ["value"]
  d_is_point : Dt K mg "is_point" st_is_point ["axes", "value"]
  d_move_fault : Dt K mg "move_fault" st_move_fault ["value"]
  d_need_move : Dt K mg "need_move" st_need_move ["move"]
  d_let_rows : Dt K mg "let_rows" st_let_rows ["rows"]
  d_let_move : Dt K mg "let_move" st_let_move ["move"]
  d_times_lines : Dt K mg "times_lines" st_times_lines ["lines", "far_lines"]
  d_plus_point : Dt K mg "plus_point" st_plus_point ["point", "other"]
  d_led_by_lines : Dt K mg "led_by_lines" st_led_by_lines ["lines", "row"]
  d_moved_point_in : Dt K mg "moved_point_in" st_moved_point_in ["move", "point"]
  d_composed_in : Dt K mg "composed_in" st_composed_in ["move", "far_move"]
  d_composed : Dt K mg "composed" st_composed ["move", "far_move"]
  d_is_any_point : Dt K mg "is_any_point" st_is_any_point ["value"]
  d_moved_point : Dt K mg "moved_point" st_moved_point ["move", "point"]
  d_turned_lines : Dt K mg "turned_lines" st_turned_lines ["lines"]
  d_inverse_in : Dt K mg "inverse_in" st_inverse_in ["move"]
  d_inverse_move : Dt K mg "inverse_move" st_inverse_move ["move"]
  d_move_sign : Dt K mg "move_sign" st_move_sign ["move"]
  d_checked_moved : Dt K mg "checked_moved" st_checked_moved ["move", "body"]
  d_need_body : Dt K mg "need_body" st_need_body ["body"]
  d_moved_body : Dt K mg "moved_body" st_moved_body ["move", "body"]
  d_plain_in : Dt K mg "plain_in" st_plain_in ["deep"]
  d_plain_move : Dt K mg "plain_move" st_plain_move ["axes"]
  d__law_begun : Dt K mg "_law_begun" st__law_begun ["script", "turn"]
  d__law_draw : Dt K mg "_law_draw" st__law_draw ["m", "span"]
  d__law_of : Dt K mg "_law_of" st__law_of ["m", "some"]
  d__law_shuffled : Dt K mg "_law_shuffled" st__law_shuffled ["m", "count"]
  d__law_some_turn : Dt K mg "_law_some_turn" st__law_some_turn ["m", "deep"]
  d__law_some_move : Dt K mg "_law_some_move" st__law_some_move ["m", "deep", "reach"]
  d__law_moved : Dt K mg "_law_moved" st__law_moved ["point_so", "turn_so", "shift_so"]
  d__law_called : Dt K mg "_law_called" st__law_called ["call", "things"]
  d__law_heard : Dt K mg "_law_heard" st__law_heard ["call", "things"]
  d__law_like : Dt K mg "_law_like" st__law_like ["told", "due"]
  d__law_det : Dt K mg "_law_det" st__law_det ["lines_so"]
  d__law_two_right : Dt K mg "_law_two_right" st__law_two_right ["m", "one", "two", "spot"]
  d__law_is_from : Dt K mg "_law_is_from" st__law_is_from ["thing", "low", "high"]
  d__law_is_spot : Dt K mg "_law_is_spot" st__law_is_spot ["deep", "thing"]
  d__law_fault : Dt K mg "_law_fault" st__law_fault ["thing"]
  d__law_judged_right : Dt K mg "_law_judged_right" st__law_judged_right ["thing"]
  d__law_bent : Dt K mg "_law_bent" st__law_bent ["m", "thing"]
  d_law : Dt K mg "law" st_law ["script"]
section
variable {P : Program} {w : World} {K : PySem.W.Frag} {mg : Str → Option Value} {gb : Heap} {tb : Tb}
theorem ok_is_integer (T : Fx P K mg tb) (D : Ds K mg) : FoX P w K mg gb tb 1 "is_integer" ["value"] f_is_integer := by
  exact fo_mk D.d_is_integer sc_is_integer fun f cdv A up s H E hr hgu W tk => (rss_one (rs_ret (re_and (re_isi (T := "int") rfl rfl T.b_isinstance rfl T.b_int (by decide +kernel) (re_var (pv 0))) (re_one (re_not (re_isi (T := "bool") rfl rfl T.b_isinstance rfl T.b_bool (by decide +kernel) (re_var (pv 0))))))))
theorem ok_is_from (T : Fx P K mg tb) (D : Ds K mg) : FoX P w K mg gb tb 2 "is_from" ["value", "least", "most"] f_is_from := by
  have F_is_integer : FoX P w K mg gb tb 1 "is_integer" ["value"] f_is_integer := ok_is_integer T D
  exact fo_mk D.d_is_from sc_is_from fun f cdv A up s H E hr hgu W tk => (rss_one (rs_ret (re_and (re_fo (F_is_integer.up (by decide)) hr hgu tk rfl (ra_cons (re_var (pv 0)) ra_nil)) (re_one (re_lele (re_var (pv 1)) (re_var (pv 0)) (re_var (pv 2)))))))
theorem ok_determinant_in (T : Fx P K mg tb) (D : Ds K mg) : FoX P w K mg gb tb 1 "determinant_in" ["lines"] f_determinant_in := by
  exact fo_mk D.d_determinant_in sc_determinant_in fun f cdv A up s H E hr hgu W tk => (rss_cons (rs_if (rt_eq hr (re_len rfl T.b_len (re_var (pv 0))) re_int) (rss_one (rs_ret (re_at (re_at (re_var (pv 0)) re_int) re_int))) rss_nil) (rss_cons (rs_if (rt_eq hr (re_len rfl T.b_len (re_var (pv 0))) re_int) (rss_one (rs_ret (re_sub (re_mulP (re_at (re_at (re_var (pv 0)) re_int) re_int) (re_at (re_at (re_var (pv 0)) re_int) re_int)) (re_mulP (re_at (re_at (re_var (pv 0)) re_int) re_int) (re_at (re_at (re_var (pv 0)) re_int) re_int))))) rss_nil) (rss_cons (rs_set (i := 1) sc_determinant_in.nd rfl (by first | exact Or.inl rfl | exact Or.inr rfl) re_int (by first | exact Or.inr rfl | exact Or.inl rfl)) (rss_cons (rs_for (passes_of rfl) rfl (ri_range1 rfl T.b_range re_int) (rg_name (i := 2) sc_determinant_in.nd rfl (by first | exact Or.inl rfl | exact Or.inr rfl) (by first | exact Or.inr rfl | exact Or.inl rfl)) (rss_cons (rs_par rfl sc_determinant_in.nd (i := 3) (j := 4) rfl rfl (by decide) rfl rfl (ra_cons (re_mod (re_addP (re_var (pv 2)) re_int) re_int) (ra_cons (re_mod (re_addP (re_var (pv 2)) re_int) re_int) ra_nil))) (rss_one (rs_aug ip_add sc_determinant_in.nd rfl (by first | exact Or.inl rfl | exact Or.inr rfl) (re_mulP (re_at (re_at (re_var (pv 0)) re_int) (re_var (pv 2))) (re_sub (re_mulP (re_at (re_at (re_var (pv 0)) re_int) (re_var (pv 3))) (re_at (re_at (re_var (pv 0)) re_int) (re_var (pv 4)))) (re_mulP (re_at (re_at (re_var (pv 0)) re_int) (re_var (pv 4))) (re_at (re_at (re_var (pv 0)) re_int) (re_var (pv 3)))))) (by first | exact Or.inr rfl | exact Or.inl rfl))))) (rss_one (rs_ret (re_var (pv 1))))))))
theorem ok_lines_fault (T : Fx P K mg tb) (D : Ds K mg) : FoX P w K mg gb tb 3 "lines_fault" ["value"] f_lines_fault := by
  have F_is_from : FoX P w K mg gb tb 2 "is_from" ["value", "least", "most"] f_is_from := ok_is_from T D
  have F_determinant_in : FoX P w K mg gb tb 1 "determinant_in" ["lines"] f_determinant_in := ok_determinant_in T D
  exact fo_mk D.d_lines_fault sc_lines_fault fun f cdv A up s H E hr hgu W tk => (rss_cons (rs_if (rt_w (rw_or (rt_not (rt_of (re_isi (T := "tuple") rfl rfl T.b_isinstance rfl T.b_tuple (by decide +kernel) (re_var (pv 0))))) (rw_or1 (rt_not (rt_lele re_int (re_len rfl T.b_len (re_var (pv 0))) re_int))))) (rss_one (rs_ret (re_tup ra_nil))) rss_nil) (rss_cons (rs_for (passes_of rfl) rfl (ri_enum rfl T.b_enumerate (re_var (pv 0))) (rg_tup rfl (rgs_cons (rg_name (i := 1) sc_lines_fault.nd rfl (by first | exact Or.inl rfl | exact Or.inr rfl) (by first | exact Or.inr rfl | exact Or.inl rfl)) (rgs_cons (rg_name (i := 2) sc_lines_fault.nd rfl (by first | exact Or.inl rfl | exact Or.inr rfl) (by first | exact Or.inr rfl | exact Or.inl rfl)) rgs_nil))) (rss_cons (rs_if (rt_w (rw_or (rt_not (rt_of (re_isi (T := "tuple") rfl rfl T.b_isinstance rfl T.b_tuple (by decide +kernel) (re_var (pv 2))))) (rw_or1 (rt_ne hr (re_len rfl T.b_len (re_var (pv 2))) (re_len rfl T.b_len (re_var (pv 0))))))) (rss_one (rs_ret (re_tup (ra_cons (re_var (pv 1)) ra_nil)))) rss_nil) (rss_one (rs_for (passes_of rfl) rfl (ri_enum rfl T.b_enumerate (re_var (pv 2))) (rg_tup rfl (rgs_cons (rg_name (i := 3) sc_lines_fault.nd rfl (by first | exact Or.inl rfl | exact Or.inr rfl) (by first | exact Or.inr rfl | exact Or.inl rfl)) (rgs_cons (rg_name (i := 4) sc_lines_fault.nd rfl (by first | exact Or.inl rfl | exact Or.inr rfl) (by first | exact Or.inr rfl | exact Or.inl rfl)) rgs_nil))) (rss_one (rs_if (rt_not (rt_of (re_fo (F_is_from.up (by decide)) hr hgu tk rfl (ra_cons (re_var (pv 4)) (ra_cons (re_sub re_int (rg_int T.c_MOST_NUMBER rfl)) (ra_cons (rg_int T.c_MOST_NUMBER rfl) ra_nil)))))) (rss_one (rs_ret (re_tup (ra_cons (re_var (pv 1)) (ra_cons (re_var (pv 3)) ra_nil))))) rss_nil)))))) (rss_one (rs_ret (re_if (rt_eq hr (re_abs rfl T.b_abs (re_fo (F_determinant_in.up (by decide)) hr hgu tk rfl (ra_cons (re_var (pv 0)) ra_nil))) re_int) re_non (re_tup ra_nil))))))
theorem ok_is_point (T : Fx P K mg tb) (D : Ds K mg) : FoX P w K mg gb tb 3 "is_point" ["axes", "value"] f_is_point := by
  have F_is_from : FoX P w K mg gb tb 2 "is_from" ["value", "least", "most"] f_is_from := ok_is_from T D
  exact fo_mk D.d_is_point sc_is_point fun f cdv A up s H E hr hgu W tk => (rss_cons (rs_if (rt_w (rw_or (rt_not (rt_of (re_isi (T := "tuple") rfl rfl T.b_isinstance rfl T.b_tuple (by decide +kernel) (re_var (pv 1))))) (rw_or1 (rt_ne hr (re_len rfl T.b_len (re_var (pv 1))) (re_var (pv 0)))))) (rss_one (rs_ret re_bl)) rss_nil) (rss_one (rs_ret (re_all rfl rfl T.b_all (re_f (rf_comp (own := [("one", 2)]) rfl sc_is_point.nd (ri_seq (re_var (pv 1))) (blkOk_by (own := [("one", 2)]) (by kernel_rfl)) (fun _ _ _ _ _ => (rg_name (i := 2) sc_is_point.nd rfl (by first | exact Or.inl rfl | exact Or.inr rfl) (by first | exact Or.inr rfl | exact Or.inl rfl))) (fun _ _ _ _ _ => rts_nil) (fun _ _ _ _ _ => (re_fo (F_is_from.up (by decide)) hr hgu takesN rfl (ra_cons (re_var (pv 2)) (ra_cons (re_sub re_int (rg_int T.c_MOST_PLACE rfl)) (ra_cons (rg_int T.c_MOST_PLACE rfl) ra_nil))))) (by decide)))))))
theorem ok_move_fault (T : Fx P K mg tb) (D : Ds K mg) : FoX P w K mg gb tb 4 "move_fault" ["value"] f_move_fault := by
  have F_lines_fault : FoX P w K mg gb tb 3 "lines_fault" ["value"] f_lines_fault := ok_lines_fault T D
  have F_is_point : FoX P w K mg gb tb 3 "is_point" ["axes", "value"] f_is_point := ok_is_point T D
  exact fo_mk D.d_move_fault sc_move_fault fun f cdv A up s H E hr hgu W tk => (rss_cons (rs_if (rt_w (rw_or (rt_not (rt_of (re_isi (T := "tuple") rfl rfl T.b_isinstance rfl T.b_tuple (by decide +kernel) (re_var (pv 0))))) (rw_or1 (rt_ne hr (re_len rfl T.b_len (re_var (pv 0))) re_int)))) (rss_one (rs_ret (re_tup ra_nil))) rss_nil) (rss_cons (rs_set (i := 1) sc_move_fault.nd rfl (by first | exact Or.inl rfl | exact Or.inr rfl) (re_fo (F_lines_fault.up (by decide)) hr hgu tk rfl (ra_cons (re_at (re_var (pv 0)) re_int) ra_nil)) (by first | exact Or.inr rfl | exact Or.inl rfl)) (rss_cons (rs_if (rt_notN (re_var (pv 1)) re_non) (rss_one (rs_ret (re_addP (re_tup (ra_cons re_int ra_nil)) (re_var (pv 1))))) rss_nil) (rss_one (rs_ret (re_if (rt_of (re_fo (F_is_point.up (by decide)) hr hgu tk rfl (ra_cons (re_len rfl T.b_len (re_at (re_var (pv 0)) re_int)) (ra_cons (re_at (re_var (pv 0)) re_int) ra_nil)))) re_non (re_tup (ra_cons re_int ra_nil))))))))
theorem ok_need_move (T : Fx P K mg tb) (D : Ds K mg) : FoX P w K mg gb tb 5 "need_move" ["move"] f_need_move := by
  have F_move_fault : FoX P w K mg gb tb 4 "move_fault" ["value"] f_move_fault := ok_move_fault T D
  exact fo_mk D.d_need_move sc_need_move fun f cdv A up s H E hr hgu W tk => (rss_cons (rs_set (i := 1) sc_need_move.nd rfl (by first | exact Or.inl rfl | exact Or.inr rfl) (re_fo (F_move_fault.up (by decide)) hr hgu tk rfl (ra_cons (re_var (pv 0)) ra_nil)) (by first | exact Or.inr rfl | exact Or.inl rfl)) (rss_cons (rs_if (rt_notN (re_var (pv 1)) re_non) (rss_one (rs_err rfl tk T.e_BadMove hr hgu (re_var (pv 1)) rfl)) rss_nil) (rss_one (rs_ret (re_var (pv 0))))))
theorem ok_let_rows (T : Fx P K mg tb) (D : Ds K mg) : FoX P w K mg gb tb 1 "let_rows" ["rows"] f_let_rows := by
  exact fo_mk D.d_let_rows sc_let_rows fun f cdv A up s H E hr hgu W tk => (rss_cons (rs_if (rt_of (re_any rfl rfl T.b_any (re_f (rf_comp2 (own := [("row", 1), ("one", 2)]) (vs1 := [2]) rfl sc_let_rows.nd (ri_seq (re_var (pv 0))) (blkOk_by (own := [("row", 1), ("one", 2)]) (by kernel_rfl)) (by decide) (fun _ _ _ _ _ => (rg_name (i := 1) sc_let_rows.nd rfl (by first | exact Or.inl rfl | exact Or.inr rfl) (by first | exact Or.inr rfl | exact Or.inl rfl))) (fun _ _ _ _ _ => rts_nil) (fun _ _ _ _ _ => (ri_seq (re_var (pv 1)))) (fun _ _ _ _ _ => (rg_name (i := 2) sc_let_rows.nd rfl (by first | exact Or.inl rfl | exact Or.inr rfl) (by first | exact Or.inr rfl | exact Or.inl rfl))) (fun _ _ _ _ _ => rts_nil) (fun _ _ _ _ _ => (re_gt (re_abs rfl T.b_abs (re_var (pv 2))) (rg_int T.c_MOST_NUMBER rfl))) (by decide) (by decide))))) (rss_one (rs_err rfl tk T.e_TooGreat hr hgu (rg_int T.c_MOST_NUMBER rfl) rfl)) rss_nil) (rss_one (rs_ret (re_var (pv 0)))))
theorem ok_let_move (T : Fx P K mg tb) (D : Ds K mg) : FoX P w K mg gb tb 2 "let_move" ["move"] f_let_move := by
  have F_let_rows : FoX P w K mg gb tb 1 "let_rows" ["rows"] f_let_rows := ok_let_rows T D
  exact fo_mk D.d_let_move sc_let_move fun f cdv A up s H E hr hgu W tk => (rss_cons (rs_expr (re_fo (F_let_rows.up (by decide)) hr hgu tk rfl (ra_cons (re_addP (re_f (rf_list rfl T.b_list (re_at (re_var (pv 0)) re_int))) (re_f (rf_lst (ra_cons (re_at (re_var (pv 0)) re_int) ra_nil)))) ra_nil))) (rss_one (rs_ret (re_var (pv 0)))))
theorem ok_times_lines (T : Fx P K mg tb) (D : Ds K mg) : FoX P w K mg gb tb 1 "times_lines" ["lines", "far_lines"] f_times_lines := by
  exact fo_mk D.d_times_lines sc_times_lines fun f cdv A up s H E hr hgu W tk => (rss_cons (rs_set (i := 2) sc_times_lines.nd rfl (by first | exact Or.inl rfl | exact Or.inr rfl) (re_f (rf_zipS rfl rfl T.b_list rfl T.b_zip (re_var (pv 1)))) (by first | exact Or.inr rfl | exact Or.inl rfl)) (rss_one (rs_ret (re_tuple rfl T.b_tuple (re_f (rf_comp (own := [("line", 3)]) rfl sc_times_lines.nd (ri_seq (re_var (pv 0))) (blkOk_by (own := [("line", 3)]) (by kernel_rfl)) (fun _ _ _ _ _ => (rg_name (i := 3) sc_times_lines.nd rfl (by first | exact Or.inl rfl | exact Or.inr rfl) (by first | exact Or.inr rfl | exact Or.inl rfl))) (fun _ _ _ _ _ => rts_nil) (fun _ _ _ _ _ => (re_tuple rfl T.b_tuple (re_f (rf_comp (own := [("column", 4)]) rfl sc_times_lines.nd (ri_seq (re_var (pv 2))) (blkOk_by (own := [("column", 4)]) (by kernel_rfl)) (fun _ _ _ _ _ => (rg_name (i := 4) sc_times_lines.nd rfl (by first | exact Or.inl rfl | exact Or.inr rfl) (by first | exact Or.inr rfl | exact Or.inl rfl))) (fun _ _ _ _ _ => rts_nil) (fun _ _ _ _ _ => (re_sum rfl rfl T.b_sum (re_f (rf_comp (own := [("one", 5), ("two", 6)]) rfl sc_times_lines.nd (ri_zip rfl T.b_zip (re_var (pv 3)) (re_var (pv 4))) (blkOk_by (own := [("one", 5), ("two", 6)]) (by kernel_rfl)) (fun _ _ _ _ _ => (rg_tup rfl (rgs_cons (rg_name (i := 5) sc_times_lines.nd rfl (by first | exact Or.inl rfl | exact Or.inr rfl) (by first | exact Or.inr rfl | exact Or.inl rfl)) (rgs_cons (rg_name (i := 6) sc_times_lines.nd rfl (by first | exact Or.inl rfl | exact Or.inr rfl) (by first | exact Or.inr rfl | exact Or.inl rfl)) rgs_nil)))) (fun _ _ _ _ _ => rts_nil) (fun _ _ _ _ _ => (re_mulP (re_var (pv 5)) (re_var (pv 6)))) (by decide))))) (by decide))))) (by decide)))))))
theorem ok_plus_point (T : Fx P K mg tb) (D : Ds K mg) : FoX P w K mg gb tb 1 "plus_point" ["point", "other"] f_plus_point := by
  exact fo_mk D.d_plus_point sc_plus_point fun f cdv A up s H E hr hgu W tk => (rss_one (rs_ret (re_tuple rfl T.b_tuple (re_f (rf_comp (own := [("one", 2), ("two", 3)]) rfl sc_plus_point.nd (ri_zip rfl T.b_zip (re_var (pv 0)) (re_var (pv 1))) (blkOk_by (own := [("one", 2), ("two", 3)]) (by kernel_rfl)) (fun _ _ _ _ _ => (rg_tup rfl (rgs_cons (rg_name (i := 2) sc_plus_point.nd rfl (by first | exact Or.inl rfl | exact Or.inr rfl) (by first | exact Or.inr rfl | exact Or.inl rfl)) (rgs_cons (rg_name (i := 3) sc_plus_point.nd rfl (by first | exact Or.inl rfl | exact Or.inr rfl) (by first | exact Or.inr rfl | exact Or.inl rfl)) rgs_nil)))) (fun _ _ _ _ _ => rts_nil) (fun _ _ _ _ _ => (re_addP (re_var (pv 2)) (re_var (pv 3)))) (by decide))))))
theorem ok_led_by_lines (T : Fx P K mg tb) (D : Ds K mg) : FoX P w K mg gb tb 1 "led_by_lines" ["lines", "row"] f_led_by_lines := by
  exact fo_mk D.d_led_by_lines sc_led_by_lines fun f cdv A up s H E hr hgu W tk => (rss_one (rs_ret (re_tuple rfl T.b_tuple (re_f (rf_comp (own := [("line", 2)]) rfl sc_led_by_lines.nd (ri_seq (re_var (pv 0))) (blkOk_by (own := [("line", 2)]) (by kernel_rfl)) (fun _ _ _ _ _ => (rg_name (i := 2) sc_led_by_lines.nd rfl (by first | exact Or.inl rfl | exact Or.inr rfl) (by first | exact Or.inr rfl | exact Or.inl rfl))) (fun _ _ _ _ _ => rts_nil) (fun _ _ _ _ _ => (re_sum rfl rfl T.b_sum (re_f (rf_comp (own := [("one", 3), ("two", 4)]) rfl sc_led_by_lines.nd (ri_zip rfl T.b_zip (re_var (pv 2)) (re_var (pv 1))) (blkOk_by (own := [("one", 3), ("two", 4)]) (by kernel_rfl)) (fun _ _ _ _ _ => (rg_tup rfl (rgs_cons (rg_name (i := 3) sc_led_by_lines.nd rfl (by first | exact Or.inl rfl | exact Or.inr rfl) (by first | exact Or.inr rfl | exact Or.inl rfl)) (rgs_cons (rg_name (i := 4) sc_led_by_lines.nd rfl (by first | exact Or.inl rfl | exact Or.inr rfl) (by first | exact Or.inr rfl | exact Or.inl rfl)) rgs_nil)))) (fun _ _ _ _ _ => rts_nil) (fun _ _ _ _ _ => (re_mulP (re_var (pv 3)) (re_var (pv 4)))) (by decide))))) (by decide))))))
theorem ok_moved_point_in (T : Fx P K mg tb) (D : Ds K mg) : FoX P w K mg gb tb 2 "moved_point_in" ["move", "point"] f_moved_point_in := by
  have F_plus_point : FoX P w K mg gb tb 1 "plus_point" ["point", "other"] f_plus_point := ok_plus_point T D
  have F_led_by_lines : FoX P w K mg gb tb 1 "led_by_lines" ["lines", "row"] f_led_by_lines := ok_led_by_lines T D
  exact fo_mk D.d_moved_point_in sc_moved_point_in fun f cdv A up s H E hr hgu W tk => (rss_one (rs_ret (re_fo (F_plus_point.up (by decide)) hr hgu tk rfl (ra_cons (re_fo (F_led_by_lines.up (by decide)) hr hgu tk rfl (ra_cons (re_at (re_var (pv 0)) re_int) (ra_cons (re_var (pv 1)) ra_nil))) (ra_cons (re_at (re_var (pv 0)) re_int) ra_nil)))))
theorem ok_composed_in (T : Fx P K mg tb) (D : Ds K mg) : FoX P w K mg gb tb 3 "composed_in" ["move", "far_move"] f_composed_in := by
  have F_times_lines : FoX P w K mg gb tb 1 "times_lines" ["lines", "far_lines"] f_times_lines := ok_times_lines T D
  have F_moved_point_in : FoX P w K mg gb tb 2 "moved_point_in" ["move", "point"] f_moved_point_in := ok_moved_point_in T D
  exact fo_mk D.d_composed_in sc_composed_in fun f cdv A up s H E hr hgu W tk => (rss_one (rs_ret (re_tup (ra_cons (re_fo (F_times_lines.up (by decide)) hr hgu tk rfl (ra_cons (re_at (re_var (pv 1)) re_int) (ra_cons (re_at (re_var (pv 0)) re_int) ra_nil))) (ra_cons (re_fo (F_moved_point_in.up (by decide)) hr hgu tk rfl (ra_cons (re_var (pv 1)) (ra_cons (re_at (re_var (pv 0)) re_int) ra_nil))) ra_nil)))))
theorem ok_composed (T : Fx P K mg tb) (D : Ds K mg) : FoX P w K mg gb tb 6 "composed" ["move", "far_move"] f_composed := by
  have F_need_move : FoX P w K mg gb tb 5 "need_move" ["move"] f_need_move := ok_need_move T D
  have F_let_move : FoX P w K mg gb tb 2 "let_move" ["move"] f_let_move := ok_let_move T D
  have F_composed_in : FoX P w K mg gb tb 3 "composed_in" ["move", "far_move"] f_composed_in := ok_composed_in T D
  exact fo_mk D.d_composed sc_composed fun f cdv A up s H E hr hgu W tk => (rss_cons (rs_expr (re_fo (F_need_move.up (by decide)) hr hgu tk rfl (ra_cons (re_var (pv 0)) ra_nil))) (rss_cons (rs_if (rt_ne hr (re_len rfl T.b_len (re_at (re_fo (F_need_move.up (by decide)) hr hgu tk rfl (ra_cons (re_var (pv 1)) ra_nil)) re_int)) (re_len rfl T.b_len (re_at (re_var (pv 0)) re_int))) (rss_one (rs_err0 rfl tk T.e_Unlike rfl)) rss_nil) (rss_one (rs_ret (re_fo (F_let_move.up (by decide)) hr hgu tk rfl (ra_cons (re_fo (F_composed_in.up (by decide)) hr hgu tk rfl (ra_cons (re_var (pv 0)) (ra_cons (re_var (pv 1)) ra_nil))) ra_nil))))))
theorem ok_is_any_point (T : Fx P K mg tb) (D : Ds K mg) : FoX P w K mg gb tb 4 "is_any_point" ["value"] f_is_any_point := by
  have F_is_point : FoX P w K mg gb tb 3 "is_point" ["axes", "value"] f_is_point := ok_is_point T D
  exact fo_mk D.d_is_any_point sc_is_any_point fun f cdv A up s H E hr hgu W tk => (rss_one (rs_ret (re_and (re_isi (T := "tuple") rfl rfl T.b_isinstance rfl T.b_tuple (by decide +kernel) (re_var (pv 0))) (re_and (re_in (re_len rfl T.b_len (re_var (pv 0))) (rg_tupI T.c_DEEPS rfl)) (re_one (re_fo (F_is_point.up (by decide)) hr hgu tk rfl (ra_cons (re_len rfl T.b_len (re_var (pv 0))) (ra_cons (re_var (pv 0)) ra_nil))))))))
theorem ok_moved_point (T : Fx P K mg tb) (D : Ds K mg) : FoX P w K mg gb tb 6 "moved_point" ["move", "point"] f_moved_point := by
  have F_need_move : FoX P w K mg gb tb 5 "need_move" ["move"] f_need_move := ok_need_move T D
  have F_is_any_point : FoX P w K mg gb tb 4 "is_any_point" ["value"] f_is_any_point := ok_is_any_point T D
  have F_let_rows : FoX P w K mg gb tb 1 "let_rows" ["rows"] f_let_rows := ok_let_rows T D
  have F_moved_point_in : FoX P w K mg gb tb 2 "moved_point_in" ["move", "point"] f_moved_point_in := ok_moved_point_in T D
  exact fo_mk D.d_moved_point sc_moved_point fun f cdv A up s H E hr hgu W tk => (rss_cons (rs_expr (re_fo (F_need_move.up (by decide)) hr hgu tk rfl (ra_cons (re_var (pv 0)) ra_nil))) (rss_cons (rs_if (rt_not (rt_of (re_fo (F_is_any_point.up (by decide)) hr hgu tk rfl (ra_cons (re_var (pv 1)) ra_nil)))) (rss_one (rs_err rfl tk T.e_BadPoint hr hgu (re_var (pv 1)) rfl)) rss_nil) (rss_cons (rs_if (rt_ne hr (re_len rfl T.b_len (re_var (pv 1))) (re_len rfl T.b_len (re_at (re_var (pv 0)) re_int))) (rss_one (rs_err0 rfl tk T.e_Unlike rfl)) rss_nil) (rss_one (rs_ret (re_at (re_fo (F_let_rows.up (by decide)) hr hgu tk rfl (ra_cons (re_f (rf_lst (ra_cons (re_fo (F_moved_point_in.up (by decide)) hr hgu tk rfl (ra_cons (re_var (pv 0)) (ra_cons (re_var (pv 1)) ra_nil))) ra_nil))) ra_nil)) re_int))))))
theorem ok_turned_lines (T : Fx P K mg tb) (D : Ds K mg) : FoX P w K mg gb tb 1 "turned_lines" ["lines"] f_turned_lines := by
  exact fo_mk D.d_turned_lines sc_turned_lines fun f cdv A up s H E hr hgu W tk => (rss_cons (rs_if (rt_eq hr (re_len rfl T.b_len (re_var (pv 0))) re_int) (rss_one (rs_ret (re_tup (ra_cons (re_tup (ra_cons re_int ra_nil)) ra_nil)))) rss_nil) (rss_cons (rs_if (rt_eq hr (re_len rfl T.b_len (re_var (pv 0))) re_int) (rss_one (rs_ret (re_tup (ra_cons (re_tup (ra_cons (re_at (re_at (re_var (pv 0)) re_int) re_int) (ra_cons (re_sub re_int (re_at (re_at (re_var (pv 0)) re_int) re_int)) ra_nil))) (ra_cons (re_tup (ra_cons (re_sub re_int (re_at (re_at (re_var (pv 0)) re_int) re_int)) (ra_cons (re_at (re_at (re_var (pv 0)) re_int) re_int) ra_nil))) ra_nil))))) rss_nil) (rss_cons (rs_new (i := 1) sc_turned_lines.nd rfl (by first | exact Or.inl rfl | exact Or.inr rfl) (rf_lst ra_nil) (by first | exact Or.inr rfl | exact Or.inl rfl)) (rss_cons (rs_for (passes_of rfl) rfl (ri_range1 rfl T.b_range re_int) (rg_name (i := 2) sc_turned_lines.nd rfl (by first | exact Or.inl rfl | exact Or.inr rfl) (by first | exact Or.inr rfl | exact Or.inl rfl)) (rss_cons (rs_new (i := 3) sc_turned_lines.nd rfl (by first | exact Or.inl rfl | exact Or.inr rfl) (rf_lst ra_nil) (by first | exact Or.inr rfl | exact Or.inl rfl)) (rss_cons (rs_for (passes_of rfl) rfl (ri_range1 rfl T.b_range re_int) (rg_name (i := 4) sc_turned_lines.nd rfl (by first | exact Or.inl rfl | exact Or.inr rfl) (by first | exact Or.inr rfl | exact Or.inl rfl)) (rss_cons (rs_asg (re_f (rf_lst (ra_cons (re_at (re_var (pv 0)) (re_mod (re_addP (re_var (pv 4)) re_int) re_int)) (ra_cons (re_at (re_var (pv 0)) (re_mod (re_addP (re_var (pv 4)) re_int) re_int)) ra_nil)))) (rg_lst rfl (rgs_cons (rg_name (i := 5) sc_turned_lines.nd rfl (by first | exact Or.inl rfl | exact Or.inr rfl) (by first | exact Or.inr rfl | exact Or.inl rfl)) (rgs_cons (rg_name (i := 6) sc_turned_lines.nd rfl (by first | exact Or.inl rfl | exact Or.inr rfl) (by first | exact Or.inr rfl | exact Or.inl rfl)) rgs_nil)))) (rss_cons (rs_par rfl sc_turned_lines.nd (i := 7) (j := 8) rfl rfl (by decide) rfl rfl (ra_cons (re_mod (re_addP (re_var (pv 2)) re_int) re_int) (ra_cons (re_mod (re_addP (re_var (pv 2)) re_int) re_int) ra_nil))) (rss_one (rs_app2 (pv 3) (re_sub (re_mulP (re_at (re_var (pv 5)) (re_var (pv 7))) (re_at (re_var (pv 6)) (re_var (pv 8)))) (re_mulP (re_at (re_var (pv 5)) (re_var (pv 8))) (re_at (re_var (pv 6)) (re_var (pv 7)))))))))) (rss_one (rs_app2 (pv 1) (re_tuple rfl T.b_tuple (re_var (pv 3)))))))) (rss_one (rs_ret (re_tuple rfl T.b_tuple (re_var (pv 1)))))))))
theorem ok_inverse_in (T : Fx P K mg tb) (D : Ds K mg) : FoX P w K mg gb tb 2 "inverse_in" ["move"] f_inverse_in := by
  have F_determinant_in : FoX P w K mg gb tb 1 "determinant_in" ["lines"] f_determinant_in := ok_determinant_in T D
  have F_turned_lines : FoX P w K mg gb tb 1 "turned_lines" ["lines"] f_turned_lines := ok_turned_lines T D
  have F_led_by_lines : FoX P w K mg gb tb 1 "led_by_lines" ["lines", "row"] f_led_by_lines := ok_led_by_lines T D
  exact fo_mk D.d_inverse_in sc_inverse_in fun f cdv A up s H E hr hgu W tk => (rss_cons (rs_set (i := 1) sc_inverse_in.nd rfl (by first | exact Or.inl rfl | exact Or.inr rfl) (re_fo (F_determinant_in.up (by decide)) hr hgu tk rfl (ra_cons (re_at (re_var (pv 0)) re_int) ra_nil)) (by first | exact Or.inr rfl | exact Or.inl rfl)) (rss_cons (rs_set (i := 2) sc_inverse_in.nd rfl (by first | exact Or.inl rfl | exact Or.inr rfl) (re_tuple rfl T.b_tuple (re_f (rf_comp (own := [("line", 3)]) rfl sc_inverse_in.nd (ri_seq (re_fo (F_turned_lines.up (by decide)) hr hgu tk rfl (ra_cons (re_at (re_var (pv 0)) re_int) ra_nil))) (blkOk_by (own := [("line", 3)]) (by kernel_rfl)) (fun _ _ _ _ _ => (rg_name (i := 3) sc_inverse_in.nd rfl (by first | exact Or.inl rfl | exact Or.inr rfl) (by first | exact Or.inr rfl | exact Or.inl rfl))) (fun _ _ _ _ _ => rts_nil) (fun _ _ _ _ _ => (re_tuple rfl T.b_tuple (re_f (rf_comp (own := [("one", 4)]) rfl sc_inverse_in.nd (ri_seq (re_var (pv 3))) (blkOk_by (own := [("one", 4)]) (by kernel_rfl)) (fun _ _ _ _ _ => (rg_name (i := 4) sc_inverse_in.nd rfl (by first | exact Or.inl rfl | exact Or.inr rfl) (by first | exact Or.inr rfl | exact Or.inl rfl))) (fun _ _ _ _ _ => rts_nil) (fun _ _ _ _ _ => (re_mulP (re_var (pv 1)) (re_var (pv 4)))) (by decide))))) (by decide)))) (by first | exact Or.inr rfl | exact Or.inl rfl)) (rss_one (rs_ret (re_tup (ra_cons (re_var (pv 2)) (ra_cons (re_tuple rfl T.b_tuple (re_f (rf_comp (own := [("one", 4)]) rfl sc_inverse_in.nd (ri_seq (re_fo (F_led_by_lines.up (by decide)) hr hgu tk rfl (ra_cons (re_var (pv 2)) (ra_cons (re_at (re_var (pv 0)) re_int) ra_nil)))) (blkOk_by (own := [("one", 4)]) (by kernel_rfl)) (fun _ _ _ _ _ => (rg_name (i := 4) sc_inverse_in.nd rfl (by first | exact Or.inl rfl | exact Or.inr rfl) (by first | exact Or.inr rfl | exact Or.inl rfl))) (fun _ _ _ _ _ => rts_nil) (fun _ _ _ _ _ => (re_sub re_int (re_var (pv 4)))) (by decide)))) ra_nil)))))))
theorem ok_inverse_move (T : Fx P K mg tb) (D : Ds K mg) : FoX P w K mg gb tb 6 "inverse_move" ["move"] f_inverse_move := by
  have F_let_move : FoX P w K mg gb tb 2 "let_move" ["move"] f_let_move := ok_let_move T D
  have F_inverse_in : FoX P w K mg gb tb 2 "inverse_in" ["move"] f_inverse_in := ok_inverse_in T D
  have F_need_move : FoX P w K mg gb tb 5 "need_move" ["move"] f_need_move := ok_need_move T D
  exact fo_mk D.d_inverse_move sc_inverse_move fun f cdv A up s H E hr hgu W tk => (rss_one (rs_ret (re_fo (F_let_move.up (by decide)) hr hgu tk rfl (ra_cons (re_fo (F_inverse_in.up (by decide)) hr hgu tk rfl (ra_cons (re_fo (F_need_move.up (by decide)) hr hgu tk rfl (ra_cons (re_var (pv 0)) ra_nil)) ra_nil)) ra_nil))))
theorem ok_move_sign (T : Fx P K mg tb) (D : Ds K mg) : FoX P w K mg gb tb 6 "move_sign" ["move"] f_move_sign := by
  have F_determinant_in : FoX P w K mg gb tb 1 "determinant_in" ["lines"] f_determinant_in := ok_determinant_in T D
  have F_need_move : FoX P w K mg gb tb 5 "need_move" ["move"] f_need_move := ok_need_move T D
  exact fo_mk D.d_move_sign sc_move_sign fun f cdv A up s H E hr hgu W tk => (rss_one (rs_ret (re_fo (F_determinant_in.up (by decide)) hr hgu tk rfl (ra_cons (re_at (re_fo (F_need_move.up (by decide)) hr hgu tk rfl (ra_cons (re_var (pv 0)) ra_nil)) re_int) ra_nil))))
theorem ok_checked_moved (D : Ds K mg) : FoX P w K mg gb tb 1 "checked_moved" ["move", "body"] f_checked_moved := fo_no D.d_checked_moved
theorem ok_need_body (D : Ds K mg) : FoX P w K mg gb tb 1 "need_body" ["body"] f_need_body := fo_no D.d_need_body
theorem ok_moved_body (T : Fx P K mg tb) (D : Ds K mg) : FoX P w K mg gb tb 6 "moved_body" ["move", "body"] f_moved_body := by
  have F_need_move : FoX P w K mg gb tb 5 "need_move" ["move"] f_need_move := ok_need_move T D
  have F_checked_moved : FoX P w K mg gb tb 1 "checked_moved" ["move", "body"] f_checked_moved := ok_checked_moved D
  have F_need_body : FoX P w K mg gb tb 1 "need_body" ["body"] f_need_body := ok_need_body D
  exact fo_mk D.d_moved_body sc_moved_body fun f cdv A up s H E hr hgu W tk => (rss_cons (rs_expr (re_fo (F_need_move.up (by decide)) hr hgu tk rfl (ra_cons (re_var (pv 0)) ra_nil))) (rss_one (rs_ret (re_fo (F_checked_moved.up (by decide)) hr hgu tk rfl (ra_cons (re_var (pv 0)) (ra_cons (re_fo (F_need_body.up (by decide)) hr hgu tk rfl (ra_cons (re_var (pv 1)) ra_nil)) ra_nil))))))
theorem ok_plain_in (T : Fx P K mg tb) (D : Ds K mg) : FoX P w K mg gb tb 1 "plain_in" ["deep"] f_plain_in := by
  exact fo_mk D.d_plain_in sc_plain_in fun f cdv A up s H E hr hgu W tk => (rss_one (rs_ret (re_tup (ra_cons (re_tuple rfl T.b_tuple (re_f (rf_comp (own := [("number", 1)]) rfl sc_plain_in.nd (ri_range1 rfl T.b_range (re_var (pv 0))) (blkOk_by (own := [("number", 1)]) (by kernel_rfl)) (fun _ _ _ _ _ => (rg_name (i := 1) sc_plain_in.nd rfl (by first | exact Or.inl rfl | exact Or.inr rfl) (by first | exact Or.inr rfl | exact Or.inl rfl))) (fun _ _ _ _ _ => rts_nil) (fun _ _ _ _ _ => (re_tuple rfl T.b_tuple (re_f (rf_comp (own := [("place", 2)]) rfl sc_plain_in.nd (ri_range1 rfl T.b_range (re_var (pv 0))) (blkOk_by (own := [("place", 2)]) (by kernel_rfl)) (fun _ _ _ _ _ => (rg_name (i := 2) sc_plain_in.nd rfl (by first | exact Or.inl rfl | exact Or.inr rfl) (by first | exact Or.inr rfl | exact Or.inl rfl))) (fun _ _ _ _ _ => rts_nil) (fun _ _ _ _ _ => (re_int1 rfl T.b_int (re_eq hr (re_var (pv 2)) (re_var (pv 1))))) (by decide))))) (by decide)))) (ra_cons (re_mulP (re_tup (ra_cons re_int ra_nil)) (re_var (pv 0))) ra_nil)))))
theorem ok_plain_move (T : Fx P K mg tb) (D : Ds K mg) : FoX P w K mg gb tb 3 "plain_move" ["axes"] f_plain_move := by
  have F_is_from : FoX P w K mg gb tb 2 "is_from" ["value", "least", "most"] f_is_from := ok_is_from T D
  have F_plain_in : FoX P w K mg gb tb 1 "plain_in" ["deep"] f_plain_in := ok_plain_in T D
  exact fo_mk D.d_plain_move sc_plain_move fun f cdv A up s H E hr hgu W tk => (rss_cons (rs_if (rt_not (rt_of (re_fo (F_is_from.up (by decide)) hr hgu tk rfl (ra_cons (re_var (pv 0)) (ra_cons re_int (ra_cons re_int ra_nil)))))) (rss_one (rs_err rfl tk T.e_BadNumber hr hgu (re_var (pv 0)) rfl)) rss_nil) (rss_one (rs_ret (re_fo (F_plain_in.up (by decide)) hr hgu tk rfl (ra_cons (re_var (pv 0)) ra_nil)))))
theorem ok__law_begun (T : Fx P K mg tb) (D : Ds K mg) : FoX P w K mg gb tb 1 "_law_begun" ["script", "turn"] f__law_begun := by
  exact fo_mk D.d__law_begun sc__law_begun fun f cdv A up s H E hr hgu W tk => (rss_cons (rs_set (i := 2) sc__law_begun.nd rfl (by first | exact Or.inl rfl | exact Or.inr rfl) (re_addP (re_slP (re_var (pv 0)) (ro_yes (re_var (pv 1))) ro_no) (re_slP (re_var (pv 0)) ro_no (ro_yes (re_var (pv 1))))) (by first | exact Or.inr rfl | exact Or.inl rfl)) (rss_cons (rs_newC (i := 3) (own := [("cell", 5)]) rfl sc__law_begun.nd rfl rfl (sw_true rfl rfl rfl rfl) (ri_seq (re_var (pv 0))) (blkOk_by (own := [("cell", 5)]) (by kernel_rfl)) (fun _ _ _ _ _ => (rg_name (i := 5) sc__law_begun.nd rfl (by first | exact Or.inl rfl | exact Or.inr rfl) (by first | exact Or.inr rfl | exact Or.inl rfl))) (fun _ _ _ _ _ => (rts_one (rt_ge (re_var (pv 5)) (re_pow re_int re_int)))) (fun _ _ _ _ _ => (re_var (pv 5))) (by decide)) (rss_cons (rs_set (i := 4) sc__law_begun.nd rfl (by first | exact Or.inl rfl | exact Or.inr rfl) (re_addP re_int (re_var (pv 1))) (by first | exact Or.inr rfl | exact Or.inl rfl)) (rss_cons (rs_for (passes_of rfl) rfl (ri_seq (re_var (pv 2))) (rg_name (i := 5) sc__law_begun.nd rfl (by first | exact Or.inl rfl | exact Or.inr rfl) (by first | exact Or.inr rfl | exact Or.inl rfl)) (rss_one (rs_set (i := 4) sc__law_begun.nd rfl (by first | exact Or.inl rfl | exact Or.inr rfl) (re_mod (re_int1 rfl T.b_int (re_addP (re_mulP (re_var (pv 4)) re_int) (re_var (pv 5)))) re_int) (by first | exact Or.inr rfl | exact Or.inl rfl)))) (rss_one (rs_ret (re_disp (rd_cons (re_if (rt_lt (re_var (pv 1)) (re_len rfl T.b_len (re_var (pv 3)))) (re_at (re_var (pv 3)) (re_var (pv 1))) re_int) (rd_cons (re_var (pv 4)) (rd_cons (re_addP (re_var (pv 2)) (re_f (rf_lst (ra_cons (re_addP (re_mulP re_int (re_var (pv 1))) re_int) ra_nil)))) (rd_cons re_int rd_nil)))))))))))
theorem ok__law_draw (T : Fx P K mg tb) (D : Ds K mg) : FoX P w K mg gb tb 1 "_law_draw" ["m", "span"] f__law_draw := by
  exact fo_mk D.d__law_draw sc__law_draw fun f cdv A up s H E hr hgu W tk => (rss_cons (rs_if (rt_gt (re_dget (hu_of hr) (re_var (pv 0))) re_int) (rss_cons (rs_set (i := 2) sc__law_draw.nd rfl (by first | exact Or.inl rfl | exact Or.inr rfl) (re_mod (re_int1 rfl T.b_int (re_dget (hu_of hr) (re_var (pv 0)))) (re_var (pv 1))) (by first | exact Or.inr rfl | exact Or.inl rfl)) (rss_cons (rs_putD (hu_of hr) (pv 0) (re_div (re_dget (hu_of hr) (re_var (pv 0))) (re_var (pv 1)))) (rss_one (rs_ret (re_var (pv 2)))))) rss_nil) (rss_cons (rs_set (i := 3) sc__law_draw.nd rfl (by first | exact Or.inl rfl | exact Or.inr rfl) (re_dget (hu_of hr) (re_var (pv 0))) (by first | exact Or.inr rfl | exact Or.inl rfl)) (rss_cons (rs_putD (hu_of hr) (pv 0) (re_addP (re_var (pv 3)) re_int)) (rss_cons (rs_par rfl sc__law_draw.nd (i := 4) (j := 5) rfl rfl (by decide) rfl rfl (ra_cons (re_dget (hu_of hr) (re_var (pv 0))) (ra_cons (re_addP (re_dget (hu_of hr) (re_var (pv 0))) (re_mulP (re_mulP re_int (re_var (pv 3))) (re_var (pv 3)))) ra_nil))) (rss_cons (rs_set (i := 6) sc__law_draw.nd rfl (by first | exact Or.inl rfl | exact Or.inr rfl) (re_at (re_var (pv 4)) (re_mod (re_int1 rfl T.b_int (re_var (pv 3))) (re_len rfl T.b_len (re_var (pv 4))))) (by first | exact Or.inr rfl | exact Or.inl rfl)) (rss_cons (rs_set (i := 7) sc__law_draw.nd rfl (by first | exact Or.inl rfl | exact Or.inr rfl) (re_mod (re_int1 rfl T.b_int (re_addP (re_mulP (re_var (pv 6)) (re_addP (re_mulP re_int (re_var (pv 3))) re_int)) (re_var (pv 5)))) re_int) (by first | exact Or.inr rfl | exact Or.inl rfl)) (rss_cons (rs_set (i := 7) sc__law_draw.nd rfl (by first | exact Or.inl rfl | exact Or.inr rfl) (re_mod (re_int1 rfl T.b_int (re_addP (re_addP (re_mulP (re_var (pv 7)) (re_var (pv 7))) (re_mulP re_int (re_var (pv 3)))) (re_dget (hu_of hr) (re_var (pv 0))))) re_int) (by first | exact Or.inr rfl | exact Or.inl rfl)) (rss_one (rs_ret (re_mod (re_div (re_mod (re_int1 rfl T.b_int (re_addP (re_mulP (re_var (pv 7)) re_int) (re_var (pv 3)))) re_int) re_int) (re_var (pv 1))))))))))))
theorem ok__law_of (T : Fx P K mg tb) (D : Ds K mg) : FoX P w K mg gb tb 2 "_law_of" ["m", "some"] f__law_of := by
  have F__law_draw : FoX P w K mg gb tb 1 "_law_draw" ["m", "span"] f__law_draw := ok__law_draw T D
  exact fo_mk D.d__law_of sc__law_of fun f cdv A up s H E hr hgu W tk => (rss_one (rs_ret (re_at (re_var (pv 1)) (re_fo (F__law_draw.up (by decide)) hr hgu tk rfl (ra_cons (re_var (pv 0)) (ra_cons (re_len rfl T.b_len (re_var (pv 1))) ra_nil))))))
theorem ok__law_shuffled (T : Fx P K mg tb) (D : Ds K mg) : FoX P w K mg gb tb 3 "_law_shuffled" ["m", "count"] f__law_shuffled := by
  have F__law_of : FoX P w K mg gb tb 2 "_law_of" ["m", "some"] f__law_of := ok__law_of T D
  exact fo_mk D.d__law_shuffled sc__law_shuffled fun f cdv A up s H E hr hgu W tk => (rss_cons (rs_par rfl sc__law_shuffled.nd (i := 2) (j := 3) rfl rfl (by decide) rfl rfl (ra_cons (re_f (rf_listR1 rfl rfl T.b_list rfl T.b_range (re_var (pv 1)))) (ra_cons (re_new (rf_lst ra_nil)) ra_nil))) (rss_cons (rs_for (passes_of rfl) rfl (ri_range1 rfl T.b_range (re_var (pv 1))) (rg_name (i := 4) sc__law_shuffled.nd rfl (by first | exact Or.inl rfl | exact Or.inr rfl) (by first | exact Or.inr rfl | exact Or.inl rfl)) (rss_cons (rs_set (i := 5) sc__law_shuffled.nd rfl (by first | exact Or.inl rfl | exact Or.inr rfl) (re_fo (F__law_of.up (by decide)) hr hgu tk rfl (ra_cons (re_var (pv 0)) (ra_cons (re_var (pv 2)) ra_nil))) (by first | exact Or.inr rfl | exact Or.inl rfl)) (rss_cons (rs_newC (i := 2) (own := [("twin", 6)]) rfl sc__law_shuffled.nd rfl rfl (sw_true rfl rfl rfl rfl) (ri_seq (re_var (pv 2))) (blkOk_by (own := [("twin", 6)]) (by kernel_rfl)) (fun _ _ _ _ _ => (rg_name (i := 6) sc__law_shuffled.nd rfl (by first | exact Or.inl rfl | exact Or.inr rfl) (by first | exact Or.inr rfl | exact Or.inl rfl))) (fun _ _ _ _ _ => (rts_one (rt_ne hr (re_var (pv 6)) (re_var (pv 5))))) (fun _ _ _ _ _ => (re_var (pv 6))) (by decide)) (rss_one (rs_app2 (pv 3) (re_var (pv 5))))))) (rss_one (rs_ret (re_tuple rfl T.b_tuple (re_var (pv 3)))))))
theorem ok__law_some_turn (T : Fx P K mg tb) (D : Ds K mg) : FoX P w K mg gb tb 4 "_law_some_turn" ["m", "deep"] f__law_some_turn := by
  have F__law_draw : FoX P w K mg gb tb 1 "_law_draw" ["m", "span"] f__law_draw := ok__law_draw T D
  have F__law_shuffled : FoX P w K mg gb tb 3 "_law_shuffled" ["m", "count"] f__law_shuffled := ok__law_shuffled T D
  exact fo_mk D.d__law_some_turn sc__law_some_turn fun f cdv A up s H E hr hgu W tk => (rss_cons (rs_new (i := 2) sc__law_some_turn.nd rfl (by first | exact Or.inl rfl | exact Or.inr rfl) (rf_comp (own := [("k", 7)]) rfl sc__law_some_turn.nd (ri_range1 rfl T.b_range (re_var (pv 1))) (blkOk_by (own := [("k", 7)]) (by kernel_rfl)) (fun _ _ _ _ _ => (rg_name (i := 7) sc__law_some_turn.nd rfl (by first | exact Or.inl rfl | exact Or.inr rfl) (by first | exact Or.inr rfl | exact Or.inl rfl))) (fun _ _ _ _ _ => rts_nil) (fun _ _ _ _ _ => (re_f (rf_comp (own := [("j", 8)]) rfl sc__law_some_turn.nd (ri_range1 rfl T.b_range (re_var (pv 1))) (blkOk_by (own := [("j", 8)]) (by kernel_rfl)) (fun _ _ _ _ _ => (rg_name (i := 8) sc__law_some_turn.nd rfl (by first | exact Or.inl rfl | exact Or.inr rfl) (by first | exact Or.inr rfl | exact Or.inl rfl))) (fun _ _ _ _ _ => rts_nil) (fun _ _ _ _ _ => (re_int1 rfl T.b_int (re_eq hr (re_var (pv 7)) (re_var (pv 8))))) (by decide)))) (by decide)) (by first | exact Or.inr rfl | exact Or.inl rfl)) (rss_cons (rs_for (passes_of rfl) rfl (ri_range1 rfl T.b_range (re_if (rt_gt (re_var (pv 1)) re_int) (re_mulP re_int (re_var (pv 1))) re_int)) (rg_name (i := 3) sc__law_some_turn.nd rfl (by first | exact Or.inl rfl | exact Or.inr rfl) (by first | exact Or.inr rfl | exact Or.inl rfl)) (rss_cons (rs_par rfl sc__law_some_turn.nd (i := 4) (j := 5) rfl rfl (by decide) rfl rfl (ra_cons (re_fo (F__law_draw.up (by decide)) hr hgu tk rfl (ra_cons (re_var (pv 0)) (ra_cons (re_var (pv 1)) ra_nil))) (ra_cons (re_fo (F__law_draw.up (by decide)) hr hgu tk rfl (ra_cons (re_var (pv 0)) (ra_cons (re_var (pv 1)) ra_nil))) ra_nil))) (rss_one (rs_if (rt_ne hr (re_var (pv 4)) (re_var (pv 5))) (rss_cons (rs_set (i := 6) sc__law_some_turn.nd rfl (by first | exact Or.inl rfl | exact Or.inr rfl) (re_sub (re_fo (F__law_draw.up (by decide)) hr hgu tk rfl (ra_cons (re_var (pv 0)) (ra_cons re_int ra_nil))) re_int) (by first | exact Or.inr rfl | exact Or.inl rfl)) (rss_one (rs_putL (pv 2) (re_var (pv 4)) (re_f (rf_comp (own := [("one", 9), ("two", 10)]) rfl sc__law_some_turn.nd (ri_zip rfl T.b_zip (re_at (re_var (pv 2)) (re_var (pv 4))) (re_at (re_var (pv 2)) (re_var (pv 5)))) (blkOk_by (own := [("one", 9), ("two", 10)]) (by kernel_rfl)) (fun _ _ _ _ _ => (rg_tup rfl (rgs_cons (rg_name (i := 9) sc__law_some_turn.nd rfl (by first | exact Or.inl rfl | exact Or.inr rfl) (by first | exact Or.inr rfl | exact Or.inl rfl)) (rgs_cons (rg_name (i := 10) sc__law_some_turn.nd rfl (by first | exact Or.inl rfl | exact Or.inr rfl) (by first | exact Or.inr rfl | exact Or.inl rfl)) rgs_nil)))) (fun _ _ _ _ _ => rts_nil) (fun _ _ _ _ _ => (re_addP (re_var (pv 9)) (re_mulP (re_var (pv 6)) (re_var (pv 10))))) (by decide)))))) rss_nil)))) (rss_cons (rs_new (i := 2) sc__law_some_turn.nd rfl (by first | exact Or.inl rfl | exact Or.inr rfl) (rf_comp (own := [("k", 7)]) rfl sc__law_some_turn.nd (ri_seq (re_fo (F__law_shuffled.up (by decide)) hr hgu tk rfl (ra_cons (re_var (pv 0)) (ra_cons (re_var (pv 1)) ra_nil)))) (blkOk_by (own := [("k", 7)]) (by kernel_rfl)) (fun _ _ _ _ _ => (rg_name (i := 7) sc__law_some_turn.nd rfl (by first | exact Or.inl rfl | exact Or.inr rfl) (by first | exact Or.inr rfl | exact Or.inl rfl))) (fun _ _ _ _ _ => rts_nil) (fun _ _ _ _ _ => (re_at (re_var (pv 2)) (re_var (pv 7)))) (by decide)) (by first | exact Or.inr rfl | exact Or.inl rfl)) (rss_cons (rs_if (rt_eq hr (re_fo (F__law_draw.up (by decide)) hr hgu tk rfl (ra_cons (re_var (pv 0)) (ra_cons re_int ra_nil))) re_int) (rss_one (rs_putL (pv 2) re_int (re_f (rf_comp (own := [("one", 9)]) rfl sc__law_some_turn.nd (ri_seq (re_at (re_var (pv 2)) re_int)) (blkOk_by (own := [("one", 9)]) (by kernel_rfl)) (fun _ _ _ _ _ => (rg_name (i := 9) sc__law_some_turn.nd rfl (by first | exact Or.inl rfl | exact Or.inr rfl) (by first | exact Or.inr rfl | exact Or.inl rfl))) (fun _ _ _ _ _ => rts_nil) (fun _ _ _ _ _ => (re_neg (re_var (pv 9)))) (by decide))))) rss_nil) (rss_one (rs_ret (re_tuple rfl T.b_tuple (re_f (rf_comp (own := [("one", 9)]) rfl sc__law_some_turn.nd (ri_seq (re_var (pv 2))) (blkOk_by (own := [("one", 9)]) (by kernel_rfl)) (fun _ _ _ _ _ => (rg_name (i := 9) sc__law_some_turn.nd rfl (by first | exact Or.inl rfl | exact Or.inr rfl) (by first | exact Or.inr rfl | exact Or.inl rfl))) (fun _ _ _ _ _ => rts_nil) (fun _ _ _ _ _ => (re_tuple rfl T.b_tuple (re_var (pv 9)))) (by decide))))))))))
theorem ok__law_some_move (T : Fx P K mg tb) (D : Ds K mg) : FoX P w K mg gb tb 5 "_law_some_move" ["m", "deep", "reach"] f__law_some_move := by
  have F__law_some_turn : FoX P w K mg gb tb 4 "_law_some_turn" ["m", "deep"] f__law_some_turn := ok__law_some_turn T D
  have F__law_draw : FoX P w K mg gb tb 1 "_law_draw" ["m", "span"] f__law_draw := ok__law_draw T D
  exact fo_mk D.d__law_some_move sc__law_some_move fun f cdv A up s H E hr hgu W tk => (rss_one (rs_ret (re_tup (ra_cons (re_fo (F__law_some_turn.up (by decide)) hr hgu tk rfl (ra_cons (re_var (pv 0)) (ra_cons (re_var (pv 1)) ra_nil))) (ra_cons (re_tuple rfl T.b_tuple (re_f (rf_comp (own := [("k", 3)]) rfl sc__law_some_move.nd (ri_range1 rfl T.b_range (re_var (pv 1))) (blkOk_by (own := [("k", 3)]) (by kernel_rfl)) (fun _ _ _ _ _ => (rg_name (i := 3) sc__law_some_move.nd rfl (by first | exact Or.inl rfl | exact Or.inr rfl) (by first | exact Or.inr rfl | exact Or.inl rfl))) (fun _ _ _ _ _ => rts_nil) (fun _ _ _ _ _ => (re_sub (re_fo (F__law_draw.up (by decide)) hr hgu takesN rfl (ra_cons (re_var (pv 0)) (ra_cons (re_addP (re_mulP re_int (re_var (pv 2))) re_int) ra_nil))) (re_var (pv 2)))) (by decide)))) ra_nil)))))
theorem ok__law_moved (T : Fx P K mg tb) (D : Ds K mg) : FoX P w K mg gb tb 1 "_law_moved" ["point_so", "turn_so", "shift_so"] f__law_moved := by
  exact fo_mk D.d__law_moved sc__law_moved fun f cdv A up s H E hr hgu W tk => (rss_one (rs_ret (re_tuple rfl T.b_tuple (re_f (rf_comp (own := [("line_so", 3), ("k", 4)]) rfl sc__law_moved.nd (ri_zip rfl T.b_zip (re_var (pv 1)) (re_var (pv 2))) (blkOk_by (own := [("line_so", 3), ("k", 4)]) (by kernel_rfl)) (fun _ _ _ _ _ => (rg_tup rfl (rgs_cons (rg_name (i := 3) sc__law_moved.nd rfl (by first | exact Or.inl rfl | exact Or.inr rfl) (by first | exact Or.inr rfl | exact Or.inl rfl)) (rgs_cons (rg_name (i := 4) sc__law_moved.nd rfl (by first | exact Or.inl rfl | exact Or.inr rfl) (by first | exact Or.inr rfl | exact Or.inl rfl)) rgs_nil)))) (fun _ _ _ _ _ => rts_nil) (fun _ _ _ _ _ => (re_addP (re_sum rfl rfl T.b_sum (re_f (rf_comp (own := [("one", 5), ("two", 6)]) rfl sc__law_moved.nd (ri_zip rfl T.b_zip (re_var (pv 3)) (re_var (pv 0))) (blkOk_by (own := [("one", 5), ("two", 6)]) (by kernel_rfl)) (fun _ _ _ _ _ => (rg_tup rfl (rgs_cons (rg_name (i := 5) sc__law_moved.nd rfl (by first | exact Or.inl rfl | exact Or.inr rfl) (by first | exact Or.inr rfl | exact Or.inl rfl)) (rgs_cons (rg_name (i := 6) sc__law_moved.nd rfl (by first | exact Or.inl rfl | exact Or.inr rfl) (by first | exact Or.inr rfl | exact Or.inl rfl)) rgs_nil)))) (fun _ _ _ _ _ => rts_nil) (fun _ _ _ _ _ => (re_mulP (re_var (pv 5)) (re_var (pv 6)))) (by decide)))) (re_var (pv 4)))) (by decide))))))
theorem ok__law_called (T : Fx P K mg tb) (D : Ds K mg) : FoX P w K mg gb tb 7 "_law_called" ["call", "things"] f__law_called := by
  have D_ : ∀ n, n < nDisp → Ft P w K mg gb tb 6 n (disp n) := fun n hn => match n, hn with
    | 0, _ => (ft_of (ok_composed T D) T.f_composed).up (by decide)
    | 1, _ => (ft_of (ok_moved_point T D) T.f_moved_point).up (by decide)
    | 2, _ => (ft_of (ok_inverse_move T D) T.f_inverse_move).up (by decide)
    | 3, _ => (ft_of (ok_need_move T D) T.f_need_move).up (by decide)
    | 4, _ => (ft_of (ok_move_sign T D) T.f_move_sign).up (by decide)
    | 5, _ => (ft_of (ok_moved_body T D) T.f_moved_body).up (by decide)
    | 6, _ => (ft_of (ok_plain_move T D) T.f_plain_move).up (by decide)
    | n + 7, h => absurd h (by simp)
  exact fo_mk D.d__law_called sc__law_called fun f cdv A up s H E hr hgu W tk => (rss_cons (rs_if (rt_eq hr (re_len rfl T.b_len (re_var (pv 1))) re_int) (rss_one (rs_ret (re_callL (i := 0) (fun n hn => (D_ n hn).up (by decide)) hr hgu tk rfl (by first | exact Or.inl rfl | exact Or.inr (Or.inl rfl) | exact Or.inr (Or.inr rfl)) (ra_cons (re_at (re_var (pv 1)) re_int) ra_nil)))) rss_nil) (rss_cons (rs_if (rt_eq hr (re_len rfl T.b_len (re_var (pv 1))) re_int) (rss_one (rs_ret (re_callL (i := 0) (fun n hn => (D_ n hn).up (by decide)) hr hgu tk rfl (by first | exact Or.inl rfl | exact Or.inr (Or.inl rfl) | exact Or.inr (Or.inr rfl)) (ra_cons (re_at (re_var (pv 1)) re_int) (ra_cons (re_at (re_var (pv 1)) re_int) ra_nil))))) rss_nil) (rss_one (rs_ret (re_callL (i := 0) (fun n hn => (D_ n hn).up (by decide)) hr hgu tk rfl (by first | exact Or.inl rfl | exact Or.inr (Or.inl rfl) | exact Or.inr (Or.inr rfl)) (ra_cons (re_at (re_var (pv 1)) re_int) (ra_cons (re_at (re_var (pv 1)) re_int) (ra_cons (re_at (re_var (pv 1)) re_int) ra_nil))))))))
theorem ok__law_heard (T : Fx P K mg tb) (D : Ds K mg) : FoX P w K mg gb tb 8 "_law_heard" ["call", "things"] f__law_heard := by
  have F__law_called : FoX P w K mg gb tb 7 "_law_called" ["call", "things"] f__law_called := ok__law_called T D
  exact fo_mk D.d__law_heard sc__law_heard fun f cdv A up s H E hr hgu W tk => (rss_one (rs_try T.exm rfl rfl sc__law_heard.nd tk (fun W' pn xe tk' hp' => (rss_one (rs_ret (re_f (rf_lst (ra_cons (re_fo (F__law_called.up (by decide)) hr hgu tk' rfl (ra_cons (re_var (pv 0)) (ra_cons (re_var (pv 1)) ra_nil))) ra_nil)))))) (rc_fld (i := 2) T.e_BadMove rfl rfl rfl (by decide) (rc_fld (i := 2) T.e_BadPoint rfl rfl rfl (by decide) (rc_fld (i := 2) T.e_BadNumber rfl rfl rfl (by decide) (rc_fld (i := 2) T.e_TooGreat rfl rfl rfl (by decide) (rc_sts T.e_Unlike.gC rfl (by decide) (fun _ _ => (rss_one (rs_ret (re_tup (ra_cons re_str (ra_cons re_int ra_nil)))))) .nil)))))))
theorem ok__law_like (T : Fx P K mg tb) (D : Ds K mg) : FoX P w K mg gb tb 1 "_law_like" ["told", "due"] f__law_like := by
  exact fo_mk D.d__law_like sc__law_like fun f cdv A up s H E hr hgu W tk => (rss_one (rs_ret (re_and (re_eq hr (re_var (pv 0)) (re_var (pv 1))) (re_one (re_eqS (re_repr hgu hr rfl T.b_repr (re_var (pv 0))) (re_repr hgu hr rfl T.b_repr (re_var (pv 1))))))))
theorem okn__law_det (T : Fx P K mg tb) (D : Ds K mg) : ∀ j, FoX P w K mg gb tb (0 + j) "_law_det" ["lines_so"] (f__law_det j)
  | 0 => fo_no D.d__law_det
  | j + 1 => by
    have F_rec := okn__law_det T D j
    exact fo_mk D.d__law_det sc__law_det fun f cdv A up s H E hr hgu W tk => (rss_cons (rs_if (rt_eq hr (re_len rfl T.b_len (re_var (pv 0))) re_int) (rss_one (rs_ret (re_at (re_at (re_var (pv 0)) re_int) re_int))) rss_nil) (rss_cons (rs_set (i := 1) sc__law_det.nd rfl (by first | exact Or.inl rfl | exact Or.inr rfl) re_int (by first | exact Or.inr rfl | exact Or.inl rfl)) (rss_cons (rs_for (passes_of rfl) rfl (ri_enum rfl T.b_enumerate (re_at (re_var (pv 0)) re_int)) (rg_tup rfl (rgs_cons (rg_name (i := 2) sc__law_det.nd rfl (by first | exact Or.inl rfl | exact Or.inr rfl) (by first | exact Or.inr rfl | exact Or.inl rfl)) (rgs_cons (rg_name (i := 3) sc__law_det.nd rfl (by first | exact Or.inl rfl | exact Or.inr rfl) (by first | exact Or.inr rfl | exact Or.inl rfl)) rgs_nil))) (rss_cons (rs_newC (i := 4) (own := [("line", 5)]) rfl sc__law_det.nd rfl rfl (sw_true rfl rfl rfl rfl) (ri_seq (re_slP (re_var (pv 0)) (ro_yes re_int) ro_no)) (blkOk_by (own := [("line", 5)]) (by kernel_rfl)) (fun _ _ _ _ _ => (rg_name (i := 5) sc__law_det.nd rfl (by first | exact Or.inl rfl | exact Or.inr rfl) (by first | exact Or.inr rfl | exact Or.inl rfl))) (fun _ _ _ _ _ => rts_nil) (fun _ _ _ _ _ => (re_tuple rfl T.b_tuple (re_f (rf_comp (own := [("j", 6), ("two", 7)]) rfl sc__law_det.nd (ri_enum rfl T.b_enumerate (re_var (pv 5))) (blkOk_by (own := [("j", 6), ("two", 7)]) (by kernel_rfl)) (fun _ _ _ _ _ => (rg_tup rfl (rgs_cons (rg_name (i := 6) sc__law_det.nd rfl (by first | exact Or.inl rfl | exact Or.inr rfl) (by first | exact Or.inr rfl | exact Or.inl rfl)) (rgs_cons (rg_name (i := 7) sc__law_det.nd rfl (by first | exact Or.inl rfl | exact Or.inr rfl) (by first | exact Or.inr rfl | exact Or.inl rfl)) rgs_nil)))) (fun _ _ _ _ _ => (rts_one (rt_ne hr (re_var (pv 6)) (re_var (pv 2))))) (fun _ _ _ _ _ => (re_var (pv 7))) (by decide))))) (by decide)) (rss_one (rs_set (i := 1) sc__law_det.nd rfl (by first | exact Or.inl rfl | exact Or.inr rfl) (re_addP (re_var (pv 1)) (re_mulP (re_if (rt_eq hr (re_mod (re_var (pv 2)) re_int) re_int) (re_var (pv 3)) (re_neg (re_var (pv 3)))) (re_fo F_rec hr hgu tk rfl (ra_cons (re_var (pv 4)) ra_nil)))) (by first | exact Or.inr rfl | exact Or.inl rfl))))) (rss_one (rs_ret (re_var (pv 1)))))))
theorem ok__law_det (T : Fx P K mg tb) (D : Ds K mg) : FoX P w K mg gb tb 5 "_law_det" ["lines_so"] (f__law_det fuel__law_det) := (okn__law_det T D fuel__law_det).up (by decide)
theorem ok__law_two_right (T : Fx P K mg tb) (D : Ds K mg) : FoX P w K mg gb tb 9 "_law_two_right" ["m", "one", "two", "spot"] f__law_two_right := by
  have F__law_moved : FoX P w K mg gb tb 1 "_law_moved" ["point_so", "turn_so", "shift_so"] f__law_moved := ok__law_moved T D
  have F__law_heard : FoX P w K mg gb tb 8 "_law_heard" ["call", "things"] f__law_heard := ok__law_heard T D
  have F__law_like : FoX P w K mg gb tb 1 "_law_like" ["told", "due"] f__law_like := ok__law_like T D
  have F_move_sign : FoX P w K mg gb tb 6 "move_sign" ["move"] f_move_sign := ok_move_sign T D
  have F__law_det : FoX P w K mg gb tb 5 "_law_det" ["lines_so"] (f__law_det fuel__law_det) := ok__law_det T D
  have F_composed : FoX P w K mg gb tb 6 "composed" ["move", "far_move"] f_composed := ok_composed T D
  have F_plain_move : FoX P w K mg gb tb 3 "plain_move" ["axes"] f_plain_move := ok_plain_move T D
  exact fo_mk D.d__law_two_right sc__law_two_right fun f cdv A up s H E hr hgu W tk => (rss_cons (rs_set (i := 4) sc__law_two_right.nd rfl (by first | exact Or.inl rfl | exact Or.inr rfl) (re_len rfl T.b_len (re_var (pv 3))) (by first | exact Or.inr rfl | exact Or.inl rfl)) (rss_cons (rs_set (i := 5) sc__law_two_right.nd rfl (by first | exact Or.inl rfl | exact Or.inr rfl) (re_tuple rfl T.b_tuple (re_f (rf_comp (own := [("k", 12)]) rfl sc__law_two_right.nd (ri_range1 rfl T.b_range (re_var (pv 4))) (blkOk_by (own := [("k", 12)]) (by kernel_rfl)) (fun _ _ _ _ _ => (rg_name (i := 12) sc__law_two_right.nd rfl (by first | exact Or.inl rfl | exact Or.inr rfl) (by first | exact Or.inr rfl | exact Or.inl rfl))) (fun _ _ _ _ _ => rts_nil) (fun _ _ _ _ _ => (re_tuple rfl T.b_tuple (re_f (rf_comp (own := [("j", 13)]) rfl sc__law_two_right.nd (ri_range1 rfl T.b_range (re_var (pv 4))) (blkOk_by (own := [("j", 13)]) (by kernel_rfl)) (fun _ _ _ _ _ => (rg_name (i := 13) sc__law_two_right.nd rfl (by first | exact Or.inl rfl | exact Or.inr rfl) (by first | exact Or.inr rfl | exact Or.inl rfl))) (fun _ _ _ _ _ => rts_nil) (fun _ _ _ _ _ => (re_sum rfl rfl T.b_sum (re_f (rf_comp (own := [("i", 14)]) rfl sc__law_two_right.nd (ri_range1 rfl T.b_range (re_var (pv 4))) (blkOk_by (own := [("i", 14)]) (by kernel_rfl)) (fun _ _ _ _ _ => (rg_name (i := 14) sc__law_two_right.nd rfl (by first | exact Or.inl rfl | exact Or.inr rfl) (by first | exact Or.inr rfl | exact Or.inl rfl))) (fun _ _ _ _ _ => rts_nil) (fun _ _ _ _ _ => (re_mulP (re_at (re_at (re_at (re_var (pv 2)) re_int) (re_var (pv 12))) (re_var (pv 14))) (re_at (re_at (re_at (re_var (pv 1)) re_int) (re_var (pv 14))) (re_var (pv 13))))) (by decide))))) (by decide))))) (by decide)))) (by first | exact Or.inr rfl | exact Or.inl rfl)) (rss_cons (rs_set (i := 6) sc__law_two_right.nd rfl (by first | exact Or.inl rfl | exact Or.inr rfl) (re_tup (ra_cons (re_var (pv 5)) (ra_cons (re_fo (F__law_moved.up (by decide)) hr hgu tk rfl (ra_cons (re_at (re_var (pv 1)) re_int) (ra_cons (re_at (re_var (pv 2)) re_int) (ra_cons (re_at (re_var (pv 2)) re_int) ra_nil)))) ra_nil))) (by first | exact Or.inr rfl | exact Or.inl rfl)) (rss_cons (rs_set (i := 7) sc__law_two_right.nd rfl (by first | exact Or.inl rfl | exact Or.inr rfl) (re_max rfl rfl T.b_max (re_f (rf_comp (own := [("line", 15)]) rfl sc__law_two_right.nd (ri_seq (re_addP (re_var (pv 5)) (re_tup (ra_cons (re_at (re_var (pv 6)) re_int) ra_nil)))) (blkOk_by (own := [("line", 15)]) (by kernel_rfl)) (fun _ _ _ _ _ => (rg_name (i := 15) sc__law_two_right.nd rfl (by first | exact Or.inl rfl | exact Or.inr rfl) (by first | exact Or.inr rfl | exact Or.inl rfl))) (fun _ _ _ _ _ => rts_nil) (fun _ _ _ _ _ => (re_max rfl rfl T.b_max (re_f (rf_comp (own := [("a", 16)]) rfl sc__law_two_right.nd (ri_seq (re_var (pv 15))) (blkOk_by (own := [("a", 16)]) (by kernel_rfl)) (fun _ _ _ _ _ => (rg_name (i := 16) sc__law_two_right.nd rfl (by first | exact Or.inl rfl | exact Or.inr rfl) (by first | exact Or.inr rfl | exact Or.inl rfl))) (fun _ _ _ _ _ => rts_nil) (fun _ _ _ _ _ => (re_abs rfl T.b_abs (re_var (pv 16)))) (by decide))))) (by decide)))) (by first | exact Or.inr rfl | exact Or.inl rfl)) (rss_cons (rs_set (i := 8) sc__law_two_right.nd rfl (by first | exact Or.inl rfl | exact Or.inr rfl) (re_fo (F__law_heard.up (by decide)) hr hgu tk rfl (ra_cons (re_globF rfl T.f_composed) (ra_cons (re_tup (ra_cons (re_var (pv 1)) (ra_cons (re_var (pv 2)) ra_nil))) ra_nil))) (by first | exact Or.inr rfl | exact Or.inl rfl)) (rss_cons (rs_if (rt_not (rt_of (re_fo (F__law_like.up (by decide)) hr hgu tk rfl (ra_cons (re_var (pv 8)) (ra_cons (re_if (rt_le (re_var (pv 7)) re_int) (re_f (rf_lst (ra_cons (re_var (pv 6)) ra_nil))) (re_tup (ra_cons re_str (ra_cons re_int ra_nil)))) ra_nil))))) (rss_one (rs_ret re_bl)) rss_nil) (rss_cons (rs_set (i := 9) sc__law_two_right.nd rfl (by first | exact Or.inl rfl | exact Or.inr rfl) (re_fo (F__law_moved.up (by decide)) hr hgu tk rfl (ra_cons (re_var (pv 3)) (ra_cons (re_at (re_var (pv 1)) re_int) (ra_cons (re_at (re_var (pv 1)) re_int) ra_nil)))) (by first | exact Or.inr rfl | exact Or.inl rfl)) (rss_cons (rs_if (rt_not (rt_of (re_fo (F__law_like.up (by decide)) hr hgu tk rfl (ra_cons (re_fo (F__law_heard.up (by decide)) hr hgu tk rfl (ra_cons (re_globF rfl T.f_moved_point) (ra_cons (re_tup (ra_cons (re_var (pv 1)) (ra_cons (re_var (pv 3)) ra_nil))) ra_nil))) (ra_cons (re_if (rt_le (re_max rfl rfl T.b_max (re_f (rf_comp (own := [("a", 16)]) rfl sc__law_two_right.nd (ri_seq (re_var (pv 9))) (blkOk_by (own := [("a", 16)]) (by kernel_rfl)) (fun _ _ _ _ _ => (rg_name (i := 16) sc__law_two_right.nd rfl (by first | exact Or.inl rfl | exact Or.inr rfl) (by first | exact Or.inr rfl | exact Or.inl rfl))) (fun _ _ _ _ _ => rts_nil) (fun _ _ _ _ _ => (re_abs rfl T.b_abs (re_var (pv 16)))) (by decide)))) re_int) (re_f (rf_lst (ra_cons (re_var (pv 9)) ra_nil))) (re_tup (ra_cons re_str (ra_cons re_int ra_nil)))) ra_nil))))) (rss_one (rs_ret re_bl)) rss_nil) (rss_cons (rs_if (rt_not (rt_of (re_fo (F__law_like.up (by decide)) hr hgu tk rfl (ra_cons (re_foK (F_move_sign.up (by decide)) hr hgu tk rfl (rk_cons (re_var (pv 1)) rk_nil)) (ra_cons (re_fo (F__law_det.up (by decide)) hr hgu tk rfl (ra_cons (re_at (re_var (pv 1)) re_int) ra_nil)) ra_nil))))) (rss_one (rs_ret re_bl)) rss_nil) (rss_cons (rs_set (i := 10) sc__law_two_right.nd rfl (by first | exact Or.inl rfl | exact Or.inr rfl) (re_fo (F__law_heard.up (by decide)) hr hgu tk rfl (ra_cons (re_globF rfl T.f_inverse_move) (ra_cons (re_tup (ra_cons (re_var (pv 1)) ra_nil)) ra_nil))) (by first | exact Or.inr rfl | exact Or.inl rfl)) (rss_cons (rs_if (rt_not (rt_of (re_isi (T := "list") rfl rfl T.b_isinstance rfl T.b_list (by decide +kernel) (re_var (pv 10))))) (rss_one (rs_ret (re_and (re_eq hr (re_var (pv 10)) (re_tup (ra_cons re_str (ra_cons re_int ra_nil)))) (re_one (re_gt (re_var (pv 4)) re_int))))) rss_nil) (rss_cons (rs_set (i := 11) sc__law_two_right.nd rfl (by first | exact Or.inl rfl | exact Or.inr rfl) (re_tup (ra_cons (re_tuple rfl T.b_tuple (re_f (rf_comp (own := [("k", 12)]) rfl sc__law_two_right.nd (ri_range1 rfl T.b_range (re_var (pv 4))) (blkOk_by (own := [("k", 12)]) (by kernel_rfl)) (fun _ _ _ _ _ => (rg_name (i := 12) sc__law_two_right.nd rfl (by first | exact Or.inl rfl | exact Or.inr rfl) (by first | exact Or.inr rfl | exact Or.inl rfl))) (fun _ _ _ _ _ => rts_nil) (fun _ _ _ _ _ => (re_tuple rfl T.b_tuple (re_f (rf_comp (own := [("j", 13)]) rfl sc__law_two_right.nd (ri_range1 rfl T.b_range (re_var (pv 4))) (blkOk_by (own := [("j", 13)]) (by kernel_rfl)) (fun _ _ _ _ _ => (rg_name (i := 13) sc__law_two_right.nd rfl (by first | exact Or.inl rfl | exact Or.inr rfl) (by first | exact Or.inr rfl | exact Or.inl rfl))) (fun _ _ _ _ _ => rts_nil) (fun _ _ _ _ _ => (re_int1 rfl T.b_int (re_eq hr (re_var (pv 12)) (re_var (pv 13))))) (by decide))))) (by decide)))) (ra_cons (re_mulP (re_tup (ra_cons re_int ra_nil)) (re_var (pv 4))) ra_nil))) (by first | exact Or.inr rfl | exact Or.inl rfl)) (rss_one (rs_ret (re_fo (F__law_like.up (by decide)) hr hgu tk rfl (ra_cons (re_f (rf_lst (ra_cons (re_foK (F_composed.up (by decide)) hr hgu tk rfl (rk_cons (re_var (pv 1)) (rk_cons (re_at (re_var (pv 10)) re_int) rk_nil))) (ra_cons (re_fo (F_composed.up (by decide)) hr hgu tk rfl (ra_cons (re_at (re_var (pv 10)) re_int) (ra_cons (re_var (pv 1)) ra_nil))) (ra_cons (re_foK (F_plain_move.up (by decide)) hr hgu tk rfl (rk_cons (re_var (pv 4)) rk_nil)) ra_nil))))) (ra_cons (re_mulP (re_f (rf_lst (ra_cons (re_var (pv 11)) ra_nil))) re_int) ra_nil)))))))))))))))))
theorem ok__law_is_from (T : Fx P K mg tb) (D : Ds K mg) : FoX P w K mg gb tb 1 "_law_is_from" ["thing", "low", "high"] f__law_is_from := by
  exact fo_mk D.d__law_is_from sc__law_is_from fun f cdv A up s H E hr hgu W tk => (rss_one (rs_ret (re_and (re_isi (T := "int") rfl rfl T.b_isinstance rfl T.b_int (by decide +kernel) (re_var (pv 0))) (re_and (re_not (re_isi (T := "bool") rfl rfl T.b_isinstance rfl T.b_bool (by decide +kernel) (re_var (pv 0)))) (re_one (re_lele (re_var (pv 1)) (re_var (pv 0)) (re_var (pv 2))))))))
theorem ok__law_is_spot (T : Fx P K mg tb) (D : Ds K mg) : FoX P w K mg gb tb 2 "_law_is_spot" ["deep", "thing"] f__law_is_spot := by
  have F__law_is_from : FoX P w K mg gb tb 1 "_law_is_from" ["thing", "low", "high"] f__law_is_from := ok__law_is_from T D
  exact fo_mk D.d__law_is_spot sc__law_is_spot fun f cdv A up s H E hr hgu W tk => (rss_cons (rs_if (rt_w (rw_or (rt_not (rt_of (re_isi (T := "tuple") rfl rfl T.b_isinstance rfl T.b_tuple (by decide +kernel) (re_var (pv 1))))) (rw_or1 (rt_ne hr (re_len rfl T.b_len (re_var (pv 1))) (re_var (pv 0)))))) (rss_one (rs_ret re_bl)) rss_nil) (rss_one (rs_ret (re_eq hr (re_f (rf_comp (own := [("one", 2)]) rfl sc__law_is_spot.nd (ri_seq (re_var (pv 1))) (blkOk_by (own := [("one", 2)]) (by kernel_rfl)) (fun _ _ _ _ _ => (rg_name (i := 2) sc__law_is_spot.nd rfl (by first | exact Or.inl rfl | exact Or.inr rfl) (by first | exact Or.inr rfl | exact Or.inl rfl))) (fun _ _ _ _ _ => (rts_one (rt_not (rt_of (re_fo (F__law_is_from.up (by decide)) hr hgu takesN rfl (ra_cons (re_var (pv 2)) (ra_cons (re_neg re_int) (ra_cons re_int ra_nil)))))))) (fun _ _ _ _ _ => re_int) (by decide))) (re_f (rf_lst ra_nil))))))
theorem ok__law_fault (T : Fx P K mg tb) (D : Ds K mg) : FoX P w K mg gb tb 6 "_law_fault" ["thing"] f__law_fault := by
  have F__law_is_from : FoX P w K mg gb tb 1 "_law_is_from" ["thing", "low", "high"] f__law_is_from := ok__law_is_from T D
  have F__law_det : FoX P w K mg gb tb 5 "_law_det" ["lines_so"] (f__law_det fuel__law_det) := ok__law_det T D
  have F__law_is_spot : FoX P w K mg gb tb 2 "_law_is_spot" ["deep", "thing"] f__law_is_spot := ok__law_is_spot T D
  exact fo_mk D.d__law_fault sc__law_fault fun f cdv A up s H E hr hgu W tk => (rss_cons (rs_if (rt_w (rw_or (rt_not (rt_of (re_isi (T := "tuple") rfl rfl T.b_isinstance rfl T.b_tuple (by decide +kernel) (re_var (pv 0))))) (rw_or1 (rt_ne hr (re_len rfl T.b_len (re_var (pv 0))) re_int)))) (rss_one (rs_ret (re_tup ra_nil))) rss_nil) (rss_cons (rs_set (i := 1) sc__law_fault.nd rfl (by first | exact Or.inl rfl | exact Or.inr rfl) (re_at (re_var (pv 0)) re_int) (by first | exact Or.inr rfl | exact Or.inl rfl)) (rss_cons (rs_if (rt_w (rw_or (rt_not (rt_of (re_isi (T := "tuple") rfl rfl T.b_isinstance rfl T.b_tuple (by decide +kernel) (re_var (pv 1))))) (rw_or1 (rt_not (rt_lele re_int (re_len rfl T.b_len (re_var (pv 1))) re_int))))) (rss_one (rs_ret (re_tup (ra_cons re_int ra_nil)))) rss_nil) (rss_cons (rs_for (passes_of rfl) rfl (ri_enum rfl T.b_enumerate (re_var (pv 1))) (rg_tup rfl (rgs_cons (rg_name (i := 2) sc__law_fault.nd rfl (by first | exact Or.inl rfl | exact Or.inr rfl) (by first | exact Or.inr rfl | exact Or.inl rfl)) (rgs_cons (rg_name (i := 3) sc__law_fault.nd rfl (by first | exact Or.inl rfl | exact Or.inr rfl) (by first | exact Or.inr rfl | exact Or.inl rfl)) rgs_nil))) (rss_cons (rs_if (rt_w (rw_or (rt_not (rt_of (re_isi (T := "tuple") rfl rfl T.b_isinstance rfl T.b_tuple (by decide +kernel) (re_var (pv 3))))) (rw_or1 (rt_ne hr (re_len rfl T.b_len (re_var (pv 3))) (re_len rfl T.b_len (re_var (pv 1))))))) (rss_one (rs_ret (re_tup (ra_cons re_int (ra_cons (re_var (pv 2)) ra_nil))))) rss_nil) (rss_one (rs_for (passes_of rfl) rfl (ri_enum rfl T.b_enumerate (re_var (pv 3))) (rg_tup rfl (rgs_cons (rg_name (i := 4) sc__law_fault.nd rfl (by first | exact Or.inl rfl | exact Or.inr rfl) (by first | exact Or.inr rfl | exact Or.inl rfl)) (rgs_cons (rg_name (i := 5) sc__law_fault.nd rfl (by first | exact Or.inl rfl | exact Or.inr rfl) (by first | exact Or.inr rfl | exact Or.inl rfl)) rgs_nil))) (rss_one (rs_if (rt_not (rt_of (re_fo (F__law_is_from.up (by decide)) hr hgu tk rfl (ra_cons (re_var (pv 5)) (ra_cons (re_neg re_int) (ra_cons re_int ra_nil)))))) (rss_one (rs_ret (re_tup (ra_cons re_int (ra_cons (re_var (pv 2)) (ra_cons (re_var (pv 4)) ra_nil)))))) rss_nil)))))) (rss_cons (rs_if (rt_ne hr (re_abs rfl T.b_abs (re_fo (F__law_det.up (by decide)) hr hgu tk rfl (ra_cons (re_var (pv 1)) ra_nil))) re_int) (rss_one (rs_ret (re_tup (ra_cons re_int ra_nil)))) rss_nil) (rss_one (rs_ret (re_if (rt_of (re_fo (F__law_is_spot.up (by decide)) hr hgu tk rfl (ra_cons (re_len rfl T.b_len (re_var (pv 1))) (ra_cons (re_at (re_var (pv 0)) re_int) ra_nil)))) re_non (re_tup (ra_cons re_int ra_nil))))))))))
theorem ok__law_judged_right (T : Fx P K mg tb) (D : Ds K mg) : FoX P w K mg gb tb 9 "_law_judged_right" ["thing"] f__law_judged_right := by
  have F__law_fault : FoX P w K mg gb tb 6 "_law_fault" ["thing"] f__law_fault := ok__law_fault T D
  have F__law_like : FoX P w K mg gb tb 1 "_law_like" ["told", "due"] f__law_like := ok__law_like T D
  have F_need_move : FoX P w K mg gb tb 5 "need_move" ["move"] f_need_move := ok_need_move T D
  have F__law_heard : FoX P w K mg gb tb 8 "_law_heard" ["call", "things"] f__law_heard := ok__law_heard T D
  exact fo_mk D.d__law_judged_right sc__law_judged_right fun f cdv A up s H E hr hgu W tk => (rss_cons (rs_set (i := 1) sc__law_judged_right.nd rfl (by first | exact Or.inl rfl | exact Or.inr rfl) (re_fo (F__law_fault.up (by decide)) hr hgu tk rfl (ra_cons (re_var (pv 0)) ra_nil)) (by first | exact Or.inr rfl | exact Or.inl rfl)) (rss_cons (rs_if (rt_isN (re_var (pv 1)) re_non) (rss_one (rs_ret (re_fo (F__law_like.up (by decide)) hr hgu tk rfl (ra_cons (re_foK (F_need_move.up (by decide)) hr hgu tk rfl (rk_cons (re_var (pv 0)) rk_nil)) (ra_cons (re_var (pv 0)) ra_nil))))) rss_nil) (rss_cons (rs_newC (i := 2) (own := [("call", 4)]) rfl sc__law_judged_right.nd rfl rfl (sw_true rfl rfl rfl rfl) (ri_seq (re_tup (ra_cons (re_globF rfl T.f_need_move) (ra_cons (re_globF rfl T.f_inverse_move) (ra_cons (re_globF rfl T.f_move_sign) ra_nil))))) (blkOk_by (own := [("call", 4)]) (by kernel_rfl)) (fun _ _ _ _ _ => (rg_name (i := 4) sc__law_judged_right.nd rfl (by first | exact Or.inl rfl | exact Or.inr rfl) (by first | exact Or.inr rfl | exact Or.inl rfl))) (fun _ _ _ _ _ => rts_nil) (fun _ _ _ _ _ => (re_fo (F__law_heard.up (by decide)) hr hgu takesN rfl (ra_cons (re_var (pv 4)) (ra_cons (re_tup (ra_cons (re_var (pv 0)) ra_nil)) ra_nil)))) (by decide)) (rss_cons (rs_set (i := 2) sc__law_judged_right.nd rfl (by first | exact Or.inl rfl | exact Or.inr rfl) (re_addP (re_var (pv 2)) (re_f (rf_comp (own := [("call", 4)]) rfl sc__law_judged_right.nd (ri_seq (re_tup (ra_cons (re_globF rfl T.f_moved_point) (ra_cons (re_globF rfl T.f_moved_body) (ra_cons (re_globF rfl T.f_composed) ra_nil))))) (blkOk_by (own := [("call", 4)]) (by kernel_rfl)) (fun _ _ _ _ _ => (rg_name (i := 4) sc__law_judged_right.nd rfl (by first | exact Or.inl rfl | exact Or.inr rfl) (by first | exact Or.inr rfl | exact Or.inl rfl))) (fun _ _ _ _ _ => rts_nil) (fun _ _ _ _ _ => (re_fo (F__law_heard.up (by decide)) hr hgu takesN rfl (ra_cons (re_var (pv 4)) (ra_cons (re_tup (ra_cons (re_var (pv 0)) (ra_cons re_non ra_nil))) ra_nil)))) (by decide)))) (by first | exact Or.inr rfl | exact Or.inl rfl)) (rss_cons (rs_set (i := 3) sc__law_judged_right.nd rfl (by first | exact Or.inl rfl | exact Or.inr rfl) (re_tup (ra_cons (re_tup (ra_cons (re_tup (ra_cons (re_tup (ra_cons re_int ra_nil)) ra_nil)) (ra_cons (re_tup (ra_cons re_int ra_nil)) ra_nil))) (ra_cons (re_tup (ra_cons (re_tup (ra_cons (re_tup (ra_cons re_int (ra_cons re_int ra_nil))) (ra_cons (re_tup (ra_cons re_int (ra_cons re_int ra_nil))) ra_nil))) (ra_cons (re_tup (ra_cons re_int (ra_cons re_int ra_nil))) ra_nil))) ra_nil))) (by first | exact Or.inr rfl | exact Or.inl rfl)) (rss_cons (rs_set (i := 2) sc__law_judged_right.nd rfl (by first | exact Or.inl rfl | exact Or.inr rfl) (re_addP (re_var (pv 2)) (re_f (rf_comp (own := [("one", 5)]) rfl sc__law_judged_right.nd (ri_seq (re_var (pv 3))) (blkOk_by (own := [("one", 5)]) (by kernel_rfl)) (fun _ _ _ _ _ => (rg_name (i := 5) sc__law_judged_right.nd rfl (by first | exact Or.inl rfl | exact Or.inr rfl) (by first | exact Or.inr rfl | exact Or.inl rfl))) (fun _ _ _ _ _ => rts_nil) (fun _ _ _ _ _ => (re_fo (F__law_heard.up (by decide)) hr hgu takesN rfl (ra_cons (re_globF rfl T.f_composed) (ra_cons (re_tup (ra_cons (re_var (pv 5)) (ra_cons (re_var (pv 0)) ra_nil))) ra_nil)))) (by decide)))) (by first | exact Or.inr rfl | exact Or.inl rfl)) (rss_one (rs_ret (re_fo (F__law_like.up (by decide)) hr hgu tk rfl (ra_cons (re_var (pv 2)) (ra_cons (re_mulP (re_f (rf_lst (ra_cons (re_tup (ra_cons re_str (ra_cons (re_var (pv 1)) ra_nil))) ra_nil))) re_int) ra_nil)))))))))))
theorem ok__law_bent (T : Fx P K mg tb) (D : Ds K mg) : FoX P w K mg gb tb 3 "_law_bent" ["m", "thing"] f__law_bent := by
  have F__law_draw : FoX P w K mg gb tb 1 "_law_draw" ["m", "span"] f__law_draw := ok__law_draw T D
  have F__law_of : FoX P w K mg gb tb 2 "_law_of" ["m", "some"] f__law_of := ok__law_of T D
  exact fo_mk D.d__law_bent sc__law_bent fun f cdv A up s H E hr hgu W tk => (rss_cons (rs_asg (re_var (pv 1)) (rg_tup rfl (rgs_cons (rg_name (i := 2) sc__law_bent.nd rfl (by first | exact Or.inl rfl | exact Or.inr rfl) (by first | exact Or.inr rfl | exact Or.inl rfl)) (rgs_cons (rg_name (i := 3) sc__law_bent.nd rfl (by first | exact Or.inl rfl | exact Or.inr rfl) (by first | exact Or.inr rfl | exact Or.inl rfl)) rgs_nil)))) (rss_cons (rs_set (i := 4) sc__law_bent.nd rfl (by first | exact Or.inl rfl | exact Or.inr rfl) (re_len rfl T.b_len (re_var (pv 3))) (by first | exact Or.inr rfl | exact Or.inl rfl)) (rss_cons (rs_set (i := 5) sc__law_bent.nd rfl (by first | exact Or.inl rfl | exact Or.inr rfl) (re_f (rf_lst (ra_cons re_non (ra_cons (re_tup (ra_cons (re_var (pv 2)) ra_nil)) (ra_cons (re_f (rf_lst (ra_cons (re_var (pv 2)) (ra_cons (re_var (pv 3)) ra_nil)))) (ra_cons (re_tup (ra_cons (re_var (pv 2)) (ra_cons (re_var (pv 3)) (ra_cons re_int ra_nil)))) (ra_cons (re_tup (ra_cons (re_f (rf_list rfl T.b_list (re_var (pv 2)))) (ra_cons (re_var (pv 3)) ra_nil))) (ra_cons (re_tup (ra_cons (re_addP (re_var (pv 2)) (re_slP (re_var (pv 2)) ro_no (ro_yes re_int))) (ra_cons (re_var (pv 3)) ra_nil))) (ra_cons (re_tup (ra_cons (re_var (pv 2)) (ra_cons (re_addP (re_var (pv 3)) (re_tup (ra_cons re_int ra_nil))) ra_nil))) (ra_cons (re_tup (ra_cons (re_var (pv 2)) (ra_cons (re_f (rf_list rfl T.b_list (re_var (pv 3)))) ra_nil))) ra_nil)))))))))) (by first | exact Or.inr rfl | exact Or.inl rfl)) (rss_cons (rs_set (i := 5) sc__law_bent.nd rfl (by first | exact Or.inl rfl | exact Or.inr rfl) (re_addP (re_var (pv 5)) (re_f (rf_lst (ra_cons (re_tup (ra_cons (re_tup ra_nil) (ra_cons (re_tup ra_nil) ra_nil))) (ra_cons (re_tup (ra_cons (re_var (pv 2)) (ra_cons re_non ra_nil))) (ra_cons (re_tup (ra_cons (re_var (pv 2)) (ra_cons (re_mulP (re_tup (ra_cons re_int ra_nil)) (re_var (pv 4))) ra_nil))) (ra_cons (re_tup (ra_cons (re_var (pv 2)) (ra_cons (re_mulP (re_tup (ra_cons re_bl ra_nil)) (re_var (pv 4))) ra_nil))) (ra_cons (re_tup (ra_cons (re_mulP (re_tup (ra_cons (re_mulP (re_tup (ra_cons re_int ra_nil)) (re_var (pv 4))) ra_nil)) (re_var (pv 4))) (ra_cons re_non ra_nil))) (ra_cons (re_tup (ra_cons (re_mulP (re_slP (re_var (pv 2)) ro_no (ro_yes re_int)) re_int) (ra_cons (re_var (pv 3)) ra_nil))) ra_nil))))))))) (by first | exact Or.inr rfl | exact Or.inl rfl)) (rss_cons (rs_par rfl sc__law_bent.nd (i := 6) (j := 7) rfl rfl (by decide) rfl rfl (ra_cons (re_fo (F__law_draw.up (by decide)) hr hgu tk rfl (ra_cons (re_var (pv 0)) (ra_cons (re_var (pv 4)) ra_nil))) (ra_cons (re_fo (F__law_draw.up (by decide)) hr hgu tk rfl (ra_cons (re_var (pv 0)) (ra_cons (re_var (pv 4)) ra_nil))) ra_nil))) (rss_cons (rs_set (i := 8) sc__law_bent.nd rfl (by first | exact Or.inl rfl | exact Or.inr rfl) (re_fo (F__law_of.up (by decide)) hr hgu tk rfl (ra_cons (re_var (pv 0)) (ra_cons (re_f (rf_lst (ra_cons re_int (ra_cons (re_neg re_int) (ra_cons re_non (ra_cons re_bl (ra_cons re_str (ra_cons (re_tup (ra_cons re_int ra_nil)) (ra_cons (re_addP (re_at (re_at (re_var (pv 2)) (re_var (pv 6))) (re_var (pv 7))) re_int) (ra_cons re_int ra_nil)))))))))) ra_nil))) (by first | exact Or.inr rfl | exact Or.inl rfl)) (rss_cons (rs_par rfl sc__law_bent.nd (i := 9) (j := 10) rfl rfl (by decide) rfl rfl (ra_cons (re_at (re_var (pv 2)) (re_var (pv 6))) (ra_cons (re_slP (re_var (pv 2)) (ro_yes (re_addP (re_var (pv 6)) re_int)) ro_no) ra_nil))) (rss_cons (rs_set (i := 11) sc__law_bent.nd rfl (by first | exact Or.inl rfl | exact Or.inr rfl) (re_addP (re_addP (re_slP (re_var (pv 2)) ro_no (ro_yes (re_var (pv 6)))) (re_tup (ra_cons (re_addP (re_addP (re_slP (re_var (pv 9)) ro_no (ro_yes (re_var (pv 7)))) (re_tup (ra_cons (re_var (pv 8)) ra_nil))) (re_slP (re_var (pv 9)) (ro_yes (re_addP (re_var (pv 7)) re_int)) ro_no)) ra_nil))) (re_var (pv 10))) (by first | exact Or.inr rfl | exact Or.inl rfl)) (rss_cons (rs_set (i := 12) sc__law_bent.nd rfl (by first | exact Or.inl rfl | exact Or.inr rfl) (re_addP (re_addP (re_slP (re_var (pv 2)) ro_no (ro_yes (re_var (pv 6)))) (re_tup (ra_cons (re_fo (F__law_of.up (by decide)) hr hgu tk rfl (ra_cons (re_var (pv 0)) (ra_cons (re_f (rf_lst (ra_cons re_non (ra_cons (re_addP (re_var (pv 9)) (re_tup (ra_cons re_int ra_nil))) (ra_cons (re_f (rf_list rfl T.b_list (re_var (pv 9)))) (ra_cons (re_tup ra_nil) ra_nil)))))) ra_nil))) ra_nil))) (re_var (pv 10))) (by first | exact Or.inr rfl | exact Or.inl rfl)) (rss_one (rs_ret (re_fo (F__law_of.up (by decide)) hr hgu tk rfl (ra_cons (re_var (pv 0)) (ra_cons (re_addP (re_addP (re_addP (re_var (pv 5)) (re_mulP (re_f (rf_lst (ra_cons (re_tup (ra_cons (re_var (pv 11)) (ra_cons (re_var (pv 3)) ra_nil))) ra_nil))) re_int)) (re_mulP (re_f (rf_lst (ra_cons (re_tup (ra_cons (re_var (pv 12)) (ra_cons (re_var (pv 3)) ra_nil))) ra_nil))) re_int)) (re_f (rf_lst (ra_cons (re_tup (ra_cons (re_var (pv 11)) (ra_cons re_non ra_nil))) (ra_cons (re_tup (ra_cons (re_var (pv 12)) (ra_cons re_int ra_nil))) ra_nil))))) ra_nil))))))))))))))
theorem ok_law (T : Fx P K mg tb) (D : Ds K mg) : FoX P w K mg gb tb 10 "law" ["script"] f_law := by
  have F__law_begun : FoX P w K mg gb tb 1 "_law_begun" ["script", "turn"] f__law_begun := ok__law_begun T D
  have F__law_draw : FoX P w K mg gb tb 1 "_law_draw" ["m", "span"] f__law_draw := ok__law_draw T D
  have F__law_some_move : FoX P w K mg gb tb 5 "_law_some_move" ["m", "deep", "reach"] f__law_some_move := ok__law_some_move T D
  have F__law_of : FoX P w K mg gb tb 2 "_law_of" ["m", "some"] f__law_of := ok__law_of T D
  have F__law_two_right : FoX P w K mg gb tb 9 "_law_two_right" ["m", "one", "two", "spot"] f__law_two_right := ok__law_two_right T D
  have F__law_judged_right : FoX P w K mg gb tb 9 "_law_judged_right" ["thing"] f__law_judged_right := ok__law_judged_right T D
  have F__law_bent : FoX P w K mg gb tb 3 "_law_bent" ["m", "thing"] f__law_bent := ok__law_bent T D
  have F__law_like : FoX P w K mg gb tb 1 "_law_like" ["told", "due"] f__law_like := ok__law_like T D
  have F__law_heard : FoX P w K mg gb tb 8 "_law_heard" ["call", "things"] f__law_heard := ok__law_heard T D
  have F_need_move : FoX P w K mg gb tb 5 "need_move" ["move"] f_need_move := ok_need_move T D
  have F_inverse_move : FoX P w K mg gb tb 6 "inverse_move" ["move"] f_inverse_move := ok_inverse_move T D
  have F_moved_point : FoX P w K mg gb tb 6 "moved_point" ["move", "point"] f_moved_point := ok_moved_point T D
  exact fo_mk D.d_law sc_law fun f cdv A up s H E hr hgu W tk => (rss_cons (rs_for (passes_of rfl) rfl (ri_range1 rfl T.b_range (re_addP re_int (re_min2 rfl rfl T.b_min re_int (re_len rfl T.b_len (re_var (pv 0)))))) (rg_name (i := 1) sc_law.nd rfl (by first | exact Or.inl rfl | exact Or.inr rfl) (by first | exact Or.inr rfl | exact Or.inl rfl)) (rss_cons (rs_set (i := 2) sc_law.nd rfl (by first | exact Or.inl rfl | exact Or.inr rfl) (re_fo (F__law_begun.up (by decide)) hr hgu tk rfl (ra_cons (re_var (pv 0)) (ra_cons (re_var (pv 1)) ra_nil))) (by first | exact Or.inr rfl | exact Or.inl rfl)) (rss_cons (rs_set (i := 3) sc_law.nd rfl (by first | exact Or.inl rfl | exact Or.inr rfl) (re_addP re_int (re_fo (F__law_draw.up (by decide)) hr hgu tk rfl (ra_cons (re_var (pv 2)) (ra_cons re_int ra_nil)))) (by first | exact Or.inr rfl | exact Or.inl rfl)) (rss_cons (rs_par rfl sc_law.nd (i := 4) (j := 5) rfl rfl (by decide) rfl rfl (ra_cons (re_fo (F__law_some_move.up (by decide)) hr hgu tk rfl (ra_cons (re_var (pv 2)) (ra_cons (re_var (pv 3)) (ra_cons (re_fo (F__law_of.up (by decide)) hr hgu tk rfl (ra_cons (re_var (pv 2)) (ra_cons (re_f (rf_lst (ra_cons re_int (ra_cons re_int ra_nil)))) ra_nil))) ra_nil)))) (ra_cons (re_fo (F__law_some_move.up (by decide)) hr hgu tk rfl (ra_cons (re_var (pv 2)) (ra_cons (re_var (pv 3)) (ra_cons (re_fo (F__law_of.up (by decide)) hr hgu tk rfl (ra_cons (re_var (pv 2)) (ra_cons (re_f (rf_lst (ra_cons re_int (ra_cons re_int ra_nil)))) ra_nil))) ra_nil)))) ra_nil))) (rss_cons (rs_set (i := 6) sc_law.nd rfl (by first | exact Or.inl rfl | exact Or.inr rfl) (re_tuple rfl T.b_tuple (re_f (rf_comp (own := [("k", 13)]) rfl sc_law.nd (ri_range1 rfl T.b_range (re_var (pv 3))) (blkOk_by (own := [("k", 13)]) (by kernel_rfl)) (fun _ _ _ _ _ => (rg_name (i := 13) sc_law.nd rfl (by first | exact Or.inl rfl | exact Or.inr rfl) (by first | exact Or.inr rfl | exact Or.inl rfl))) (fun _ _ _ _ _ => rts_nil) (fun _ _ _ _ _ => (re_sub (re_fo (F__law_draw.up (by decide)) hr hgu takesN rfl (ra_cons (re_var (pv 2)) (ra_cons re_int ra_nil))) re_int)) (by decide)))) (by first | exact Or.inr rfl | exact Or.inl rfl)) (rss_cons (rs_if (rt_w (rw_or (rt_not (rt_of (re_fo (F__law_two_right.up (by decide)) hr hgu tk rfl (ra_cons (re_var (pv 2)) (ra_cons (re_var (pv 4)) (ra_cons (re_var (pv 5)) (ra_cons (re_var (pv 6)) ra_nil))))))) (rw_or1 (rt_not (rt_of (re_fo (F__law_two_right.up (by decide)) hr hgu tk rfl (ra_cons (re_var (pv 2)) (ra_cons (re_var (pv 5)) (ra_cons (re_var (pv 4)) (ra_cons (re_mulP (re_tup (ra_cons re_int ra_nil)) (re_var (pv 3))) ra_nil)))))))))) (rss_one (rs_ret re_bl)) rss_nil) (rss_cons (rs_for (passes_of rfl) rfl (ri_range1 rfl T.b_range re_int) (rg_name (i := 7) sc_law.nd rfl (by first | exact Or.inl rfl | exact Or.inr rfl) (by first | exact Or.inr rfl | exact Or.inl rfl)) (rss_one (rs_if (rt_not (rt_of (re_fo (F__law_judged_right.up (by decide)) hr hgu tk rfl (ra_cons (re_fo (F__law_bent.up (by decide)) hr hgu tk rfl (ra_cons (re_var (pv 2)) (ra_cons (re_var (pv 4)) ra_nil))) ra_nil)))) (rss_one (rs_ret re_bl)) rss_nil))) (rss_cons (rs_for (passes_of rfl) rfl (ri_seq (re_tup (ra_cons re_non (ra_cons (re_tup ra_nil) (ra_cons (re_mulP (re_tup (ra_cons re_int ra_nil)) (re_var (pv 3))) (ra_cons (re_mulP (re_f (rf_lst (ra_cons re_int ra_nil))) (re_var (pv 3))) (ra_cons (re_mulP (re_tup (ra_cons re_bl ra_nil)) (re_var (pv 3))) (ra_cons (re_mulP (re_tup (ra_cons re_int ra_nil)) re_int) (ra_cons re_int (ra_cons re_str ra_nil)))))))))) (rg_name (i := 8) sc_law.nd rfl (by first | exact Or.inl rfl | exact Or.inr rfl) (by first | exact Or.inr rfl | exact Or.inl rfl)) (rss_one (rs_if (rt_not (rt_of (re_fo (F__law_like.up (by decide)) hr hgu tk rfl (ra_cons (re_fo (F__law_heard.up (by decide)) hr hgu tk rfl (ra_cons (re_globF rfl T.f_moved_point) (ra_cons (re_tup (ra_cons (re_var (pv 4)) (ra_cons (re_var (pv 8)) ra_nil))) ra_nil))) (ra_cons (re_tup (ra_cons re_str (ra_cons (re_var (pv 8)) ra_nil))) ra_nil))))) (rss_one (rs_ret re_bl)) rss_nil))) (rss_cons (rs_if (rt_not (rt_of (re_fo (F__law_like.up (by decide)) hr hgu tk rfl (ra_cons (re_fo (F__law_heard.up (by decide)) hr hgu tk rfl (ra_cons (re_globF rfl T.f_moved_point) (ra_cons (re_tup (ra_cons (re_var (pv 4)) (ra_cons (re_mulP (re_tup (ra_cons re_int ra_nil)) (re_addP (re_mod (re_var (pv 3)) re_int) re_int)) ra_nil))) ra_nil))) (ra_cons (re_tup (ra_cons re_str (ra_cons re_int ra_nil))) ra_nil))))) (rss_one (rs_ret re_bl)) rss_nil) (rss_cons (rs_set (i := 9) sc_law.nd rfl (by first | exact Or.inl rfl | exact Or.inr rfl) (re_fo (F__law_some_move.up (by decide)) hr hgu tk rfl (ra_cons (re_var (pv 2)) (ra_cons (re_addP (re_mod (re_var (pv 3)) re_int) re_int) (ra_cons re_int ra_nil)))) (by first | exact Or.inr rfl | exact Or.inl rfl)) (rss_one (rs_if (rt_not (rt_of (re_fo (F__law_like.up (by decide)) hr hgu tk rfl (ra_cons (re_fo (F__law_heard.up (by decide)) hr hgu tk rfl (ra_cons (re_globF rfl T.f_composed) (ra_cons (re_tup (ra_cons (re_var (pv 4)) (ra_cons (re_var (pv 9)) ra_nil))) ra_nil))) (ra_cons (re_tup (ra_cons re_str (ra_cons re_int ra_nil))) ra_nil))))) (rss_one (rs_ret re_bl)) rss_nil)))))))))))) (rss_cons (rs_set (i := 10) sc_law.nd rfl (by first | exact Or.inl rfl | exact Or.inr rfl) (re_tup (ra_cons (re_tup (ra_cons (re_tup (ra_cons re_int (ra_cons re_int ra_nil))) (ra_cons (re_tup (ra_cons re_int (ra_cons re_int ra_nil))) ra_nil))) (ra_cons (re_tup (ra_cons re_int (ra_cons (re_neg re_int) ra_nil))) ra_nil))) (by first | exact Or.inr rfl | exact Or.inl rfl)) (rss_cons (rs_new (i := 11) sc_law.nd rfl (by first | exact Or.inl rfl | exact Or.inr rfl) (rf_lst (ra_cons (re_fo (F_need_move.up (by decide)) hr hgu tk rfl (ra_cons (re_var (pv 10)) ra_nil)) (ra_cons (re_fo (F_inverse_move.up (by decide)) hr hgu tk rfl (ra_cons (re_tup (ra_cons (re_tup (ra_cons (re_tup (ra_cons re_int (ra_cons re_int ra_nil))) (ra_cons (re_tup (ra_cons re_int (ra_cons re_int ra_nil))) ra_nil))) (ra_cons (re_tup (ra_cons re_int (ra_cons re_int ra_nil))) ra_nil))) ra_nil)) (ra_cons (re_fo (F__law_heard.up (by decide)) hr hgu tk rfl (ra_cons (re_globF rfl T.f_inverse_move) (ra_cons (re_tup (ra_cons (re_var (pv 10)) ra_nil)) ra_nil))) (ra_cons (re_fo (F__law_heard.up (by decide)) hr hgu tk rfl (ra_cons (re_globF rfl T.f_composed) (ra_cons (re_tup (ra_cons (re_var (pv 10)) (ra_cons (re_var (pv 10)) ra_nil))) ra_nil))) ra_nil))))) (by first | exact Or.inr rfl | exact Or.inl rfl)) (rss_cons (rs_new (i := 12) sc_law.nd rfl (by first | exact Or.inl rfl | exact Or.inr rfl) (rf_lst (ra_cons (re_var (pv 10)) (ra_cons (re_tup (ra_cons (re_tup (ra_cons (re_tup (ra_cons re_int (ra_cons (re_neg re_int) ra_nil))) (ra_cons (re_tup (ra_cons re_int (ra_cons re_int ra_nil))) ra_nil))) (ra_cons (re_tup (ra_cons re_int (ra_cons re_int ra_nil))) ra_nil))) (ra_cons (re_tup (ra_cons re_str (ra_cons re_int ra_nil))) (ra_cons (re_tup (ra_cons re_str (ra_cons re_int ra_nil))) ra_nil))))) (by first | exact Or.inr rfl | exact Or.inl rfl)) (rss_cons (rs_new (i := 11) sc_law.nd rfl (by first | exact Or.inl rfl | exact Or.inr rfl) (rf_cat (re_var (pv 11)) (re_f (rf_lst (ra_cons (re_fo (F_moved_point.up (by decide)) hr hgu tk rfl (ra_cons (re_tup (ra_cons (re_tup (ra_cons (re_tup (ra_cons (re_neg re_int) ra_nil)) ra_nil)) (ra_cons (re_tup (ra_cons re_int ra_nil)) ra_nil))) (ra_cons (re_tup (ra_cons (re_neg re_int) ra_nil)) ra_nil))) (ra_cons (re_fo (F__law_heard.up (by decide)) hr hgu tk rfl (ra_cons (re_globF rfl T.f_moved_point) (ra_cons (re_tup (ra_cons (re_tup (ra_cons (re_tup (ra_cons (re_tup (ra_cons (re_neg re_int) ra_nil)) ra_nil)) (ra_cons (re_tup (ra_cons re_int ra_nil)) ra_nil))) (ra_cons (re_tup (ra_cons (re_neg re_int) ra_nil)) ra_nil))) ra_nil))) ra_nil))))) (by first | exact Or.inr rfl | exact Or.inl rfl)) (rss_cons (rs_new (i := 12) sc_law.nd rfl (by first | exact Or.inl rfl | exact Or.inr rfl) (rf_cat (re_var (pv 12)) (re_f (rf_lst (ra_cons (re_tup (ra_cons re_int ra_nil)) (ra_cons (re_tup (ra_cons re_str (ra_cons re_int ra_nil))) ra_nil))))) (by first | exact Or.inr rfl | exact Or.inl rfl)) (rss_cons (rs_for (passes_of rfl) rfl (ri_seq (re_tup (ra_cons re_int (ra_cons re_int (ra_cons re_non (ra_cons re_bl (ra_cons re_str (ra_cons (re_tup (ra_cons re_int ra_nil)) ra_nil)))))))) (rg_name (i := 8) sc_law.nd rfl (by first | exact Or.inl rfl | exact Or.inr rfl) (by first | exact Or.inr rfl | exact Or.inl rfl)) (rss_cons (rs_app2 (pv 11) (re_fo (F__law_heard.up (by decide)) hr hgu tk rfl (ra_cons (re_globF rfl T.f_plain_move) (ra_cons (re_tup (ra_cons (re_var (pv 8)) ra_nil)) ra_nil)))) (rss_one (rs_app2 (pv 12) (re_tup (ra_cons re_str (ra_cons (re_var (pv 8)) ra_nil))))))) (rss_one (rs_ret (re_fo (F__law_like.up (by decide)) hr hgu tk rfl (ra_cons (re_var (pv 11)) (ra_cons (re_var (pv 12)) ra_nil))))))))))))
theorem head_mk {a0 a1 a2 a3 a4 a5 a6 c0 c1 c2 c3 c4 c5 : Addr} (b_abs : mg "abs" = none) (b_all : mg "all" = none) (b_any : mg "any" = none) (b_bool : mg "bool" = none) (b_enumerate : mg "enumerate" = none) (b_int : mg "int" = none) (b_isinstance : mg "isinstance" = none) (b_len : mg "len" = none) (b_list : mg "list" = none) (b_max : mg "max" = none) (b_min : mg "min" = none) (b_range : mg "range" = none) (b_repr : mg "repr" = none) (b_sum : mg "sum" = none) (b_tuple : mg "tuple" = none) (b_zip : mg "zip" = none) (c_DEEPS : ConT K mg "DEEPS" [1, 2, 3]) (c_MOST_NUMBER : ConI mg "MOST_NUMBER" 1000) (c_MOST_PLACE : ConI mg "MOST_PLACE" 1000) (e_BadNumber : Er1C P K mg c0 "BadNumber" "value" "no number: ") (e_BadPoint : Er1C P K mg c1 "BadPoint" "value" "no point: ") (e_BadBody : Er1C P K mg c2 "BadBody" "path" "no body: ") (e_BadMove : Er1C P K mg c3 "BadMove" "path" "no move: ") (e_TooGreat : Er1C P K mg c4 "TooGreat" "most" "more than is let: ") (e_Unlike : Er0C K mg c5 "Unlike") (x_0_0 : PySem.W.exmOne K (.ref c0) (.ref c0) = some true) (x_0_1 : PySem.W.exmOne K (.ref c0) (.ref c1) = some false) (x_0_2 : PySem.W.exmOne K (.ref c0) (.ref c2) = some false) (x_0_3 : PySem.W.exmOne K (.ref c0) (.ref c3) = some false) (x_0_4 : PySem.W.exmOne K (.ref c0) (.ref c4) = some false) (x_0_5 : PySem.W.exmOne K (.ref c0) (.ref c5) = some false) (x_1_0 : PySem.W.exmOne K (.ref c1) (.ref c0) = some false) (x_1_1 : PySem.W.exmOne K (.ref c1) (.ref c1) = some true) (x_1_2 : PySem.W.exmOne K (.ref c1) (.ref c2) = some false) (x_1_3 : PySem.W.exmOne K (.ref c1) (.ref c3) = some false) (x_1_4 : PySem.W.exmOne K (.ref c1) (.ref c4) = some false) (x_1_5 : PySem.W.exmOne K (.ref c1) (.ref c5) = some false) (x_2_0 : PySem.W.exmOne K (.ref c2) (.ref c0) = some false) (x_2_1 : PySem.W.exmOne K (.ref c2) (.ref c1) = some false) (x_2_2 : PySem.W.exmOne K (.ref c2) (.ref c2) = some true) (x_2_3 : PySem.W.exmOne K (.ref c2) (.ref c3) = some false) (x_2_4 : PySem.W.exmOne K (.ref c2) (.ref c4) = some false) (x_2_5 : PySem.W.exmOne K (.ref c2) (.ref c5) = some false) (x_3_0 : PySem.W.exmOne K (.ref c3) (.ref c0) = some false) (x_3_1 : PySem.W.exmOne K (.ref c3) (.ref c1) = some false) (x_3_2 : PySem.W.exmOne K (.ref c3) (.ref c2) = some false) (x_3_3 : PySem.W.exmOne K (.ref c3) (.ref c3) = some true) (x_3_4 : PySem.W.exmOne K (.ref c3) (.ref c4) = some false) (x_3_5 : PySem.W.exmOne K (.ref c3) (.ref c5) = some false) (x_4_0 : PySem.W.exmOne K (.ref c4) (.ref c0) = some false) (x_4_1 : PySem.W.exmOne K (.ref c4) (.ref c1) = some false) (x_4_2 : PySem.W.exmOne K (.ref c4) (.ref c2) = some false) (x_4_3 : PySem.W.exmOne K (.ref c4) (.ref c3) = some false) (x_4_4 : PySem.W.exmOne K (.ref c4) (.ref c4) = some true) (x_4_5 : PySem.W.exmOne K (.ref c4) (.ref c5) = some false) (x_5_0 : PySem.W.exmOne K (.ref c5) (.ref c0) = some false) (x_5_1 : PySem.W.exmOne K (.ref c5) (.ref c1) = some false) (x_5_2 : PySem.W.exmOne K (.ref c5) (.ref c2) = some false) (x_5_3 : PySem.W.exmOne K (.ref c5) (.ref c3) = some false) (x_5_4 : PySem.W.exmOne K (.ref c5) (.ref c4) = some false) (x_5_5 : PySem.W.exmOne K (.ref c5) (.ref c5) = some true) (f_composed : mg "composed" = some (.ref a0)) (f_moved_point : mg "moved_point" = some (.ref a1)) (f_inverse_move : mg "inverse_move" = some (.ref a2)) (f_need_move : mg "need_move" = some (.ref a3)) (f_move_sign : mg "move_sign" = some (.ref a4)) (f_moved_body : mg "moved_body" = some (.ref a5)) (f_plain_move : mg "plain_move" = some (.ref a6)) (d_is_integer : Dt K mg "is_integer" st_is_integer ["value"]) (d_is_from : Dt K mg "is_from" st_is_from ["value", "least", "most"]) (d_determinant_in : Dt K mg "determinant_in" st_determinant_in ["lines"]) (d_lines_fault : Dt K mg "lines_fault" st_lines_fault ["value"]) (d_is_point : Dt K mg "is_point" st_is_point ["axes", "value"]) (d_move_fault : Dt K mg "move_fault" st_move_fault ["value"]) (d_need_move : Dt K mg "need_move" st_need_move ["move"]) (d_let_rows : Dt K mg "let_rows" st_let_rows ["rows"]) (d_let_move : Dt K mg "let_move" st_let_move ["move"]) (d_times_lines : Dt K mg "times_lines" st_times_lines ["lines", "far_lines"]) (d_plus_point : Dt K mg "plus_point" st_plus_point ["point", "other"]) (d_led_by_lines : Dt K mg "led_by_lines" st_led_by_lines ["lines", "row"]) (d_moved_point_in : Dt K mg "moved_point_in" st_moved_point_in ["move", "point"]) (d_composed_in : Dt K mg "composed_in" st_composed_in ["move", "far_move"]) (d_composed : Dt K mg "composed" st_composed ["move", "far_move"]) (d_is_any_point : Dt K mg "is_any_point" st_is_any_point ["value"]) (d_moved_point : Dt K mg "moved_point" st_moved_point ["move", "point"]) (d_turned_lines : Dt K mg "turned_lines" st_turned_lines ["lines"]) (d_inverse_in : Dt K mg "inverse_in" st_inverse_in ["move"]) (d_inverse_move : Dt K mg "inverse_move" st_inverse_move ["move"]) (d_move_sign : Dt K mg "move_sign" st_move_sign ["move"]) (d_checked_moved : Dt K mg "checked_moved" st_checked_moved ["move", "body"]) (d_need_body : Dt K mg "need_body" st_need_body ["body"]) (d_moved_body : Dt K mg "moved_body" st_moved_body ["move", "body"]) (d_plain_in : Dt K mg "plain_in" st_plain_in ["deep"]) (d_plain_move : Dt K mg "plain_move" st_plain_move ["axes"]) (d__law_begun : Dt K mg "_law_begun" st__law_begun ["script", "turn"]) (d__law_draw : Dt K mg "_law_draw" st__law_draw ["m", "span"]) (d__law_of : Dt K mg "_law_of" st__law_of ["m", "some"]) (d__law_shuffled : Dt K mg "_law_shuffled" st__law_shuffled ["m", "count"]) (d__law_some_turn : Dt K mg "_law_some_turn" st__law_some_turn ["m", "deep"]) (d__law_some_move : Dt K mg "_law_some_move" st__law_some_move ["m", "deep", "reach"]) (d__law_moved : Dt K mg "_law_moved" st__law_moved ["point_so", "turn_so", "shift_so"]) (d__law_called : Dt K mg "_law_called" st__law_called ["call", "things"]) (d__law_heard : Dt K mg "_law_heard" st__law_heard ["call", "things"]) (d__law_like : Dt K mg "_law_like" st__law_like ["told", "due"]) (d__law_det : Dt K mg "_law_det" st__law_det ["lines_so"]) (d__law_two_right : Dt K mg "_law_two_right" st__law_two_right ["m", "one", "two", "spot"]) (d__law_is_from : Dt K mg "_law_is_from" st__law_is_from ["thing", "low", "high"]) (d__law_is_spot : Dt K mg "_law_is_spot" st__law_is_spot ["deep", "thing"]) (d__law_fault : Dt K mg "_law_fault" st__law_fault ["thing"]) (d__law_judged_right : Dt K mg "_law_judged_right" st__law_judged_right ["thing"]) (d__law_bent : Dt K mg "_law_bent" st__law_bent ["m", "thing"]) (d_law : Dt K mg "law" st_law ["script"]) : ∃ tb : Tb, ∀ gb : Heap, FoX P w K mg gb tb 10 "law" ["script"] f_law := by
  refine ⟨mkTb [a0, a1, a2, a3, a4, a5, a6] [c0, c1, c2, c3, c4, c5], fun gb => ok_law ⟨b_abs, b_all, b_any, b_bool, b_enumerate, b_int, b_isinstance, b_len, b_list, b_max, b_min, b_range, b_repr, b_sum, b_tuple, b_zip, c_DEEPS, c_MOST_NUMBER, c_MOST_PLACE, e_BadNumber _ _ rfl, e_BadPoint _ _ rfl, e_BadMove _ _ rfl, e_TooGreat _ _ rfl, e_Unlike _ _ rfl, ?_, f_composed, f_moved_point, f_inverse_move, f_need_move, f_move_sign, f_moved_body, f_plain_move⟩ ⟨d_is_integer, d_is_from, d_determinant_in, d_lines_fault, d_is_point, d_move_fault, d_need_move, d_let_rows, d_let_move, d_times_lines, d_plus_point, d_led_by_lines, d_moved_point_in, d_composed_in, d_composed, d_is_any_point, d_moved_point, d_turned_lines, d_inverse_in, d_inverse_move, d_move_sign, d_checked_moved, d_need_body, d_moved_body, d_plain_in, d_plain_move, d__law_begun, d__law_draw, d__law_of, d__law_shuffled, d__law_some_turn, d__law_some_move, d__law_moved, d__law_called, d__law_heard, d__law_like, d__law_det, d__law_two_right, d__law_is_from, d__law_is_spot, d__law_fault, d__law_judged_right, d__law_bent, d_law⟩⟩
  exact fun i j hi hj => match i, j, hi, hj with
    | 0, 0, _, _ => x_0_0
    | 0, 1, _, _ => x_0_1
    | 0, 2, _, _ => x_0_2
    | 0, 3, _, _ => x_0_3
    | 0, 4, _, _ => x_0_4
    | 0, 5, _, _ => x_0_5
    | 1, 0, _, _ => x_1_0
    | 1, 1, _, _ => x_1_1
    | 1, 2, _, _ => x_1_2
    | 1, 3, _, _ => x_1_3
    | 1, 4, _, _ => x_1_4
    | 1, 5, _, _ => x_1_5
    | 2, 0, _, _ => x_2_0
    | 2, 1, _, _ => x_2_1
    | 2, 2, _, _ => x_2_2
    | 2, 3, _, _ => x_2_3
    | 2, 4, _, _ => x_2_4
    | 2, 5, _, _ => x_2_5
    | 3, 0, _, _ => x_3_0
    | 3, 1, _, _ => x_3_1
    | 3, 2, _, _ => x_3_2
    | 3, 3, _, _ => x_3_3
    | 3, 4, _, _ => x_3_4
    | 3, 5, _, _ => x_3_5
    | 4, 0, _, _ => x_4_0
    | 4, 1, _, _ => x_4_1
    | 4, 2, _, _ => x_4_2
    | 4, 3, _, _ => x_4_3
    | 4, 4, _, _ => x_4_4
    | 4, 5, _, _ => x_4_5
    | 5, 0, _, _ => x_5_0
    | 5, 1, _, _ => x_5_1
    | 5, 2, _, _ => x_5_2
    | 5, 3, _, _ => x_5_3
    | 5, 4, _, _ => x_5_4
    | 5, 5, _, _ => x_5_5
    | i + 6, _, h, _ => absurd h (by simp)
    | _, j + 6, _, h => absurd h (by simp)
end
end K21
end

section
set_option Elab.async false
set_option linter.all false
set_option maxRecDepth 100000
set_option maxHeartbeats 4000000
namespace K21
open PySem PySem.Spec PyProof.Rows L2 EvL EvH
theorem e_draw : f__law_draw = EvH.f__law_draw := rfl
theorem e_of : f__law_of = EvH.f__law_of := rfl
def iv (l : List Nat) : List Dv := l.map fun i : Nat => Dv.int i
/-- what is left to draw and what was found -/
structure Pk (k i : Nat) (L Fd : List Nat) : Prop where
  nL : L.Nodup
  nF : Fd.Nodup
  dj : ∀ x ∈ L, x ∉ Fd
  lL : ∀ x ∈ L, x < k
  lF : ∀ x ∈ Fd, x < k
  len : Fd.length = i
  sum : L.length + Fd.length = k
theorem Pk.step {k i x : Nat} {L Fd : List Nat} (h : Pk k i L Fd) (hx : x ∈ L) : Pk k (i + 1) (L.filter fun y => !decide (y = x)) (Fd ++ [x]) := by
  have e : (L.filter fun y => !decide (y = x)) = L.erase x := by
    rw [h.nL.erase_eq_filter]
    congr 1
  have l1 : (L.erase x).length = L.length - 1 := List.length_erase_of_mem hx
  have l2 : 0 < L.length := List.length_pos_of_mem hx
  refine ⟨h.nL.sublist List.filter_sublist, ?_, fun y hy => ?_, fun y hy => h.lL y ((List.mem_filter.mp hy).1), fun y hy => ?_, by simp [h.len], ?_⟩
  · rw [List.nodup_append]
    refine ⟨h.nF, by simp, fun a ha b hb => ?_⟩
    simp at hb
    subst hb
    intro z
    subst z
    exact h.dj _ hx ha
  · have h1 := h.dj y ((List.mem_filter.mp hy).1)
    have h2 := (List.mem_filter.mp hy).2
    simp at h2
    simp [h1, h2]
  · rcases List.mem_append.mp hy with z | z
    · exact h.lF y z
    · simp at z; subst z; exact h.lL _ hx
  · rw [e, l1, List.length_append]
    have := h.sum
    simp
    omega
theorem iv_get {L : List Nat} {i : Nat} {d : Dv} (h : (iv L)[i]? = some d) : ∃ y, d = .int (y : Nat) ∧ y ∈ L := by
  unfold iv at h
  rw [List.getElem?_map] at h
  cases e : L[i]? with
  | none => rw [e] at h; cases h
  | some y => rw [e] at h; cases h; exact ⟨y, rfl, List.mem_of_getElem? e⟩
theorem iv_mem {L : List Nat} {d : Dv} (h : d ∈ iv L) : ∃ y, d = .int (y : Nat) ∧ y ∈ L := by
  obtain ⟨i, hi⟩ := List.getElem?_of_mem h
  exact iv_get hi
theorem iv_filter (L : List Nat) (y : Nat) : ((iv L).filter fun d => match d with | .int z => !decide (z = (y : Int)) | _ => false).map id = iv (L.filter fun z => !decide (z = y)) := by
  unfold iv
  rw [List.map_id, List.filter_map]
  congr 1
  apply List.filter_congr
  intro z _
  show (!decide ((z : Int) = (y : Int))) = _
  congr 1
  by_cases h : z = y
  · simp [h]
  · have : ¬ (z : Int) = (y : Int) := by omega
    simp [h, this]
theorem cmp_ne {en : En} {S S1 : Store} {L : List Nat} {y : Nat} (hl : L.length ≤ 1000) (h2 : iSeq (sVar 2) en S = .ok (iv L) S1) (h5 : en[5]? = some (some (.d (.int y)))) (h6 : en.length = 7) :
    fComp (iSeq (sVar 2)) (tgN 6) (sT (sBin oNe (sVar 6) (sVar 5))) (sVar 6) [6] en S = .ok (iv (L.filter fun z => !decide (z = y))) S1 := by
  rw [← iv_filter]
  refine comp_pure (fun d => match d with | .int z => !decide (z = (y : Int)) | _ => false) id h2 (by simp [iv]; omega) fun d acc hd => ?_
  obtain ⟨z, rfl, _⟩ := iv_mem hd
  refine ⟨_, rfl, ?_, fun _ => ?_⟩
  · have e6 : ((wipeE en [6]).set 6 (some (.d (.int z))))[6]? = some (some (.d (.int (z : Int)))) := List.getElem?_set_self (by simp [wipeE, h6])
    have e5 : ((wipeE en [6]).set 6 (some (.d (.int z))))[5]? = some (some (.d (.int (y : Int)))) := by
      rw [List.getElem?_set_ne (by decide)]
      show ((wipeE en []).set 6 none)[5]? = _
      rw [List.getElem?_set_ne (by decide)]
      exact h5
    simp [sT, sBin, sVar, e6, e5, Rs.bind, rv_d, oNe_int, truth]
  · have e6 : ((wipeE en [6]).set 6 (some (.d (.int z))))[6]? = some (some (.d (.int (z : Int)))) := List.getElem?_set_self (by simp [wipeE, h6])
    simp [sVar, e6]
theorem shuffled_ok {m : Store} {j k : Nat} {b : Int} (h : Dr m j b) (hb : b + k < 1000000) (hk : k ≤ 1000) : ∃ (Fd : List Nat) (m' : Store), f__law_shuffled [.o j, .d (.int k)] m = .ok (.d (.tup (iv Fd))) m' ∧ Pk k k [] Fd ∧ Sj j m m' ∧ Dr m' j (b + k) := by
  have hjm := h.lt
  -- the state of the loop
  let I : Nat → En → Store → Prop := fun i en S => ∃ (L Fd : List Nat) (q : Nat) (lv : Sv) (o4 o5 : Option Sv), en = [some (.o j), some (.d (.int k)), some lv, some (.o m.length), o4, o5, none] ∧ (lv = .d (.lst (iv L)) ∨ (lv = .o q ∧ m.length < q ∧ S[q]? = some (.lst (iv L)))) ∧ S[m.length]? = some (.lst (iv Fd)) ∧ Pk k i L Fd ∧ Xt j m S ∧ Dr S j (b + i)
  have hr : fRange1 (sVar 1) [some (Sv.o j), some (.d (.int k)), none, none, none, none, none] m = .ok (iv (List.range k)) m := by
    have : rng 0 k = iv (List.range k) := rng_nat k
    simp [fRange1, sVar, Rs.bind, rv_d, this]
    omega
  have go : ∃ en' S, loop (tgN 4) (gSeq (gSet 5 (sCall f__law_of (lCons (sVar 0) (lCons (sVar 2) lNil)))) (gSeq (gNew 2 (fComp (iSeq (sVar 2)) (tgN 6) (sT (sBin oNe (sVar 6) (sVar 5))) (sVar 6) [6])) (gApp 3 (sVar 5)))) (rng 0 k)
      [some (.o j), some (.d (.int k)), some (.d (.lst (iv (List.range k)))), some (.o m.length), none, none, none] (m ++ [.lst []]) = .nx en' S ∧ I (rng 0 k).length en' S := by
    refine loop_nx I ?_ ?_
    · rintro i d en S hd ⟨L, Fd, q, lv, o4, o5, rfl, hl, hg, pk, ex, dr⟩
      obtain ⟨rfl, hik⟩ := rng_get hd
      have sm := pk.sum
      have ln := pk.len
      have hiv : (iv L).length = L.length := by simp [iv]
      have hne : iv L ≠ [] := fun z => by rw [z] at hiv; simp at hiv; omega
      have hfj := ne_dic dr hg
      refine ⟨_, rfl, ?_⟩
      obtain ⟨y, S1, S2, hy, e1, e2, sj, d1, hS2⟩ : ∃ (y : Nat) (S1 S2 : Store), y ∈ L ∧ sCall f__law_of (lCons (sVar 0) (lCons (sVar 2) lNil)) [some (.o j), some (.d (.int k)), some lv, some (.o m.length), some (.d (.int (0 + (i : Nat)))), o5, none] S = .ok (.d (.int y)) S1 ∧
          iSeq (sVar 2) [some (.o j), some (.d (.int k)), some lv, some (.o m.length), some (.d (.int (0 + (i : Nat)))), some (.d (.int y)), none] S1 = .ok (iv L) S2 ∧ Sj j S S1 ∧ Dr S1 j (b + i + 1) ∧ (S2 = S1 ∨ ∃ q, m.length < q ∧ q ≠ j ∧ S2 = S1.set q .gone) := by
        rcases hl with rfl | ⟨rfl, hq, hqs⟩
        · obtain ⟨kk, x, S1, hx, e, sj, d1⟩ := of_ok dr (by omega) hne (by omega)
          obtain ⟨y, rfl, hy⟩ := iv_get hx
          refine ⟨y, S1, S1, hy, ?_, iSeq_d rfl, sj, d1, .inl rfl⟩
          simp [sCall, lCons, lNil, sVar, Rs.bind, e_of, e]
        · obtain ⟨kk, x, S1, hx, e, sj, d1⟩ := of_ok2 dr hqs (by omega) hne (by omega)
          obtain ⟨y, rfl, hy⟩ := iv_get hx
          have hqj := ne_dic dr hqs
          refine ⟨y, S1, S1.set q .gone, hy, ?_, iSeq_o rfl (by rw [sj.at_ q hqj]; exact hqs), sj, d1, .inr ⟨q, hq, hqj, rfl⟩⟩
          simp [sCall, lCons, lNil, sVar, Rs.bind, e_of, e]
      have ln2 : S2.length = S.length := by
        rcases hS2 with rfl | ⟨q, _, _, rfl⟩
        · exact sj.len
        · rw [List.length_set]; exact sj.len
      have x2 : Xt j m S2 := by
        rcases hS2 with rfl | ⟨q, h1, _, rfl⟩
        · exact ex.sj sj
        · exact (ex.sj sj).put (by omega) _
      have d2 : Dr S2 j (b + i + 1) := by
        rcases hS2 with rfl | ⟨q, _, h1, rfl⟩
        · exact d1
        · exact d1.put h1 _
      have g2 : S2[m.length]? = some (.lst (iv Fd)) := by
        rcases hS2 with rfl | ⟨q, h1, _, rfl⟩
        · rw [sj.at_ _ hfj]; exact hg
        · rw [List.getElem?_set_ne (by omega), sj.at_ _ hfj]; exact hg
      have hlt : m.length < S2.length := (List.getElem?_eq_some_iff.mp g2).1
      have e3 := cmp_ne (y := y) (L := L) (by omega) e2 rfl rfl
      have g3 : (S2 ++ [So.lst (iv (L.filter fun z => !decide (z = y)))])[m.length]? = some (.lst (iv Fd)) := get_keep g2
      have hfit : fits ((iv Fd).length + 1) = true := by simp [fits, iv]; omega
      refine ⟨_, (S2 ++ [So.lst (iv (L.filter fun z => !decide (z = y)))]).set m.length (.lst (iv Fd ++ [.int y])), .inl ?_, L.filter fun z => !decide (z = y), Fd ++ [y], S2.length, .o S2.length, some (.d (.int (0 + (i : Nat)))), some (.d (.int y)), rfl, .inr ⟨rfl, hlt, ?_⟩, ?_, pk.step hy, ?_, ?_⟩
      · exact (gSeq_ok (gSet_ok e1)).trans ((gSeq_ok (gNew_ok e3)).trans (gApp_ok rfl g3 rfl g3 hfit))
      · rw [List.getElem?_set_ne (by omega)]; exact get_push _ _
      · rw [get_set g3]; simp [iv]
      · exact (x2.push _).put (Nat.le_refl _) _
      · have := (d2.push (So.lst (iv (L.filter fun z => !decide (z = y))))).put hfj (.lst (iv Fd ++ [.int y]))
        exact this.mono (by omega)
    · refine ⟨List.range k, [], 0, _, none, none, rfl, .inl rfl, by simp [iv], ⟨List.nodup_range, List.nodup_nil, by simp, fun x hx => by simpa using hx, by simp, rfl, by simp⟩, (Xt.refl j m).push _, ?_⟩
      have := h.push (So.lst [])
      exact this.mono (by omega)
  obtain ⟨en', S, e1, L, Fd, q, lv, o4, o5, rfl, hl, hg, pk, ex, dr⟩ := go
  have hlen : (rng 0 (k : Int)).length = k := by rw [rng_len]; omega
  rw [hlen] at pk dr
  have hL : L = [] := by
    have := pk.sum
    have := pk.len
    exact List.eq_nil_of_length_eq_zero (by omega)
  subst hL
  refine ⟨Fd, S.take m.length, ?_, pk, ex.cut, dr.cut hjm⟩
  have hi : iRange1 (sVar 1) [some (.o j), some (.d (.int k)), some (.d (.lst (iv (List.range k)))), some (.o m.length), none, none, none] (m ++ [.lst []]) = .ok (rng 0 k) (m ++ [.lst []]) := iRange1_ok rfl (by omega) (by omega)
  refine fn_d rfl ?_
  refine (gSeq_ok (gPar_ok (lCons_ok (sF_ok hr) (lCons_ok (sNew_ok rfl) rfl)))).trans ((gSeq_ok ((gFor_ok hi).trans e1)).trans (gRet_ok (sUn_ok (sVar_ok rfl) (rv_lst hg) rfl)))
end K21
end

section
set_option Elab.async false
set_option linter.all false
set_option maxRecDepth 100000
set_option maxHeartbeats 4000000
/-! M21: whole matrices to three by three -/
namespace K21M
open EvL EvH
abbrev Mt := List (List Int)
structure IsM (d : Nat) (A : Mt) : Prop where
  len : A.length = d
  row : ∀ r ∈ A, r.length = d
def lim (b : Int) (A : Mt) : Prop := ∀ r ∈ A, ∀ x ∈ r, -b ≤ x ∧ x ≤ b
def dt : Mt → Int
  | [[a]] => a
  | [[a, b], [c, e]] => a * e - b * c
  | [[a, b, c], [e, f, g], [h, i, j]] => a * (f * j - g * i) + b * (g * h - e * j) + c * (e * i - f * h)
  | _ => 0
def mrow (r : List Int) : Dv := .lst (r.map .int)
def trow (r : List Int) : Dv := .tup (r.map .int)
def lm (A : Mt) : List Dv := A.map mrow
def tm (A : Mt) : List Dv := A.map trow
theorem len1 {α : Type} {l : List α} (h : l.length = 1) : ∃ a, l = [a] := by
  match l, h with
  | [a], _ => exact ⟨a, rfl⟩
theorem len2 {α : Type} {l : List α} (h : l.length = 2) : ∃ a b, l = [a, b] := by
  match l, h with
  | [a, b], _ => exact ⟨a, b, rfl⟩
theorem len3 {α : Type} {l : List α} (h : l.length = 3) : ∃ a b c, l = [a, b, c] := by
  match l, h with
  | [a, b, c], _ => exact ⟨a, b, c, rfl⟩
theorem IsM.one {A : Mt} (h : IsM 1 A) : ∃ a, A = [[a]] := by
  obtain ⟨r, rfl⟩ := len1 h.len
  obtain ⟨a, rfl⟩ := len1 (h.row r (by simp))
  exact ⟨a, rfl⟩
theorem IsM.two {A : Mt} (h : IsM 2 A) : ∃ a b c e, A = [[a, b], [c, e]] := by
  obtain ⟨r, s, rfl⟩ := len2 h.len
  obtain ⟨a, b, rfl⟩ := len2 (h.row r (by simp))
  obtain ⟨c, e, rfl⟩ := len2 (h.row s (by simp))
  exact ⟨a, b, c, e, rfl⟩
theorem IsM.three {A : Mt} (h : IsM 3 A) : ∃ a b c e f g i j k, A = [[a, b, c], [e, f, g], [i, j, k]] := by
  obtain ⟨r, s, t, rfl⟩ := len3 h.len
  obtain ⟨a, b, c, rfl⟩ := len3 (h.row r (by simp))
  obtain ⟨e, f, g, rfl⟩ := len3 (h.row s (by simp))
  obtain ⟨i, j, k, rfl⟩ := len3 (h.row t (by simp))
  exact ⟨a, b, c, e, f, g, i, j, k, rfl⟩
theorem gd_lt {A : Mt} {k : Nat} (h : k < A.length) : A.getD k [] = A[k] := by simp [List.getD_eq_getElem?_getD, h]
theorem gd_ge {A : Mt} {k : Nat} (h : A.length ≤ k) : A.getD k [] = [] := by simp [List.getD_eq_getElem?_getD, h]
/-- a row with another's multiple added -/
def addr (A : Mt) (p q : Nat) (y : Int) : Mt := A.set p (List.zipWith (fun u v => u + y * v) (A.getD p []) (A.getD q []))
theorem IsM.addr {d : Nat} {A : Mt} (h : IsM d A) {p q : Nat} (hp : p < d) (hq : q < d) (y : Int) : IsM d (addr A p q y) := by
  refine ⟨by simp [K21M.addr, h.len], fun r hr => ?_⟩
  unfold K21M.addr at hr
  have g : ∀ k, k < d → (A.getD k []).length = d := fun k hk => by
    rw [gd_lt (by rw [h.len]; exact hk)]
    exact h.row _ (List.getElem_mem _)
  rcases List.mem_or_eq_of_mem_set hr with z | z
  · exact h.row r z
  · rw [z, List.length_zipWith, g p hp, g q hq, Nat.min_self]
theorem dt_addr {d : Nat} {A : Mt} (h : IsM d A) (hd : 1 ≤ d ∧ d ≤ 3) {p q : Nat} (hp : p < d) (hq : q < d) (hpq : p ≠ q) (y : Int) : dt (addr A p q y) = dt A := by
  have : d = 1 ∨ d = 2 ∨ d = 3 := by omega
  rcases this with rfl | rfl | rfl
  · omega
  · obtain ⟨a, b, c, e, rfl⟩ := h.two
    have hp' : p = 0 ∨ p = 1 := by omega
    have hq' : q = 0 ∨ q = 1 := by omega
    rcases hp' with rfl | rfl <;> rcases hq' with rfl | rfl <;> first | omega | (simp [addr, dt]; grind)
  · obtain ⟨a, b, c, e, f, g, i, j, k, rfl⟩ := h.three
    have hp' : p = 0 ∨ p = 1 ∨ p = 2 := by omega
    have hq' : q = 0 ∨ q = 1 ∨ q = 2 := by omega
    rcases hp' with rfl | rfl | rfl <;> rcases hq' with rfl | rfl | rfl <;> first | omega | (simp [addr, dt]; grind)
theorem lim.addr {b : Int} {A : Mt} (h : lim b A) (hb : 0 ≤ b) {p q : Nat} {y : Int} (hy : -1 ≤ y ∧ y ≤ 1) : lim (2 * b) (addr A p q y) := by
  intro r hr x hx
  unfold K21M.addr at hr
  have g : ∀ k, ∀ x ∈ A.getD k [], -b ≤ x ∧ x ≤ b := fun k x hx => by
    by_cases hk : k < A.length
    · rw [gd_lt hk] at hx
      exact h _ (List.getElem_mem _) x hx
    · rw [gd_ge (by omega)] at hx
      simp at hx
  rcases List.mem_or_eq_of_mem_set hr with z | z
  · have := h r z x hx
    omega
  · subst z
    obtain ⟨i, hi⟩ := List.getElem?_of_mem hx
    rw [List.getElem?_zipWith] at hi
    split at hi
    · rename_i u v hu hv
      cases hi
      have h1 := g p u (List.mem_of_getElem? hu)
      have h2 := g q v (List.mem_of_getElem? hv)
      have hy' : y = -1 ∨ y = 0 ∨ y = 1 := by omega
      rcases hy' with rfl | rfl | rfl <;> omega
    · cases hi
/-- rows in another order -/
def perm (A : Mt) (l : List Nat) : Mt := l.map fun i => A.getD i []
theorem perm_ok {d : Nat} {A : Mt} (h : IsM d A) (hd : 1 ≤ d ∧ d ≤ 3) {l : List Nat} (hl : l.length = d) (hn : l.Nodup) (hb : ∀ x ∈ l, x < d) : IsM d (perm A l) ∧ (dt (perm A l) = dt A ∨ dt (perm A l) = - dt A) := by
  have : d = 1 ∨ d = 2 ∨ d = 3 := by omega
  rcases this with rfl | rfl | rfl
  · obtain ⟨a, rfl⟩ := h.one
    obtain ⟨x, rfl⟩ := len1 hl
    have hx := hb x (by simp)
    obtain rfl : x = 0 := by omega
    exact ⟨⟨rfl, by simp [perm]⟩, .inl rfl⟩
  · obtain ⟨a, b, c, e, rfl⟩ := h.two
    obtain ⟨x, y, rfl⟩ := len2 hl
    have hx := hb x (by simp)
    have hy := hb y (by simp)
    have hxy : x ≠ y := by simpa using hn
    have h1 : x = 0 ∨ x = 1 := by omega
    have h2 : y = 0 ∨ y = 1 := by omega
    rcases h1 with rfl | rfl <;> rcases h2 with rfl | rfl <;> first | omega | (refine ⟨⟨rfl, by simp [perm]⟩, ?_⟩; simp [perm, dt] <;> grind)
  · obtain ⟨a, b, c, e, f, g, i, j, k, rfl⟩ := h.three
    obtain ⟨x, y, z, rfl⟩ := len3 hl
    have hx := hb x (by simp)
    have hy := hb y (by simp)
    have hz := hb z (by simp)
    have hn' : (x ≠ y ∧ x ≠ z) ∧ y ≠ z := by simpa using hn
    have h1 : x = 0 ∨ x = 1 ∨ x = 2 := by omega
    have h2 : y = 0 ∨ y = 1 ∨ y = 2 := by omega
    have h3 : z = 0 ∨ z = 1 ∨ z = 2 := by omega
    rcases h1 with rfl | rfl | rfl <;> rcases h2 with rfl | rfl | rfl <;> rcases h3 with rfl | rfl | rfl <;> first | omega | (refine ⟨⟨rfl, by simp [perm]⟩, ?_⟩; simp [perm, dt] <;> grind)
theorem lim.perm {b : Int} {A : Mt} (h : lim b A) {l : List Nat} : lim b (perm A l) := by
  intro r hr x hx
  unfold K21M.perm at hr
  obtain ⟨k, _, rfl⟩ := List.mem_map.mp hr
  by_cases hk : k < A.length
  · rw [gd_lt hk] at hx
    exact h _ (List.getElem_mem _) x hx
  · rw [gd_ge (by omega)] at hx
    simp at hx
/-- the first row's signs turned -/
def neg0 (A : Mt) : Mt := A.set 0 ((A.getD 0 []).map fun x => -x)
theorem neg0_ok {d : Nat} {A : Mt} (h : IsM d A) (hd : 1 ≤ d ∧ d ≤ 3) : IsM d (neg0 A) ∧ dt (neg0 A) = - dt A := by
  have : d = 1 ∨ d = 2 ∨ d = 3 := by omega
  rcases this with rfl | rfl | rfl
  · obtain ⟨a, rfl⟩ := h.one
    exact ⟨⟨rfl, by simp [neg0]⟩, by simp [neg0, dt]⟩
  · obtain ⟨a, b, c, e, rfl⟩ := h.two
    exact ⟨⟨rfl, by simp [neg0]⟩, by simp [neg0, dt]; grind⟩
  · obtain ⟨a, b, c, e, f, g, i, j, k, rfl⟩ := h.three
    exact ⟨⟨rfl, by simp [neg0]⟩, by simp [neg0, dt]; grind⟩
theorem lim.neg0 {b : Int} {A : Mt} (h : lim b A) : lim b (neg0 A) := by
  intro r hr x hx
  unfold K21M.neg0 at hr
  rcases List.mem_or_eq_of_mem_set hr with z | z
  · exact h r z x hx
  · subst z
    obtain ⟨y, hy, rfl⟩ := List.mem_map.mp hx
    by_cases hk : 0 < A.length
    · rw [gd_lt hk] at hy
      have := h _ (List.getElem_mem _) y hy
      omega
    · rw [gd_ge (by omega)] at hy
      simp at hy
/-- the plain one -/
def idn (d : Nat) : Mt := (List.range d).map fun k => (List.range d).map fun j => if k = j then 1 else 0
theorem idn_ok (d : Nat) (hd : 1 ≤ d ∧ d ≤ 3) : IsM d (idn d) ∧ dt (idn d) = 1 ∧ lim 1 (idn d) := by
  have : d = 1 ∨ d = 2 ∨ d = 3 := by omega
  rcases this with rfl | rfl | rfl
  · exact ⟨⟨rfl, by decide⟩, by decide, by unfold lim; decide⟩
  · exact ⟨⟨rfl, by decide⟩, by decide, by unfold lim; decide⟩
  · exact ⟨⟨rfl, by decide⟩, by decide, by unfold lim; decide⟩
/-- a move's lines: whole, |det| 1, bounded -/
structure Turn (d : Nat) (b : Int) (A : Mt) : Prop where
  is : IsM d A
  lm : lim b A
  det : dt A = 1 ∨ dt A = -1
end K21M
end

section
set_option Elab.async false
set_option linter.all false
set_option maxRecDepth 100000
set_option maxHeartbeats 4000000
namespace K21
open PySem PySem.Spec PyProof.Rows L2 EvL EvH K21M
theorem filt {α : Type} (l : List α) : (l.filter fun _ => true) = l := List.filter_eq_self.mpr (by simp)
/-- the env's slots, by place -/
theorem idn_sem {en : En} {S : Store} {d : Nat} (hd : d ≤ 1000) (h1 : en[1]? = some (some (.d (.int d)))) (hn : en.length = 11) :
    fComp (iRange1 (sVar 1)) (tgN 7) bYes (sF (fComp (iRange1 (sVar 1)) (tgN 8) bYes (sUn oInt (sBin oEq (sVar 7) (sVar 8))) [8])) [7] en S = .ok (lm (idn d)) S := by
  have hr : iRange1 (sVar 1) en S = .ok (rng 0 d) S := iRange1_ok (sVar_ok h1) (by omega) (by omega)
  have e : lm (idn d) = ((rng 0 d).filter fun _ => true).map fun x => match x with | .int k => .lst ((rng 0 d).map fun y => match y with | .int j => .int (if k = j then 1 else 0) | _ => .non) | _ => .non := by
    rw [filt, rng_nat, List.map_map]
    unfold lm idn
    rw [List.map_map]
    apply List.map_congr_left
    intro k _
    simp only [Function.comp, mrow, List.map_map]
    congr 1
    apply List.map_congr_left
    intro j _
    simp only [Function.comp]
    by_cases h : k = j
    · simp [h]
    · have : ¬ (k : Int) = (j : Int) := by omega
      simp [h, this]
  rw [e]
  refine comp_pure (fun _ => true) _ hr (by rw [rng_len]; omega) fun x acc hx => ?_
  obtain ⟨k, rfl, k0, k1⟩ := rng_mem hx
  refine ⟨_, rfl, rfl, fun _ => ?_⟩
  have h1' : ((wipeE en [7]).set 7 (some (.d (.int k))))[1]? = some (some (.d (.int (d : Int)))) := by
    rw [List.getElem?_set_ne (by decide)]
    show ((wipeE en []).set 7 none)[1]? = _
    rw [List.getElem?_set_ne (by decide)]
    exact h1
  have h7 : ((wipeE en [7]).set 7 (some (.d (.int k))))[7]? = some (some (.d (.int k))) := List.getElem?_set_self (by simp [wipeE, hn])
  have hl : ((wipeE en [7]).set 7 (some (.d (.int k)))).length = 11 := by simp [wipeE, hn]
  generalize ((wipeE en [7]).set 7 (some (.d (.int k)))) = en1 at h1' h7 hl
  refine sF_ok ?_
  have e2 : ((rng 0 (d : Int)).map fun y => match y with | .int j => Dv.int (if k = j then 1 else 0) | _ => .non) = ((rng 0 (d : Int)).filter fun _ => true).map fun y => match y with | .int j => Dv.int (if k = j then 1 else 0) | _ => .non := by rw [filt]
  rw [e2]
  refine comp_pure (fun _ => true) _ (iRange1_ok (sVar_ok h1') (by omega) (by omega)) (by rw [rng_len]; omega) fun y acc2 hy => ?_
  obtain ⟨j, rfl, _, _⟩ := rng_mem hy
  refine ⟨_, rfl, rfl, fun _ => ?_⟩
  have h8 : ((wipeE en1 [8]).set 8 (some (.d (.int j))))[8]? = some (some (.d (.int j))) := List.getElem?_set_self (by simp [wipeE, hl])
  have h7' : ((wipeE en1 [8]).set 8 (some (.d (.int j))))[7]? = some (some (.d (.int k))) := by
    rw [List.getElem?_set_ne (by decide)]
    show ((wipeE en1 []).set 8 none)[7]? = _
    rw [List.getElem?_set_ne (by decide)]
    exact h7
  refine sUn_ok (sBin_ok (sVar_ok h7') (sVar_ok h8) rfl rfl (oEq_int k j)) rfl ?_
  by_cases h : k = j <;> simp [oInt, h]
/-- a comprehension over ints alone: [g(x) for x in ..] -/
theorem cmp_ints {fi : SemF} {G : Tgt} {f : Sem1} {vs : List Nat} {en : En} {S S1 : Store} {l : List Int} (v : Int → Dv) (hfi : fi en S = .ok (l.map .int) S1) (hl : l.length ≤ 1000)
    (hs : ∀ x acc, x ∈ l → ∃ en', G (.d (.int x)) (wipeE en vs) (S1 ++ [.lst acc]) = some en' ∧ f en' (S1 ++ [.lst acc]) = .ok (.d (v x)) (S1 ++ [.lst acc])) :
    fComp fi G bYes f vs en S = .ok (l.map v) S1 := by
  have e : l.map v = ((l.map Dv.int).filter fun _ => true).map fun x => match x with | .int k => v k | _ => .non := by
    rw [filt, List.map_map]
    rfl
  rw [e]
  refine comp_pure (fun _ => true) _ hfi (by simp; omega) fun d acc hd => ?_
  obtain ⟨x, hx, rfl⟩ := List.mem_map.mp hd
  obtain ⟨en', h1, h2⟩ := hs x acc hx
  exact ⟨en', h1, rfl, fun _ => h2⟩
/-- [one + by * two for one, two in zip(..)] -/
theorem row_sem {en : En} {S : Store} {q p1 p2 : Nat} {r1 r2 : List Int} {y : Int} {A : Mt} (hl : r1.length ≤ 1000) (hy : -1 ≤ y ∧ y ≤ 1) (h2 : en[2]? = some (some (.o q))) (hq : S[q]? = some (.lst (lm A))) (h4 : en[4]? = some (some (.d (.int p1)))) (h5 : en[5]? = some (some (.d (.int p2))))
    (h6 : en[6]? = some (some (.d (.int y)))) (hn : en.length = 11) (g1 : A[p1]? = some r1) (g2 : A[p2]? = some r2) :
    fComp (EvL.iZip (sBin oIx (sVar 2) (sVar 4)) (sBin oIx (sVar 2) (sVar 5))) (tgTup 2 (tgCons (tgN 9) (tgCons (tgN 10) tgNil))) bYes (sBin oAddP (sVar 9) (sBin oMulP (sVar 6) (sVar 10))) [9, 10] en S = .ok ((List.zipWith (fun u v => u + y * v) r1 r2).map .int) S := by
  have i1 : oIx (.lst (lm A)) (.int p1) = some (mrow r1) := oIx_l (by omega) (by simp [lm, g1])
  have i2 : oIx (.lst (lm A)) (.int p2) = some (mrow r2) := oIx_l (by omega) (by simp [lm, g2])
  have hz := iZip_l (sBin_ok (sVar_ok h2) (sVar_ok h4) (rv_lst hq) rfl i1) (sBin_ok (sVar_ok h2) (sVar_ok h5) (rv_lst hq) rfl i2)
  have e : (List.zipWith (fun u v => u + y * v) r1 r2).map Dv.int = ((pairs (r1.map .int) (r2.map .int)).filter fun _ => true).map fun x => match x with | .tup [.int u, .int v] => .int (u + y * v) | _ => .non := by
    rw [filt]
    unfold pairs
    rw [List.map_zipWith, List.zipWith_map, List.map_zipWith]
  rw [e]
  refine comp_pure (fun _ => true) _ hz (by simp [pairs]; omega) fun x acc hx => ?_
  obtain ⟨i, hi⟩ := List.getElem?_of_mem hx
  unfold pairs at hi
  rw [List.zipWith_map, List.getElem?_zipWith] at hi
  split at hi
  · rename_i u v hu hv
    cases hi
    refine ⟨_, rfl, rfl, fun _ => ?_⟩
    have hk : mulOk y v = true := by simp [mulOk]; omega
    have w9 : ((((wipeE en [9, 10]).set 9 (some (.d (.int u)))).set 10 (some (.d (.int v)))))[9]? = some (some (.d (.int u))) := by
      rw [List.getElem?_set_ne (by decide), List.getElem?_set_self (by simp [wipeE, hn])]
    have w10 : ((((wipeE en [9, 10]).set 9 (some (.d (.int u)))).set 10 (some (.d (.int v)))))[10]? = some (some (.d (.int v))) := List.getElem?_set_self (by simp [wipeE, hn])
    have w6 : ((((wipeE en [9, 10]).set 9 (some (.d (.int u)))).set 10 (some (.d (.int v)))))[6]? = some (some (.d (.int y))) := by
      rw [List.getElem?_set_ne (by decide), List.getElem?_set_ne (by decide)]
      show (((wipeE en []).set 10 none).set 9 none)[6]? = _
      rw [List.getElem?_set_ne (by decide), List.getElem?_set_ne (by decide)]
      exact h6
    exact sBin_ok (sVar_ok w9) (sBin_ok (sVar_ok w6) (sVar_ok w10) rfl rfl (oMulP_i _ _ hk)) rfl rfl (oAddP_i _ _)
  · cases hi
end K21
end

section
set_option Elab.async false
set_option linter.all false
set_option maxRecDepth 100000
set_option maxHeartbeats 4000000
namespace K21
open PySem PySem.Spec PyProof.Rows L2 EvL EvH K21M
/-- the state of the first loop of some_turn: at q the lines A -/
structure St1 (m : Store) (j d : Nat) (b : Int) (i : Nat) (A : Mt) (S : Store) : Prop where
  tu : Turn d (2 ^ i) A
  at_ : S[m.length]? = some (.lst (lm A))
  xt : Xt j m S
  dr : Dr S j (b + 3 * i)
theorem gmat {A : Mt} {d p : Nat} (h : IsM d A) (hp : p < d) : ∃ r, A[p]? = some r ∧ r.length = d ∧ A.getD p [] = r := by
  have : p < A.length := by rw [h.len]; exact hp
  exact ⟨A[p], List.getElem?_eq_getElem this, h.row _ (List.getElem_mem _), gd_lt this⟩
theorem draw_call {en : En} {S : Store} {j : Nat} {b span : Int} {f : Sem1} (h : Dr S j b) (hb : b < 1000000) (hs : 1 ≤ span) (hs2 : span < 1073741824) (h0 : en[0]? = some (some (.o j))) (hf : ∀ S, f en S = .ok (.d (.int span)) S) : ∃ r S', sCall f__law_draw (lCons (sVar 0) (lCons f lNil)) en S = .ok (.d (.int r)) S' ∧ 0 ≤ r ∧ r < span ∧ Sj j S S' ∧ Dr S' j (b + 1) := by
  obtain ⟨r, S', e, h1, h2, h3, h4⟩ := draw_ok h hb hs hs2
  exact ⟨r, S', sCall_ok (lCons_ok (sVar_ok h0) (lCons_ok (hf S) lNil_ok)) e, h1, h2, h3, h4⟩
def bodyT : SemS := (gSeq (gPar 4 5 (lCons (sCall f__law_draw (lCons (sVar 0) (lCons (sVar 1) lNil))) (lCons (sCall f__law_draw (lCons (sVar 0) (lCons (sVar 1) lNil))) lNil))) (gIf (sT (sBin oNe (sVar 4) (sVar 5))) (gSeq (gSet 6 (sBin oSub (sCall f__law_draw (lCons (sVar 0) (lCons (sC (.int 3)) lNil))) (sC (.int 1)))) (gPutL 2 (sVar 4) (sF (fComp (EvL.iZip (sBin oIx (sVar 2) (sVar 4)) (sBin oIx (sVar 2) (sVar 5))) (tgTup 2 (tgCons (tgN 9) (tgCons (tgN 10) tgNil))) bYes (sBin oAddP (sVar 9) (sBin oMulP (sVar 6) (sVar 10))) [9, 10])))) gNext))
theorem bodyT_ok {m S : Store} {j d i : Nat} {b : Int} {A : Mt} {o3 o4 o5 o6 : Option Sv} (hd : 1 ≤ d ∧ d ≤ 3) (h : St1 m j d b i A S) (hb : b + 3 * i + 3 < 1000000) (hjm : j < m.length) :
    ∃ (A' : Mt) (S' : Store) (p4 p5 p6 : Option Sv), bodyT [some (.o j), some (.d (.int d)), some (.o m.length), o3, o4, o5, o6, none, none, none, none] S = .nx [some (.o j), some (.d (.int d)), some (.o m.length), o3, p4, p5, p6, none, none, none, none] S' ∧ St1 m j d b (i + 1) A' S' := by
  obtain ⟨tu, ha, xt, dr⟩ := h
  have hmj : m.length ≠ j := by omega
  have pw : (2 : Int) ^ (i + 1) = 2 * 2 ^ i := by rw [Int.pow_succ]; omega
  have pp : (0 : Int) ≤ 2 ^ i := Int.le_of_lt (Int.pow_pos (by decide))
  obtain ⟨r1, S1, e1, a1, a2, a3, a4⟩ := draw_call (en := [some (.o j), some (.d (.int d)), some (.o m.length), o3, o4, o5, o6, none, none, none, none]) (f := sVar 1) (span := d) dr (by omega) (by omega) (by omega) rfl (fun _ => rfl)
  obtain ⟨r2, S2, e2, b1, b2, b3, b4⟩ := draw_call (en := [some (.o j), some (.d (.int d)), some (.o m.length), o3, o4, o5, o6, none, none, none, none]) (f := sVar 1) (span := d) a4 (by omega) (by omega) (by omega) rfl (fun _ => rfl)
  have hg2 : S2[m.length]? = some (.lst (lm A)) := by rw [b3.at_ _ hmj, a3.at_ _ hmj]; exact ha
  have xt2 : Xt j m S2 := (xt.sj a3).sj b3
  have par := gPar_ok (i := 4) (j := 5) (lCons_ok e1 (lCons_ok e2 lNil_ok))
  obtain ⟨p, rfl⟩ : ∃ p : Nat, r1 = p := ⟨r1.toNat, by omega⟩
  obtain ⟨q, rfl⟩ : ∃ q : Nat, r2 = q := ⟨r2.toNat, by omega⟩
  by_cases hpq : p = q
  · subst hpq
    refine ⟨A, S2, _, _, _, (gSeq_ok par).trans ((gIf_f (sT_ok (sBin_ok (sVar_ok rfl) (sVar_ok rfl) rfl rfl ((oNe_int _ _).trans (by simp))))).trans rfl), ⟨tu.is, fun r hr x hx => ?_, tu.det⟩, hg2, xt2, b4.mono (by omega)⟩
    have := tu.lm r hr x hx
    omega
  · obtain ⟨y, S3, e3, c1, c2, c3, c4⟩ := draw_call (en := [some (.o j), some (.d (.int d)), some (.o m.length), o3, some (.d (.int p)), some (.d (.int q)), o6, none, none, none, none]) (f := sC (.int 3)) (span := 3) b4 (by omega) (by omega) (by omega) rfl (fun _ => rfl)
    have hg3 : S3[m.length]? = some (.lst (lm A)) := by rw [c3.at_ _ hmj]; exact hg2
    obtain ⟨u1, g1, l1, d1⟩ := gmat tu.is (p := p) (by omega)
    obtain ⟨u2, g2, l2, d2⟩ := gmat tu.is (p := q) (by omega)
    have rs := row_sem (en := [some (.o j), some (.d (.int d)), some (.o m.length), o3, some (.d (.int p)), some (.d (.int q)), some (.d (.int (y - 1))), none, none, none, none]) (y := y - 1) (A := A) (r1 := u1) (r2 := u2) (by omega) ⟨by omega, by omega⟩ rfl hg3 rfl rfl rfl rfl g1 g2
    have pl := gPutL_ok (i := 2) (fa := sVar 4) (sF_ok rs) rfl (sVar_ok rfl) hg3 (by omega) (by simp [lm, tu.is.len]; omega)
    refine ⟨addr A p q (y - 1), _, _, _, _, (gSeq_ok par).trans ((gIf_t (sT_ok (sBin_ok (sVar_ok rfl) (sVar_ok rfl) rfl rfl ((oNe_int _ _).trans (by simp; omega))))).trans ((gSeq_ok (gSet_ok (sBin_ok e3 rfl rfl rfl rfl))).trans pl)), ⟨tu.is.addr (by omega) (by omega) _, by rw [pw]; exact tu.lm.addr pp ⟨by omega, by omega⟩, by rw [dt_addr tu.is hd (by omega) (by omega) hpq]; exact tu.det⟩, ?_, (xt2.sj c3).put (Nat.le_refl _) _, (c4.put hmj _).mono (by omega)⟩
    rw [get_set hg3]
    unfold addr lm
    rw [d1, d2, List.map_set]
    simp [mrow]
theorem oGt_ok (i j : Int) : oGt (.int i) (.int j) = some (.bl (decide (j < i))) := rfl
theorem turn_ok {m : Store} {j d : Nat} {b : Int} (h : Dr m j b) (hd : 1 ≤ d ∧ d ≤ 3) (hb : b + 40 < 1000000) : ∃ (A : Mt) (m' : Store), f__law_some_turn [.o j, .d (.int d)] m = .ok (.d (.tup (tm A))) m' ∧ Turn d 64 A ∧ Sj j m m' ∧ Dr m' j (b + 40) := by
  have hjm := h.lt
  have hmj : m.length ≠ j := by omega
  obtain ⟨i1, i2, i3⟩ := idn_ok d hd
  -- the loop
  have go : ∃ (A : Mt) (S : Store) (o3 o4 o5 o6 : Option Sv), gFor (iRange1 (sIf (sT (sBin oGt (sVar 1) (sC (.int 1)))) (sBin oMulP (sC (.int 2)) (sVar 1)) (sC (.int 0)))) (tgN 3) bodyT
      [some (.o j), some (.d (.int d)), some (.o m.length), none, none, none, none, none, none, none, none] (m ++ [.lst (lm (idn d))]) = .nx [some (.o j), some (.d (.int d)), some (.o m.length), o3, o4, o5, o6, none, none, none, none] S ∧ Turn d 64 A ∧ S[m.length]? = some (.lst (lm A)) ∧ Xt j m S ∧ Dr S j (b + 18) := by
    obtain ⟨n, hn, hn6⟩ : ∃ n : Nat, iRange1 (sIf (sT (sBin oGt (sVar 1) (sC (.int 1)))) (sBin oMulP (sC (.int 2)) (sVar 1)) (sC (.int 0))) [some (.o j), some (.d (.int d)), some (.o m.length), none, none, none, none, none, none, none, none] (m ++ [.lst (lm (idn d))]) = .ok (rng 0 n) (m ++ [.lst (lm (idn d))]) ∧ n ≤ 6 := by
      by_cases h1 : 1 < d
      · refine ⟨2 * d, iRange1_ok (k := ((2 * d : Nat) : Int)) ?_ (by omega) (by omega), by omega⟩
        rw [if_ok (b := true) (sT_ok (sBin_ok (sVar_ok rfl) (sC_ok _) rfl rfl ((oGt_ok _ _).trans (by simp; omega)))), if_pos rfl]
        have hk : mulOk 2 (d : Int) = true := by simp [mulOk]
        refine sBin_ok (sC_ok _) (sVar_ok rfl) rfl rfl ((oMulP_i _ _ hk).trans ?_)
        simp
      · refine ⟨0, iRange1_ok (k := ((0 : Nat) : Int)) ?_ (by omega) (by omega), by omega⟩
        rw [if_ok (b := false) (sT_ok (sBin_ok (sVar_ok rfl) (sC_ok _) rfl rfl ((oGt_ok _ _).trans (by simp; omega)))), if_neg Bool.false_ne_true]
        rfl
    obtain ⟨en', S, e, A, o3, o4, o5, o6, rfl, tu, ha, xt, dr⟩ := loop_nx (G := tgN 3) (body := bodyT) (xs := rng 0 n) (fun i en S => ∃ (A : Mt) (o3 o4 o5 o6 : Option Sv), en = [some (.o j), some (.d (.int d)), some (.o m.length), o3, o4, o5, o6, none, none, none, none] ∧ St1 m j d b i A S)
      (fun i x en S hx ⟨A, o3, o4, o5, o6, hen, st⟩ => by
        subst hen
        have hi : i < (rng 0 (n : Int)).length := (List.getElem?_eq_some_iff.mp hx).1
        rw [rng_len] at hi
        obtain ⟨A', S', p4, p5, p6, e, st'⟩ := bodyT_ok (o3 := some (.d x)) (o4 := o4) (o5 := o5) (o6 := o6) hd st (by omega) hjm
        exact ⟨_, rfl, _, S', .inl e, A', some (.d x), p4, p5, p6, rfl, st'⟩)
      (en := [some (.o j), some (.d (.int d)), some (.o m.length), none, none, none, none, none, none, none, none]) (m := m ++ [.lst (lm (idn d))])
      ⟨idn d, none, none, none, none, rfl, ⟨i1, by simpa using i3, .inl i2⟩, get_push _ _, (Xt.refl j m).push _, (h.push _).mono (by omega)⟩
    have hl : (rng 0 (n : Int)).length = n := by rw [rng_len]; omega
    rw [hl] at tu dr
    refine ⟨A, S, o3, o4, o5, o6, (gFor_ok hn).trans e, ⟨tu.is, fun r hr x hx => ?_, tu.det⟩, ha, xt, dr.mono (by omega)⟩
    have := tu.lm r hr x hx
    have p2 : (2 : Int) ^ n ≤ 64 := by
      have : n = 0 ∨ n = 1 ∨ n = 2 ∨ n = 3 ∨ n = 4 ∨ n = 5 ∨ n = 6 := by omega
      rcases this with rfl | rfl | rfl | rfl | rfl | rfl | rfl <;> decide
    omega
  obtain ⟨A, S, o3, o4, o5, o6, e1, tu, ha, xt, dr⟩ := go
  obtain ⟨Fd, S1, e2, pk, sj1, dr1⟩ := shuffled_ok (k := d) dr (by omega) (by omega)
  obtain ⟨p1, p2⟩ := perm_ok tu.is hd (l := Fd) (by have := pk.sum; have := pk.len; omega) pk.nF pk.lF
  have ha1 : S1[m.length]? = some (.lst (lm A)) := by rw [sj1.at_ _ hmj]; exact ha
  have c2 : fComp (iSeq (sCall f__law_shuffled (lCons (sVar 0) (lCons (sVar 1) lNil)))) (tgN 7) bYes (sBin oIx (sVar 2) (sVar 7)) [7] [some (.o j), some (.d (.int d)), some (.o m.length), o3, o4, o5, o6, none, none, none, none] S = .ok (lm (perm A Fd)) S1 := by
    have es : iSeq (sCall f__law_shuffled (lCons (sVar 0) (lCons (sVar 1) lNil))) [some (.o j), some (.d (.int d)), some (.o m.length), o3, o4, o5, o6, none, none, none, none] S = .ok ((Fd.map fun i : Nat => (i : Int)).map .int) S1 := by
      have : ((Fd.map fun i : Nat => (i : Int)).map Dv.int) = iv Fd := by simp [iv]
      rw [this]
      exact iSeq_t (sCall_ok (lCons_ok (sVar_ok rfl) (lCons_ok (sVar_ok rfl) lNil_ok)) e2)
    have e0 : lm (perm A Fd) = (Fd.map fun i : Nat => (i : Int)).map fun k => mrow (A.getD k.toNat []) := by simp [lm, perm]
    rw [e0]
    refine cmp_ints _ es (by have := pk.len; simp; omega) fun x acc hx => ?_
    obtain ⟨p, hp, rfl⟩ := List.mem_map.mp hx
    obtain ⟨u1, g1, l1, d1⟩ := gmat tu.is (p := p) (pk.lF p hp)
    refine ⟨_, rfl, sBin_ok (sVar_ok rfl) (sVar_ok rfl) (rv_lst (get_keep ha1)) rfl (oIx_l (by omega) ?_)⟩
    have e9 : A.getD ((p : Int)).toNat [] = u1 := by simpa using d1
    rw [e9]
    simp [lm, g1]
  have xt1 := (xt.sj sj1)
  have hg2 : (S1 ++ [So.lst (lm (perm A Fd))])[S1.length]? = some (.lst (lm (perm A Fd))) := get_push _ _
  have hl1 : m.length ≤ S1.length := xt1.len
  have dr2 : Dr (S1 ++ [So.lst (lm (perm A Fd))]) j (b + 18 + d) := dr1.push _
  obtain ⟨y, S3, e3, y1, y2, sj3, dr3⟩ := draw_call (en := [some (.o j), some (.d (.int d)), some (.o S1.length), o3, o4, o5, o6, none, none, none, none]) (f := sC (.int 2)) (span := 2) dr2 (by omega) (by omega) (by omega) rfl (fun _ => rfl)
  have hqj : S1.length ≠ j := by have := dr1.lt; omega
  have hg3 : S3[S1.length]? = some (.lst (lm (perm A Fd))) := by rw [sj3.at_ _ hqj]; exact hg2
  have xt3 : Xt j m S3 := (xt1.push _).sj sj3
  -- the sign
  obtain ⟨B, S4, e4, tB, hg4, xt4, dr4⟩ : ∃ (B : Mt) (S4 : Store), gIf (sT (sBin oEq (sCall f__law_draw (lCons (sVar 0) (lCons (sC (.int 2)) lNil))) (sC (.int 0)))) (gPutL 2 (sC (.int 0)) (sF (fComp (iSeq (sBin oIx (sVar 2) (sC (.int 0)))) (tgN 9) bYes (sUn oNeg (sVar 9)) [9]))) gNext
      [some (.o j), some (.d (.int d)), some (.o S1.length), o3, o4, o5, o6, none, none, none, none] (S1 ++ [So.lst (lm (perm A Fd))]) = .nx [some (.o j), some (.d (.int d)), some (.o S1.length), o3, o4, o5, o6, none, none, none, none] S4 ∧ Turn d 64 B ∧ S4[S1.length]? = some (.lst (lm B)) ∧ Xt j m S4 ∧ Dr S4 j (b + 40) := by
    have tP : Turn d 64 (perm A Fd) := ⟨p1, tu.lm.perm, by have := tu.det; omega⟩
    by_cases hy : y = 0
    · subst hy
      obtain ⟨u1, g1, l1, d1⟩ := gmat p1 (p := 0) (by omega)
      obtain ⟨n1, n2⟩ := neg0_ok p1 hd
      have i1 : oIx (.lst (lm (perm A Fd))) (.int 0) = some (mrow u1) := oIx_l (by omega) (by simp [lm, g1])
      have c3 : fComp (iSeq (sBin oIx (sVar 2) (sC (.int 0)))) (tgN 9) bYes (sUn oNeg (sVar 9)) [9] [some (.o j), some (.d (.int d)), some (.o S1.length), o3, o4, o5, o6, none, none, none, none] S3 = .ok (u1.map fun x => Dv.int (-x)) S3 :=
        cmp_ints _ (iSeq_d (sBin_ok (sVar_ok rfl) (sC_ok _) (rv_lst hg3) rfl i1)) (by omega) fun x acc hx => ⟨_, rfl, sUn_ok (sVar_ok rfl) rfl rfl⟩
      refine ⟨neg0 (perm A Fd), _, (gIf_t (sT_ok (sBin_ok e3 (sC_ok _) rfl rfl ((oEq_int _ _).trans (by simp))))).trans (gPutL_ok (sF_ok c3) rfl (sC_ok _) hg3 (by omega) (by simp [lm, p1.len]; omega)), ⟨n1, tP.lm.neg0, by rw [n2]; have := tP.det; omega⟩, ?_, xt3.put hl1 _, (dr3.put hqj _).mono (by omega)⟩
      rw [get_set hg3]
      unfold neg0 lm
      rw [d1, List.map_set]
      simp [mrow, Function.comp_def]
    · exact ⟨perm A Fd, S3, (gIf_f (sT_ok (sBin_ok e3 (sC_ok _) rfl rfl ((oEq_int _ _).trans (by simp [hy]))))).trans rfl, tP, hg3, xt3, dr3.mono (by omega)⟩
  -- the tuple
  have c4 : fComp (iSeq (sVar 2)) (tgN 9) bYes (sUn oTuple (sVar 9)) [9] [some (.o j), some (.d (.int d)), some (.o S1.length), o3, o4, o5, o6, none, none, none, none] S4 = .ok (tm B) (S4.set S1.length .gone) := by
    have e0 : tm B = ((lm B).filter fun _ => true).map fun x => match x with | .lst xs => .tup xs | _ => .non := by
      rw [filt]
      simp [tm, lm, mrow, trow]
    rw [e0]
    refine comp_pure (fun _ => true) _ (iSeq_o (sVar_ok rfl) hg4) (by simp [lm, tB.is.len]; omega) fun x acc hx => ?_
    obtain ⟨r, hr, rfl⟩ := List.mem_map.mp hx
    exact ⟨_, rfl, rfl, fun _ => sUn_ok (sVar_ok rfl) rfl rfl⟩
  refine ⟨B, (S4.set S1.length .gone).take m.length, ?_, tB, (xt4.put hl1 _).cut, (dr4.put hqj _).cut hjm⟩
  refine fn_d rfl ((gSeq_ok (gNew_ok (idn_sem (d := d) (by omega) rfl rfl))).trans ((gSeq_ok e1).trans ((gSeq_ok (gNew_ok c2)).trans ((gSeq_ok e4).trans (gRet_ok (sUn_ok (sF_ok c4) rfl rfl))))))
end K21
end

section
set_option Elab.async false
set_option linter.all false
set_option maxRecDepth 100000
set_option maxHeartbeats 4000000
namespace K21
open PySem PySem.Spec PyProof.Rows L2 EvL EvH K21M
def ty (d : Dv) : Bool := (tyName d).isSome
def isI : Dv → Bool
  | .int _ => true
  | _ => false
def inR (lo hi : Int) : Dv → Bool
  | .int i => decide (lo ≤ i) && decide (i ≤ hi)
  | _ => false
theorem fin_d {ns np : Nat} {g : SemS} {ws : List Sv} {m : Store} {d : Dv} (hn : ws.length = np) (hg : g (start0 ns ws) m = .rt (.d d) m) : fnS ns np g ws m = .ok (.d d) m := (fn_d hn hg).trans (by rw [take_self])
theorem chain_ok {fa fb fc : Sem1} {en : En} {m : Store} {x y z : Int} (ha : fa en m = .ok (.d (.int x)) m) (hb : fb en m = .ok (.d (.int y)) m) (hc : fc en m = .ok (.d (.int z)) m) : sChain oLe oLe fa fb fc en m = .ok (.d (.bl (decide (x ≤ y) && decide (y ≤ z)))) m := by
  unfold sChain
  by_cases h : x ≤ y <;> simp [Rs.bind, ha, hb, hc, rv_d, iop, isB, h]
theorem v_is_integer {d : Dv} (h : ty d = true) (m : Store) : f_is_integer [.d d] m = .ok (.d (.bl (isI d))) m := by
  cases d <;> first | exact fin_d rfl rfl | (simp [ty, tyName] at h; done)
theorem v_is_from {d : Dv} {lo hi : Int} (h : ty d = true) (m : Store) : f_is_from [.d d, .d (.int lo), .d (.int hi)] m = .ok (.d (.bl (inR lo hi d))) m := by
  refine fin_d rfl (gRet_ok ?_)
  have e : sCall f_is_integer (lCons (sVar 0) lNil) (start0 3 [.d d, .d (.int lo), .d (.int hi)]) m = .ok (.d (.bl (isI d))) m := sCall_ok (lCons_ok (sVar_ok rfl) lNil_ok) (v_is_integer h m)
  cases d with
  | int i => exact (sAnd_t e).trans (chain_ok (sVar_ok rfl) (sVar_ok rfl) (sVar_ok rfl))
  | _ => exact sAnd_f e
theorem v_law_is_from {d : Dv} {lo hi : Int} (h : ty d = true) (m : Store) : f__law_is_from [.d d, .d (.int lo), .d (.int hi)] m = .ok (.d (.bl (inR lo hi d))) m := by
  refine fin_d rfl (gRet_ok ?_)
  cases d with
  | int i => exact (sAnd_t (m1 := m) rfl).trans ((sAnd_t (m1 := m) rfl).trans (chain_ok (sVar_ok rfl) (sVar_ok rfl) (sVar_ok rfl)))
  | bl b => exact (sAnd_t (m1 := m) rfl).trans (sAnd_f (m1 := m) rfl)
  | non => exact sAnd_f (m1 := m) rfl
  | str z => exact sAnd_f (m1 := m) rfl
  | tup xs => exact sAnd_f (m1 := m) rfl
  | lst xs => exact sAnd_f (m1 := m) rfl
  | scr xs => exact sAnd_f (m1 := m) rfl
  | dic xs => exact sAnd_f (m1 := m) rfl
  | fn n => simp [ty, tyName] at h
/-- a spot: a tuple of so many whole numbers in reach -/
def isSpot (k : Int) (d : Dv) : Bool := match d with
  | .tup xs => decide ((xs.length : Int) = k) && xs.all (inR (-1000) 1000)
  | _ => false
def tys (xs : List Dv) : Bool := xs.all ty
theorem oIs_tup_t (xs : List Dv) : oIs "tuple" (.tup xs) = some (.bl true) := rfl
theorem boolsD_map : ∀ l : List Bool, boolsD (l.map .bl) = some l
  | [] => rfl
  | b :: l => by
    show (boolsD (l.map .bl)).map (b :: ·) = _
    rw [boolsD_map l]
    rfl
theorem oAll_bl (l : List Bool) : oAll (.lst (l.map .bl)) = some (.bl (l.all id)) := by
  show (boolsD (l.map .bl)).map _ = _
  rw [boolsD_map]
  rfl
theorem v_is_point {k : Int} {d : Dv} (h : ty d = true) (h2 : ∀ xs, d = .tup xs → tys xs = true ∧ xs.length ≤ 1000) (m : Store) : f_is_point [.d (.int k), .d d] m = .ok (.d (.bl (isSpot k d))) m := by
  refine fin_d rfl ?_
  cases d with
  | tup xs =>
    obtain ⟨ht, hl⟩ := h2 xs rfl
    have e1 : oLen (.tup xs) = some (.int xs.length) := rfl
    by_cases hk : (xs.length : Int) = k
    · have t1 : bOr (bNot (sT (sUn (oIs "tuple") (sVar 1)))) (sT (sBin oNe (sUn oLen (sVar 1)) (sVar 0))) (start0 3 [.d (.int k), .d (.tup xs)]) m = .ok false m :=
        (bOr_f (bNot_ok (sT_ok (sUn_ok (sVar_ok rfl) rfl (oIs_tup_t xs))))).trans (sT_ok (sBin_ok (sUn_ok (sVar_ok rfl) rfl e1) (sVar_ok rfl) rfl rfl ((oNe_int _ _).trans (by simp [hk]))))
      refine (gSeq_ok ((gIf_f t1).trans rfl)).trans (gRet_ok ?_)
      have c : fComp (iSeq (sVar 1)) (tgN 2) bYes (sCall f_is_from (lCons (sVar 2) (lCons (sBin oSub (sC (.int 0)) (sC (.int 1000))) (lCons (sC (.int 1000)) lNil)))) [2] (start0 3 [.d (.int k), .d (.tup xs)]) m = .ok ((xs.map (inR (-1000) 1000)).map .bl) m := by
        have e0 : (xs.map (inR (-1000) 1000)).map Dv.bl = (xs.filter fun _ => true).map fun x => Dv.bl (inR (-1000) 1000 x) := by rw [filt, List.map_map]; rfl
        rw [e0]
        refine comp_pure (fun _ => true) _ (iSeq_t (sVar_ok rfl)) (by omega) fun x acc hx => ⟨_, rfl, rfl, fun _ => ?_⟩
        exact sCall_ok (lCons_ok (sVar_ok rfl) (lCons_ok rfl (lCons_ok rfl lNil_ok))) (v_is_from (List.all_eq_true.mp ht x hx) _)
      refine (sUn_ok (sF_ok c) rfl (oAll_bl _)).trans ?_
      simp [isSpot, hk]
    · have t1 : bOr (bNot (sT (sUn (oIs "tuple") (sVar 1)))) (sT (sBin oNe (sUn oLen (sVar 1)) (sVar 0))) (start0 3 [.d (.int k), .d (.tup xs)]) m = .ok true m :=
        (bOr_f (bNot_ok (sT_ok (sUn_ok (sVar_ok rfl) rfl (oIs_tup_t xs))))).trans (sT_ok (sBin_ok (sUn_ok (sVar_ok rfl) rfl e1) (sVar_ok rfl) rfl rfl ((oNe_int _ _).trans (by simp [hk]))))
      refine (gSeq_rt ((gIf_t t1).trans (gRet_ok rfl))).trans ?_
      simp [isSpot, hk]
  | fn n => simp [ty, tyName] at h
  | _ => exact gSeq_rt ((gIf_t (bOr_t (m1 := m) rfl)).trans (gRet_ok rfl))
end K21
end

section
set_option Elab.async false
set_option linter.all false
set_option maxRecDepth 100000
set_option maxHeartbeats 4000000
namespace K21
open PySem PySem.Spec PyProof.Rows L2 EvL EvH K21M
theorem mk1 {a : Int} (h : -1000 ≤ a ∧ a ≤ 1000) (y : Int) : mulOk a y = true := by
  simp [mulOk]
  omega
theorem rng3 : rng 0 3 = [.int 0, .int 1, .int 2] := rfl
theorem v_det1 {a : Int} (m : Store) : f_determinant_in [.d (.tup (tm [[a]]))] m = .ok (.d (.int a)) m := by
  have t1 : sT (sBin oEq (sUn oLen (sVar 0)) (sC (.int 1))) (start0 5 [.d (.tup (tm [[a]]))]) m = .ok true m := sT_ok (sBin_ok (sUn_ok (sVar_ok rfl) rfl rfl) (sC_ok _) rfl rfl (oEq_int _ _))
  exact fin_d rfl (gSeq_rt ((gIf_t t1).trans (gRet_ok (sBin_ok (sBin_ok (sVar_ok rfl) (sC_ok _) rfl rfl rfl) (sC_ok _) rfl rfl rfl))))
theorem v_det2 {a b c e : Int} (h : lim 1000 [[a, b], [c, e]]) (m : Store) : f_determinant_in [.d (.tup (tm [[a, b], [c, e]]))] m = .ok (.d (.int (a * e - b * c))) m := by
  have ha := mk1 (h [a, b] (by simp) a (by simp))
  have hb := mk1 (h [a, b] (by simp) b (by simp))
  have t1 : sT (sBin oEq (sUn oLen (sVar 0)) (sC (.int 1))) (start0 5 [.d (.tup (tm [[a, b], [c, e]]))]) m = .ok false m := sT_ok (sBin_ok (sUn_ok (sVar_ok rfl) rfl rfl) (sC_ok _) rfl rfl (oEq_int _ _))
  have t2 : sT (sBin oEq (sUn oLen (sVar 0)) (sC (.int 2))) (start0 5 [.d (.tup (tm [[a, b], [c, e]]))]) m = .ok true m := sT_ok (sBin_ok (sUn_ok (sVar_ok rfl) rfl rfl) (sC_ok _) rfl rfl (oEq_int _ _))
  refine fin_d rfl ((gSeq_ok ((gIf_f t1).trans rfl)).trans (gSeq_rt ((gIf_t t2).trans (gRet_ok ?_))))
  refine sBin_ok (sBin_ok (sBin_ok (sBin_ok (sVar_ok rfl) (sC_ok _) rfl rfl rfl) (sC_ok _) rfl rfl rfl) (sBin_ok (sBin_ok (sVar_ok rfl) (sC_ok _) rfl rfl rfl) (sC_ok _) rfl rfl rfl) rfl rfl (oMulP_i _ _ (ha _))) (sBin_ok (sBin_ok (sBin_ok (sVar_ok rfl) (sC_ok _) rfl rfl rfl) (sC_ok _) rfl rfl rfl) (sBin_ok (sBin_ok (sVar_ok rfl) (sC_ok _) rfl rfl rfl) (sC_ok _) rfl rfl rfl) rfl rfl (oMulP_i _ _ (hb _))) rfl rfl rfl
theorem gAug_ok {i : Nat} {op : Int → Int → Int} {f : Sem1} {en : En} {m m1 : Store} {x y : Int} (h0 : en[i]? = some (some (.d (.int x)))) (h : f en m = .ok (.d (.int y)) m1) : gAug i op f en m = .nx (en.set i (some (.d (.int (op x y))))) m1 := by
  unfold gAug
  rw [h0]
  simp [Rs.st, h, rv_d]
theorem v_det3 {a b c e f g i j k : Int} (h : lim 1000 [[a, b, c], [e, f, g], [i, j, k]]) (m : Store) : f_determinant_in [.d (.tup (tm [[a, b, c], [e, f, g], [i, j, k]]))] m = .ok (.d (.int (dt [[a, b, c], [e, f, g], [i, j, k]]))) m := by
  have ha := mk1 (h [a, b, c] (by simp) a (by simp))
  have hb := mk1 (h [a, b, c] (by simp) b (by simp))
  have hc := mk1 (h [a, b, c] (by simp) c (by simp))
  have he := mk1 (h [e, f, g] (by simp) e (by simp))
  have hf := mk1 (h [e, f, g] (by simp) f (by simp))
  have hg := mk1 (h [e, f, g] (by simp) g (by simp))
  have t1 : sT (sBin oEq (sUn oLen (sVar 0)) (sC (.int 1))) (start0 5 [.d (.tup (tm [[a, b, c], [e, f, g], [i, j, k]]))]) m = .ok false m := sT_ok (sBin_ok (sUn_ok (sVar_ok rfl) rfl rfl) (sC_ok _) rfl rfl (oEq_int _ _))
  have t2 : sT (sBin oEq (sUn oLen (sVar 0)) (sC (.int 2))) (start0 5 [.d (.tup (tm [[a, b, c], [e, f, g], [i, j, k]]))]) m = .ok false m := sT_ok (sBin_ok (sUn_ok (sVar_ok rfl) rfl rfl) (sC_ok _) rfl rfl (oEq_int _ _))
  refine fin_d rfl ((gSeq_ok ((gIf_f t1).trans rfl)).trans ((gSeq_ok ((gIf_f t2).trans rfl)).trans ((gSeq_ok (gSet_ok (sC_ok _))).trans ?_)))
  refine (gSeq_ok (e1 := [some (.d (.tup (tm [[a, b, c], [e, f, g], [i, j, k]]))), some (.d (.int (dt [[a, b, c], [e, f, g], [i, j, k]]))), some (.d (.int 2)), some (.d (.int 0)), some (.d (.int 1))]) (m1 := m) ((gFor_ok (iRange1_ok (sC_ok _) (by decide) (by decide))).trans ?_)).trans (gRet_ok (sVar_ok rfl))
  rw [rng3]
  simp [fnS, start0, gSeq, gIf, gSet, gRet, gPutD, gPar, gNext, gExpr, gAsg, gNew, sVar, sC, sBin, sUn, sT, sIf, sTup, sCall, lCons, lNil, truth, Rs.bind, Rs.st, rv_d, frz_d, fnEnd, oDGet, iop, iopC, oInt, oMulP_i, oAddP_i, loop, tgN, gAug, ha, hb, hc, he, hf, hg, oIx, atI, ixN, tm, trow, start0, dt, modOk, Int.fmod]

/-- a loop that looks for the first place of which P holds -/
theorem loop_first {G : Tgt} {body : SemS} {xs : List Dv} {m : Store} (P : Nat → Bool) (r : Nat → Dv) (E : En → Prop)
    (hs : ∀ i d en, xs[i]? = some d → E en → ∃ en1, G (.d d) en m = some en1 ∧ (P i = false → ∃ e2, (body en1 m = .nx e2 m ∨ body en1 m = .ct e2 m) ∧ E e2) ∧ (P i = true → body en1 m = .rt (.d (r i)) m)) {en : En} (h0 : E en) :
    ((∀ i, i < xs.length → P i = false) → ∃ en', loop G body xs en m = .nx en' m ∧ E en') ∧ (∀ i, i < xs.length → P i = true → (∀ k, k < i → P k = false) → loop G body xs en m = .rt (.d (r i)) m) := by
  have main : ∀ (n i : Nat) (en : En), i + n = xs.length → E en → (∀ k, k < i → P k = false) →
      ((∀ i, i < xs.length → P i = false) → ∃ en', loop G body (xs.drop i) en m = .nx en' m ∧ E en') ∧ (∀ p, i ≤ p → p < xs.length → P p = true → (∀ k, k < p → P k = false) → loop G body (xs.drop i) en m = .rt (.d (r p)) m) := by
    intro n
    induction n with
    | zero =>
      intro i en hi he hk
      have : i = xs.length := by omega
      subst this
      rw [List.drop_length]
      exact ⟨fun _ => ⟨en, rfl, he⟩, fun p h1 h2 _ _ => absurd h1 (by omega)⟩
    | succ n ih =>
      intro i en hi he hk
      have hlt : i < xs.length := by omega
      rw [List.drop_eq_getElem_cons hlt]
      obtain ⟨en1, g1, g2, g3⟩ := hs i xs[i] en (List.getElem?_eq_getElem hlt) he
      unfold loop
      rw [g1]
      dsimp only
      cases hp : P i with
      | false =>
        obtain ⟨e2, b1, b2⟩ := g2 hp
        have nxt := ih (i + 1) e2 (by omega) b2 (fun k hk' => by
          by_cases z : k = i
          · subst z; exact hp
          · exact hk k (by omega))
        rcases b1 with b1 | b1 <;> rw [b1]
        all_goals
          exact ⟨nxt.1, fun p h1 h2 h3 h4 => nxt.2 p (by
            by_cases z : p = i
            · subst z; rw [hp] at h3; cases h3
            · omega) h2 h3 h4⟩
      | true =>
        rw [g3 hp]
        refine ⟨fun h => absurd (h i hlt) (by rw [hp]; simp), fun p h1 h2 h3 h4 => ?_⟩
        by_cases z : p = i
        · subst z; rfl
        · exact absurd (h4 i (by omega)) (by rw [hp]; simp)
  have := main xs.length 0 en (by omega) h0 (fun k hk => absurd hk (by omega))
  rw [List.drop_zero] at this
  exact ⟨this.1, fun i h1 h2 h3 => this.2 i (Nat.zero_le _) h1 h2 h3⟩
theorem numb_get {xs : List Dv} {i : Nat} {d : Dv} (h : (numb xs)[i]? = some d) : ∃ x, xs[i]? = some x ∧ d = .tup [.int i, x] := by
  unfold numb at h
  rw [List.getElem?_mapIdx] at h
  cases e : xs[i]? with
  | none => rw [e] at h; cases h
  | some x => rw [e] at h; cases h; exact ⟨x, rfl, rfl⟩
theorem numb_len (xs : List Dv) : (numb xs).length = xs.length := by unfold numb; simp
theorem iEnum_t {f : Sem1} {en : En} {m m' : Store} {xs : List Dv} (h : f en m = .ok (.d (.tup xs)) m') : iEnumS f en m = .ok (numb xs) m' := by simp [iEnumS, Rs.bind, h, frz_d, items]
/-! faults, plainly -/
def tI (f : List Int) : Dv := .tup (f.map .int)
def badAt (xs : List Dv) (j : Nat) : Bool := !inR (-1000) 1000 (xs.getD j .non)
/-- the first place of which P holds -/
def firstP (n : Nat) (P : Nat → Bool) : Option Nat := (List.range n).find? P
theorem firstP_none {n : Nat} {P : Nat → Bool} (h : firstP n P = none) : ∀ i, i < n → P i = false := by
  unfold firstP at h
  rw [List.find?_eq_none] at h
  intro i hi
  have := h i (by simpa using hi)
  simpa using this
theorem firstP_some {n p : Nat} {P : Nat → Bool} (h : firstP n P = some p) : p < n ∧ P p = true ∧ ∀ k, k < p → P k = false := by
  unfold firstP at h
  rw [List.find?_range_eq_some] at h
  obtain ⟨h1, h2, h3⟩ := h
  refine ⟨by simpa using h2, h1, fun k hk => ?_⟩
  have := h3 k hk
  simpa using this
end K21
end

section
set_option Elab.async false
set_option linter.all false
set_option maxRecDepth 100000
set_option maxHeartbeats 4000000
namespace K21
open PySem PySem.Spec PyProof.Rows L2 EvL EvH K21M
/-- a line's first fault -/
def rowF (n k : Nat) : Dv → Option (List Int)
  | .tup xs => if xs.length = n then (firstP xs.length (badAt xs)).map fun (j : Nat) => [(k : Int), (j : Int)] else some [(k : Int)]
  | _ => some [(k : Int)]
def rowB (n : Nat) (ls : List Dv) (k : Nat) : Bool := (rowF n k (ls.getD k .non)).isSome
def intD : Dv → Int
  | .int i => i
  | _ => 0
def rowD : Dv → List Int
  | .tup xs => xs.map intD
  | _ => []
def toM (ls : List Dv) : Mt := ls.map rowD
def scanF (ls : List Dv) : Option (List Int) := (firstP ls.length (rowB ls.length ls)).bind fun k => rowF ls.length k (ls.getD k .non)
/-- what is wrong with the lines: the program's path below the lines' own place -/
def lnF : Dv → Option (List Int)
  | .tup ls => if 1 ≤ ls.length ∧ ls.length ≤ 3 then (match scanF ls with
    | some f => some f
    | none => if dt (toM ls) = 1 ∨ dt (toM ls) = -1 then none else some []) else some []
  | _ => some []
/-- tame: what the helpers may be asked about -/
def tameR (x : Dv) : Prop := ty x = true ∧ ∀ ys, x = .tup ys → ys.length ≤ 1000 ∧ ∀ y ∈ ys, ty y = true
def tameL (v : Dv) : Prop := ty v = true ∧ ∀ xs, v = .tup xs → xs.length ≤ 1000 ∧ ∀ x ∈ xs, tameR x
theorem ty_str {x : Dv} (h : ty x = true) : ∃ n, tyName x = some n := by
  unfold ty at h
  cases e : tyName x with
  | none => rw [e] at h; cases h
  | some n => exact ⟨n, rfl⟩
theorem oIs_not {x : Dv} (h : ty x = true) (hn : ∀ xs, x ≠ .tup xs) : oIs "tuple" x = some (.bl false) := by
  cases x with
  | tup xs => exact absurd rfl (hn xs)
  | fn n => simp [ty, tyName] at h
  | _ => rfl
theorem badAt_get {xs : List Dv} {j : Nat} {y : Dv} (h : xs[j]? = some y) : badAt xs j = !inR (-1000) 1000 y := by
  unfold badAt
  rw [List.getD_eq_getElem?_getD, h]
  rfl
/-- the scan of one line -/
theorem row_scan {body : SemS} {xs : List Dv} {m : Store} {r : Nat → Dv} {E : En → Prop} {a b : Nat} (hx : ∀ y ∈ xs, ty y = true)
    (hE : ∀ en i y, E en → E ((en.set a (some (.d (.int (i : Nat))))).set b (some (.d y))))
    (hb : ∀ (en : En) (i : Nat) (y : Dv), xs[i]? = some y → E en → ty y = true → ((inR (-1000) 1000 y = true → body ((en.set a (some (.d (.int (i : Nat))))).set b (some (.d y))) m = .nx ((en.set a (some (.d (.int (i : Nat))))).set b (some (.d y))) m) ∧
      (inR (-1000) 1000 y = false → body ((en.set a (some (.d (.int (i : Nat))))).set b (some (.d y))) m = .rt (.d (r i)) m))) {en : En} (h0 : E en) :
    match firstP xs.length (badAt xs) with
    | none => ∃ en', loop (tgTup 2 (tgCons (tgN a) (tgCons (tgN b) tgNil))) body (numb xs) en m = .nx en' m ∧ E en'
    | some j => loop (tgTup 2 (tgCons (tgN a) (tgCons (tgN b) tgNil))) body (numb xs) en m = .rt (.d (r j)) m := by
  have key := loop_first (G := tgTup 2 (tgCons (tgN a) (tgCons (tgN b) tgNil))) (body := body) (xs := numb xs) (m := m) (badAt xs) r E (fun i d en hd he => by
    obtain ⟨y, hy, rfl⟩ := numb_get hd
    have ht := hx y (List.mem_of_getElem? hy)
    have hh := hb en i y hy he ht
    refine ⟨_, rfl, fun hp => ⟨_, .inl (hh.1 ?_), hE en i y he⟩, fun hp => hh.2 ?_⟩
    · rw [badAt_get hy] at hp; simpa using hp
    · rw [badAt_get hy] at hp; simpa using hp) h0
  rw [numb_len] at key
  cases e : firstP xs.length (badAt xs) with
  | none => exact key.1 (firstP_none e)
  | some j =>
    obtain ⟨h1, h2, h3⟩ := firstP_some e
    exact key.2 j h1 h2 h3
theorem toM_tm {ls : List Dv} {n : Nat} (h : ∀ k, k < ls.length → rowF n k (ls.getD k .non) = none) : ls = tm (toM ls) ∧ (∀ r ∈ toM ls, r.length = n) ∧ lim 1000 (toM ls) := by
  have each : ∀ l ∈ ls, l = trow (rowD l) ∧ (rowD l).length = n ∧ ∀ x ∈ rowD l, -1000 ≤ x ∧ x ≤ 1000 := by
    intro l hl
    obtain ⟨k, hk⟩ := List.getElem?_of_mem hl
    have hlt := (List.getElem?_eq_some_iff.mp hk).1
    have := h k hlt
    rw [List.getD_eq_getElem?_getD, hk] at this
    cases l with
    | tup xs =>
      simp only [Option.getD_some, rowF] at this
      split at this
      · rename_i hn
        rw [Option.map_eq_none_iff] at this
        have ok : ∀ x ∈ xs, ∃ i : Int, x = .int i ∧ -1000 ≤ i ∧ i ≤ 1000 := by
          intro x hx
          obtain ⟨j, hj⟩ := List.getElem?_of_mem hx
          have hb := firstP_none this j (List.getElem?_eq_some_iff.mp hj).1
          rw [badAt_get hj] at hb
          cases x with
          | int i =>
            simp [inR] at hb
            exact ⟨i, rfl, hb.1, hb.2⟩
          | _ => simp [inR] at hb
        refine ⟨?_, by simp [rowD, hn], fun x hx => ?_⟩
        · simp only [trow, rowD, List.map_map]
          congr 1
          apply List.ext_getElem?
          intro j
          rw [List.getElem?_map]
          cases e : xs[j]? with
          | none => rfl
          | some x =>
            obtain ⟨i, rfl, _⟩ := ok x (List.mem_of_getElem? e)
            rfl
        · simp only [rowD, List.mem_map] at hx
          obtain ⟨y, hy, rfl⟩ := hx
          obtain ⟨i, rfl, h1, h2⟩ := ok y hy
          exact ⟨h1, h2⟩
      · cases this
    | _ => simp [rowF] at this
  refine ⟨?_, fun r hr => ?_, fun r hr x hx => ?_⟩
  · apply List.ext_getElem?
    intro j
    unfold tm toM
    rw [List.map_map, List.getElem?_map]
    cases e : ls[j]? with
    | none => rfl
    | some l => exact congrArg some (each l (List.mem_of_getElem? e)).1
  · obtain ⟨l, hl, rfl⟩ := List.mem_map.mp hr
    exact (each l hl).2.1
  · obtain ⟨l, hl, rfl⟩ := List.mem_map.mp hr
    exact (each l hl).2.2 x hx
theorem v_det {A : Mt} {d : Nat} (h : IsM d A) (hd : 1 ≤ d ∧ d ≤ 3) (hl : lim 1000 A) (m : Store) : f_determinant_in [.d (.tup (tm A))] m = .ok (.d (.int (dt A))) m := by
  have : d = 1 ∨ d = 2 ∨ d = 3 := by omega
  rcases this with rfl | rfl | rfl
  · obtain ⟨a, rfl⟩ := h.one
    exact v_det1 m
  · obtain ⟨a, b, c, e, rfl⟩ := h.two
    exact v_det2 hl m
  · obtain ⟨a, b, c, e, f, g, i, j, k, rfl⟩ := h.three
    exact v_det3 hl m
end K21
end

section
set_option Elab.async false
set_option linter.all false
set_option maxRecDepth 100000
set_option maxHeartbeats 4000000
namespace K21
open PySem PySem.Spec PyProof.Rows L2 EvL EvH K21M
/-- the program's body of the loop over lines -/
def pBody : SemS := (gSeq (gIf (bOr (bNot (sT (sUn (oIs "tuple") (sVar 2)))) (sT (sBin oNe (sUn oLen (sVar 2)) (sUn oLen (sVar 0))))) (gRet (sTup (lCons (sVar 1) lNil))) gNext) (gFor (iEnumS (sVar 2)) (tgTup 2 (tgCons (tgN 3) (tgCons (tgN 4) tgNil))) (gIf (bNot (sT (sCall f_is_from (lCons (sVar 4) (lCons (sBin oSub (sC (.int 0)) (sC (.int 1000))) (lCons (sC (.int 1000)) lNil)))))) (gRet (sTup (lCons (sVar 1) (lCons (sVar 3) lNil)))) gNext)))
theorem oLen_t (xs : List Dv) : oLen (.tup xs) = some (.int xs.length) := rfl
theorem tup1 {f : Sem1} {en : En} {m : Store} {i : Int} (h : f en m = .ok (.d (.int i)) m) : sTup (lCons f lNil) en m = .ok (.d (tI [i])) m := tup_ok (lCons_ok h lNil_ok) rfl rfl
theorem tup2 {f g : Sem1} {en : En} {m : Store} {i j : Int} (h : f en m = .ok (.d (.int i)) m) (h' : g en m = .ok (.d (.int j)) m) : sTup (lCons f (lCons g lNil)) en m = .ok (.d (tI [i, j])) m := tup_ok (lCons_ok h (lCons_ok h' lNil_ok)) rfl rfl
theorem pl_row {ls : List Dv} {l : Dv} {k : Nat} {m : Store} {o3 o4 : Option Sv} (hl : tameR l) : match rowF ls.length k l with
    | none => ∃ p3 p4, pBody [some (.d (.tup ls)), some (.d (.int k)), some (.d l), o3, o4] m = .nx [some (.d (.tup ls)), some (.d (.int k)), some (.d l), p3, p4] m
    | some f => pBody [some (.d (.tup ls)), some (.d (.int k)), some (.d l), o3, o4] m = .rt (.d (tI f)) m := by
  by_cases ht : ∃ xs, l = .tup xs
  · obtain ⟨xs, rfl⟩ := ht
    obtain ⟨hx1, hx2⟩ := hl.2 xs rfl
    unfold rowF
    dsimp only
    by_cases hn : xs.length = ls.length
    · rw [if_pos hn]
      have t1 : bOr (bNot (sT (sUn (oIs "tuple") (sVar 2)))) (sT (sBin oNe (sUn oLen (sVar 2)) (sUn oLen (sVar 0)))) [some (.d (.tup ls)), some (.d (.int k)), some (.d (.tup xs)), o3, o4] m = .ok false m :=
        (bOr_f (bNot_ok (sT_ok (sUn_ok (sVar_ok rfl) rfl (oIs_tup_t xs))))).trans (sT_ok (sBin_ok (sUn_ok (sVar_ok rfl) rfl (oLen_t xs)) (sUn_ok (sVar_ok rfl) rfl (oLen_t ls)) rfl rfl ((oNe_int _ _).trans (by simp [hn]))))
      have key := row_scan (xs := xs) (m := m) (a := 3) (b := 4) (body := (gIf (bNot (sT (sCall f_is_from (lCons (sVar 4) (lCons (sBin oSub (sC (.int 0)) (sC (.int 1000))) (lCons (sC (.int 1000)) lNil)))))) (gRet (sTup (lCons (sVar 1) (lCons (sVar 3) lNil)))) gNext)) (r := fun j => tI [(k : Int), (j : Int)])
        (E := fun en => ∃ p3 p4, en = [some (.d (.tup ls)), some (.d (.int k)), some (.d (.tup xs)), p3, p4]) hx2 (fun en i y ⟨p3, p4, h⟩ => by subst h; exact ⟨_, _, rfl⟩)
        (fun en i y hy ⟨p3, p4, h⟩ hty => by
          subst h
          have e : sCall f_is_from (lCons (sVar 4) (lCons (sBin oSub (sC (.int 0)) (sC (.int 1000))) (lCons (sC (.int 1000)) lNil))) [some (.d (.tup ls)), some (.d (.int k)), some (.d (.tup xs)), some (.d (.int (i : Nat))), some (.d y)] m = .ok (.d (.bl (inR (-1000) 1000 y))) m :=
            sCall_ok (lCons_ok (sVar_ok rfl) (lCons_ok rfl (lCons_ok rfl lNil_ok))) (v_is_from hty m)
          refine ⟨fun h => ?_, fun h => ?_⟩
          · rw [h] at e
            exact (gIf_f (bNot_ok (sT_ok e))).trans rfl
          · rw [h] at e
            exact (gIf_t (bNot_ok (sT_ok e))).trans (gRet_ok (tup2 (sVar_ok rfl) (sVar_ok rfl))))
        (en := [some (.d (.tup ls)), some (.d (.int k)), some (.d (.tup xs)), o3, o4]) ⟨o3, o4, rfl⟩
      have un : pBody [some (.d (.tup ls)), some (.d (.int k)), some (.d (.tup xs)), o3, o4] m = loop (tgTup 2 (tgCons (tgN 3) (tgCons (tgN 4) tgNil))) (gIf (bNot (sT (sCall f_is_from (lCons (sVar 4) (lCons (sBin oSub (sC (.int 0)) (sC (.int 1000))) (lCons (sC (.int 1000)) lNil)))))) (gRet (sTup (lCons (sVar 1) (lCons (sVar 3) lNil)))) gNext) (numb xs) [some (.d (.tup ls)), some (.d (.int k)), some (.d (.tup xs)), o3, o4] m :=
        (gSeq_ok ((gIf_f t1).trans rfl)).trans (gFor_ok (iEnum_t (sVar_ok rfl)))
      rw [un]
      cases e : firstP xs.length (badAt xs) with
      | none =>
        rw [e] at key
        obtain ⟨en', h1, p3, p4, rfl⟩ := key
        exact ⟨p3, p4, h1⟩
      | some j =>
        rw [e] at key
        exact key
    · rw [if_neg hn]
      have t1 : bOr (bNot (sT (sUn (oIs "tuple") (sVar 2)))) (sT (sBin oNe (sUn oLen (sVar 2)) (sUn oLen (sVar 0)))) [some (.d (.tup ls)), some (.d (.int k)), some (.d (.tup xs)), o3, o4] m = .ok true m :=
        (bOr_f (bNot_ok (sT_ok (sUn_ok (sVar_ok rfl) rfl (oIs_tup_t xs))))).trans (sT_ok (sBin_ok (sUn_ok (sVar_ok rfl) rfl (oLen_t xs)) (sUn_ok (sVar_ok rfl) rfl (oLen_t ls)) rfl rfl ((oNe_int _ _).trans (by simp; omega))))
      exact gSeq_rt ((gIf_t t1).trans (gRet_ok (tup1 (sVar_ok rfl))))
  · have hn : ∀ xs, l ≠ .tup xs := fun xs z => ht ⟨xs, z⟩
    have e : rowF ls.length k l = some [(k : Int)] := by
      cases l with
      | tup xs => exact absurd rfl (hn xs)
      | _ => rfl
    rw [e]
    have t1 : bOr (bNot (sT (sUn (oIs "tuple") (sVar 2)))) (sT (sBin oNe (sUn oLen (sVar 2)) (sUn oLen (sVar 0)))) [some (.d (.tup ls)), some (.d (.int k)), some (.d l), o3, o4] m = .ok true m :=
      bOr_t (bNot_ok (sT_ok (sUn_ok (sVar_ok rfl) rfl (oIs_not hl.1 hn))))
    exact gSeq_rt ((gIf_t t1).trans (gRet_ok (tup1 (sVar_ok rfl))))
def outF (f : Option (List Int)) : Dv := match f with
  | none => .non
  | some f => tI f
theorem getD_get {ls : List Dv} {k : Nat} {l : Dv} (h : ls[k]? = some l) : ls.getD k .non = l := by rw [List.getD_eq_getElem?_getD, h]; rfl
theorem lines_scan {ls : List Dv} {m : Store} {o1 o2 o3 o4 : Option Sv} (hl : ∀ x ∈ ls, tameR x) : match scanF ls with
    | none => ∃ p1 p2 p3 p4, loop (tgTup 2 (tgCons (tgN 1) (tgCons (tgN 2) tgNil))) pBody (numb ls) [some (.d (.tup ls)), o1, o2, o3, o4] m = .nx [some (.d (.tup ls)), p1, p2, p3, p4] m
    | some f => loop (tgTup 2 (tgCons (tgN 1) (tgCons (tgN 2) tgNil))) pBody (numb ls) [some (.d (.tup ls)), o1, o2, o3, o4] m = .rt (.d (tI f)) m := by
  have key := loop_first (G := tgTup 2 (tgCons (tgN 1) (tgCons (tgN 2) tgNil))) (body := pBody) (xs := numb ls) (m := m) (rowB ls.length ls) (fun k => tI ((rowF ls.length k (ls.getD k .non)).getD [])) (fun en => ∃ p1 p2 p3 p4, en = [some (.d (.tup ls)), p1, p2, p3, p4]) (fun i d en hd ⟨p1, p2, p3, p4, he⟩ => by
    subst he
    obtain ⟨l, hy, rfl⟩ := numb_get hd
    have gg := getD_get hy
    have pr := pl_row (ls := ls) (k := i) (m := m) (o3 := p3) (o4 := p4) (hl l (List.mem_of_getElem? hy))
    refine ⟨[some (.d (.tup ls)), some (.d (.int (i : Nat))), some (.d l), p3, p4], rfl, fun hp => ?_, fun hp => ?_⟩
    · unfold rowB at hp
      rw [gg] at hp
      cases e : rowF ls.length i l with
      | none =>
        rw [e] at pr
        obtain ⟨q3, q4, h1⟩ := pr
        exact ⟨_, .inl h1, _, _, _, _, rfl⟩
      | some f => rw [e] at hp; cases hp
    · unfold rowB at hp
      rw [gg] at hp
      show pBody _ m = .rt (.d (tI ((rowF ls.length i (ls.getD i .non)).getD []))) m
      rw [gg]
      cases e : rowF ls.length i l with
      | none => rw [e] at hp; cases hp
      | some f =>
        rw [e] at pr
        exact pr) (en := [some (.d (.tup ls)), o1, o2, o3, o4]) ⟨o1, o2, o3, o4, rfl⟩
  rw [numb_len] at key
  unfold scanF
  cases e : firstP ls.length (rowB ls.length ls) with
  | none =>
    obtain ⟨en', h1, p1, p2, p3, p4, rfl⟩ := key.1 (firstP_none e)
    exact ⟨p1, p2, p3, p4, h1⟩
  | some k =>
    obtain ⟨h1, h2, h3⟩ := firstP_some e
    have := key.2 k h1 h2 h3
    unfold rowB at h2
    cases e2 : rowF ls.length k (ls.getD k .non) with
    | none => rw [e2] at h2; cases h2
    | some f =>
      rw [e2] at this
      simp only [Option.bind_some, e2]
      exact this
theorem scan_none {ls : List Dv} (h : scanF ls = none) : ∀ k, k < ls.length → rowF ls.length k (ls.getD k .non) = none := by
  unfold scanF at h
  cases e : firstP ls.length (rowB ls.length ls) with
  | none =>
    intro k hk
    have := firstP_none e k hk
    unfold rowB at this
    cases e2 : rowF ls.length k (ls.getD k .non) with
    | none => rfl
    | some f => rw [e2] at this; cases this
  | some k =>
    rw [e] at h
    obtain ⟨h1, h2, h3⟩ := firstP_some e
    unfold rowB at h2
    have h' : rowF ls.length k (ls.getD k .non) = none := h
    rw [h'] at h2
    cases h2
theorem lnF_tup (ls : List Dv) : lnF (.tup ls) = if 1 ≤ ls.length ∧ ls.length ≤ 3 then (match scanF ls with
    | some f => some f
    | none => if dt (toM ls) = 1 ∨ dt (toM ls) = -1 then none else some []) else some [] := rfl
theorem v_lines_fault {v : Dv} (h : tameL v) (m : Store) : f_lines_fault [.d v] m = .ok (.d (outF (lnF v))) m := by
  by_cases ht : ∃ ls, v = .tup ls
  · obtain ⟨ls, rfl⟩ := ht
    obtain ⟨hx1, hx2⟩ := h.2 ls rfl
    refine fin_d rfl ?_
    have tt : sT (sUn (oIs "tuple") (sVar 0)) (start0 5 [.d (.tup ls)]) m = .ok true m := sT_ok (sUn_ok (sVar_ok rfl) rfl (oIs_tup_t ls))
    have tc : sT (sChain oLe oLe (sC (.int 1)) (sUn oLen (sVar 0)) (sC (.int 3))) (start0 5 [.d (.tup ls)]) m = .ok (decide ((1 : Int) ≤ ls.length) && decide ((ls.length : Int) ≤ 3)) m := sT_ok (chain_ok (sC_ok _) (sUn_ok (sVar_ok rfl) rfl (oLen_t ls)) (sC_ok _))
    by_cases hn : 1 ≤ ls.length ∧ ls.length ≤ 3
    · have t1 : bOr (bNot (sT (sUn (oIs "tuple") (sVar 0)))) (bNot (sT (sChain oLe oLe (sC (.int 1)) (sUn oLen (sVar 0)) (sC (.int 3))))) (start0 5 [.d (.tup ls)]) m = .ok false m :=
        (bOr_f (bNot_ok tt)).trans ((bNot_ok tc).trans (by simp; omega))
      have key := lines_scan (ls := ls) (m := m) (o1 := none) (o2 := none) (o3 := none) (o4 := none) hx2
      have un : gFor (iEnumS (sVar 0)) (tgTup 2 (tgCons (tgN 1) (tgCons (tgN 2) tgNil))) pBody (start0 5 [.d (.tup ls)]) m = loop (tgTup 2 (tgCons (tgN 1) (tgCons (tgN 2) tgNil))) pBody (numb ls) (start0 5 [.d (.tup ls)]) m := gFor_ok (iEnum_t (sVar_ok rfl))
      rw [lnF_tup, if_pos hn]
      refine (gSeq_ok ((gIf_f t1).trans rfl)).trans ?_
      cases e : scanF ls with
      | some f =>
        rw [e] at key
        exact gSeq_rt (un.trans key)
      | none =>
        rw [e] at key
        obtain ⟨p1, p2, p3, p4, h1⟩ := key
        refine (gSeq_ok (un.trans h1)).trans (gRet_ok ?_)
        obtain ⟨a1, a2, a3⟩ := toM_tm (scan_none e)
        have is : IsM ls.length (toM ls) := ⟨by simp [toM], a2⟩
        have dd := v_det is hn a3 m
        rw [← a1] at dd
        have ab : oAbs (.int (dt (toM ls))) = some (.int (if dt (toM ls) < 0 then -dt (toM ls) else dt (toM ls))) := rfl
        have te : sT (sBin oEq (sUn oAbs (sCall f_determinant_in (lCons (sVar 0) lNil))) (sC (.int 1))) [some (.d (.tup ls)), p1, p2, p3, p4] m = .ok (decide (dt (toM ls) = 1 ∨ dt (toM ls) = -1)) m := by
          refine sT_ok (sBin_ok (sUn_ok (sCall_ok (lCons_ok (sVar_ok rfl) lNil_ok) dd) rfl ab) (sC_ok _) rfl rfl ((oEq_int _ _).trans ?_))
          have hh : decide ((if dt (toM ls) < 0 then -dt (toM ls) else dt (toM ls)) = 1) = decide (dt (toM ls) = 1 ∨ dt (toM ls) = -1) := decide_eq_decide.mpr (by split <;> omega)
          rw [hh]
        rw [if_ok te]
        by_cases hd : dt (toM ls) = 1 ∨ dt (toM ls) = -1
        · simp only [hd, decide_true, if_true]
          rfl
        · simp only [hd, decide_false, if_false, Bool.false_eq_true]
          rfl
    · have t1 : bOr (bNot (sT (sUn (oIs "tuple") (sVar 0)))) (bNot (sT (sChain oLe oLe (sC (.int 1)) (sUn oLen (sVar 0)) (sC (.int 3))))) (start0 5 [.d (.tup ls)]) m = .ok true m :=
        (bOr_f (bNot_ok tt)).trans ((bNot_ok tc).trans (by simp; omega))
      rw [lnF_tup, if_neg hn]
      exact gSeq_rt ((gIf_t t1).trans (gRet_ok rfl))
  · have hn : ∀ xs, v ≠ .tup xs := fun xs z => ht ⟨xs, z⟩
    have e : lnF v = some [] := by
      cases v with
      | tup xs => exact absurd rfl (hn xs)
      | _ => rfl
    rw [e]
    exact fin_d rfl (gSeq_rt ((gIf_t (bOr_t (bNot_ok (sT_ok (sUn_ok (sVar_ok rfl) rfl (oIs_not h.1 hn)))))).trans (gRet_ok rfl)))
end K21
end

section
set_option Elab.async false
set_option linter.all false
set_option maxRecDepth 100000
set_option maxHeartbeats 4000000
namespace K21
open PySem PySem.Spec PyProof.Rows L2 EvL EvH K21M
def lenD : Dv → Int
  | .tup xs => xs.length
  | _ => 0
/-- what is wrong with a move -/
def mvF : Dv → Option (List Int)
  | .tup [a, b] => (match lnF a with
    | some f => some (0 :: f)
    | none => if isSpot (lenD a) b then none else some [1])
  | _ => some []
def tameM (v : Dv) : Prop := ty v = true ∧ ∀ xs, v = .tup xs → xs.length ≤ 1000 ∧ ∀ x ∈ xs, tameL x
theorem fits_le {n : Nat} (h : n ≤ 16777216) : fits n = true := decide_eq_true h
theorem row_small {n k : Nat} {l : Dv} {f : List Int} (hk : k < n) (h : rowF n k l = some f) : f.length ≤ 2 ∧ ∀ x ∈ f, 0 ≤ x ∧ x < n := by
  have one : ∀ x ∈ [(k : Int)], 0 ≤ x ∧ x < n := fun x hx => by simp at hx; subst hx; omega
  cases l with
  | tup xs =>
    unfold rowF at h
    dsimp only at h
    split at h
    · rename_i hn
      cases e : firstP xs.length (badAt xs) with
      | none => rw [e] at h; cases h
      | some j =>
        rw [e] at h
        cases h
        obtain ⟨h1, _⟩ := firstP_some e
        refine ⟨by simp, fun x hx => ?_⟩
        simp at hx
        rcases hx with rfl | rfl <;> omega
    · cases h; exact ⟨by simp, one⟩
  | _ => cases h; exact ⟨by simp, one⟩
theorem scan_small {ls : List Dv} {f : List Int} (h : scanF ls = some f) : f.length ≤ 2 ∧ ∀ x ∈ f, 0 ≤ x ∧ x < ls.length := by
  unfold scanF at h
  cases e : firstP ls.length (rowB ls.length ls) with
  | none => rw [e] at h; cases h
  | some k =>
    rw [e] at h
    exact row_small (firstP_some e).1 h
theorem ln_small {a : Dv} {f : List Int} (h : lnF a = some f) : f.length ≤ 2 ∧ ∀ x ∈ f, 0 ≤ x ∧ x < 3 := by
  have nil : ([] : List Int).length ≤ 2 ∧ ∀ x ∈ ([] : List Int), 0 ≤ x ∧ x < 3 := ⟨by simp, by simp⟩
  cases a with
  | tup ls =>
    rw [lnF_tup] at h
    split at h
    · rename_i hn
      cases e : scanF ls with
      | some g =>
        rw [e] at h
        cases h
        obtain ⟨h1, h2⟩ := scan_small e
        exact ⟨h1, fun x hx => by have := h2 x hx; omega⟩
      | none =>
        rw [e] at h
        dsimp only at h
        split at h
        · cases h
        · cases h; exact nil
    · cases h; exact nil
  | _ => cases h; exact nil
theorem mv_small {v : Dv} {f : List Int} (h : mvF v = some f) : f.length ≤ 3 ∧ ∀ x ∈ f, 0 ≤ x ∧ x < 3 := by
  have nil : ([] : List Int).length ≤ 3 ∧ ∀ x ∈ ([] : List Int), 0 ≤ x ∧ x < 3 := ⟨by simp, by simp⟩
  unfold mvF at h
  split at h
  · split at h
    · rename_i g e
      cases h
      obtain ⟨h1, h2⟩ := ln_small e
      refine ⟨by simp; omega, fun x hx => ?_⟩
      rcases List.mem_cons.mp hx with rfl | hx
      · omega
      · exact h2 x hx
    · split at h
      · cases h
      · cases h; exact ⟨by simp, by simp⟩
  · cases h; exact nil
/-- a path is small -/
theorem sm_tI {f : List Int} {n : Nat} (hl : f.length ≤ n) (hx : ∀ x ∈ f, x.natAbs < 10 ^ 12) : Sm (n * 42) 1 (tI f) := by
  refine Sm.tup (fun x hx' => ?_) (by simp; exact hl)
  obtain ⟨i, hi, rfl⟩ := List.mem_map.mp hx'
  exact Sm.int (hx i hi)
theorem sm_mv {v : Dv} {f : List Int} (h : mvF v = some f) : Sm 126 1 (tI f) := by
  obtain ⟨h1, h2⟩ := mv_small h
  exact sm_tI h1 fun x hx => by have := h2 x hx; omega
theorem lnF_tup' {a : Dv} (h : lnF a = none) : ∃ ls, a = .tup ls := by
  cases a with
  | tup ls => exact ⟨ls, rfl⟩
  | _ => cases h
theorem tameL_pt {b : Dv} (h : tameL b) : ∀ xs, b = .tup xs → tys xs = true ∧ xs.length ≤ 1000 := fun xs hx => by
  obtain ⟨h1, h2⟩ := h.2 xs hx
  exact ⟨List.all_eq_true.mpr fun x hx => (h2 x hx).1, h1⟩
theorem v_move_fault {v : Dv} (h : tameM v) (m : Store) : f_move_fault [.d v] m = .ok (.d (outF (mvF v))) m := by
  by_cases ht : ∃ ls, v = .tup ls
  · obtain ⟨xs, rfl⟩ := ht
    obtain ⟨hx1, hx2⟩ := h.2 xs rfl
    refine fin_d rfl ?_
    have t0 := bNot_ok (sT_ok (sUn_ok (m := m) (m1 := m) (fa := sVar 0) (en := start0 2 [.d (.tup xs)]) (sVar_ok rfl) rfl (oIs_tup_t xs)))
    by_cases hn : xs.length = 2
    · obtain ⟨a, b, rfl⟩ := len2 hn
      have ta := hx2 a (by simp)
      have tb := hx2 b (by simp)
      have t1 : bOr (bNot (sT (sUn (oIs "tuple") (sVar 0)))) (sT (sBin oNe (sUn oLen (sVar 0)) (sC (.int 2)))) (start0 2 [.d (.tup [a, b])]) m = .ok false m :=
        (bOr_f t0).trans (sT_ok (sBin_ok (sUn_ok (sVar_ok rfl) rfl (oLen_t _)) (sC_ok _) rfl rfl ((oNe_int _ _).trans (by simp))))
      have e1 : sCall f_lines_fault (lCons (sBin oIx (sVar 0) (sC (.int 0))) lNil) (start0 2 [.d (.tup [a, b])]) m = .ok (.d (outF (lnF a))) m := sCall_ok (lCons_ok (sBin_ok (sVar_ok rfl) (sC_ok _) rfl rfl rfl) lNil_ok) (v_lines_fault ta m)
      refine (gSeq_ok ((gIf_f t1).trans rfl)).trans ((gSeq_ok (gSet_ok e1)).trans ?_)
      show _ = Sr.rt (.d (outF (match lnF a with | some f => some (0 :: f) | none => if isSpot (lenD a) b then none else some [1]))) m
      cases e : lnF a with
      | some f =>
        have hc : oAddP (.tup [.int 0]) (tI f) = some (tI (0 :: f)) := oAddP_t [.int 0] (f.map .int) (fits_le (by have := (ln_small e).1; simp; omega))
        exact gSeq_rt ((gIf_t (sT_ok (sBin_ok (sVar_ok rfl) (sC_ok _) rfl rfl rfl))).trans (gRet_ok (sBin_ok (tup1 (sC_ok _)) (sVar_ok rfl) rfl rfl hc)))
      | none =>
        obtain ⟨ls, rfl⟩ := lnF_tup' e
        refine (gSeq_ok ((gIf_f (sT_ok (sBin_ok (sVar_ok rfl) (sC_ok _) rfl rfl rfl))).trans rfl)).trans (gRet_ok ?_)
        have ep : sT (sCall f_is_point (lCons (sUn oLen (sBin oIx (sVar 0) (sC (.int 0)))) (lCons (sBin oIx (sVar 0) (sC (.int 1))) lNil))) ((start0 2 [.d (.tup [.tup ls, b])]).set 1 (some (.d (outF none)))) m = .ok (isSpot (lenD (.tup ls)) b) m :=
          sT_ok (sCall_ok (lCons_ok (sUn_ok (sBin_ok (sVar_ok rfl) (sC_ok _) rfl rfl rfl) rfl (oLen_t ls)) (lCons_ok (sBin_ok (sVar_ok rfl) (sC_ok _) rfl rfl rfl) lNil_ok)) (v_is_point tb.1 (tameL_pt tb) m))
        rw [if_ok ep]
        cases isSpot (lenD (.tup ls)) b with
        | true => rfl
        | false => exact tup1 (sC_ok _)
    · have t1 : bOr (bNot (sT (sUn (oIs "tuple") (sVar 0)))) (sT (sBin oNe (sUn oLen (sVar 0)) (sC (.int 2)))) (start0 2 [.d (.tup xs)]) m = .ok true m :=
        (bOr_f t0).trans (sT_ok (sBin_ok (sUn_ok (sVar_ok rfl) rfl (oLen_t _)) (sC_ok _) rfl rfl ((oNe_int _ _).trans (by simp; omega))))
      have e : mvF (.tup xs) = some [] := by
        match xs, hn with
        | [], _ => rfl
        | [_], _ => rfl
        | _ :: _ :: _ :: _, _ => rfl
      rw [e]
      exact gSeq_rt ((gIf_t t1).trans (gRet_ok rfl))
  · have hn : ∀ xs, v ≠ .tup xs := fun xs z => ht ⟨xs, z⟩
    have e : mvF v = some [] := by
      cases v with
      | tup xs => exact absurd rfl (hn xs)
      | _ => rfl
    rw [e]
    exact fin_d rfl (gSeq_rt ((gIf_t (bOr_t (bNot_ok (sT_ok (sUn_ok (sVar_ok rfl) rfl (oIs_not h.1 hn)))))).trans (gRet_ok rfl)))
/-- need_move: the thing itself, or BadMove with the path -/
theorem v_need_move {v : Dv} (h : tameM v) (m : Store) : f_need_move [.d v] m = match mvF v with
    | none => .ok (.d v) m
    | some f => .ex ⟨3, some ("path", tI f)⟩ m := by
  have e1 : sCall f_move_fault (lCons (sVar 0) lNil) (start0 2 [.d v]) m = .ok (.d (outF (mvF v))) m := sCall_ok (lCons_ok (sVar_ok rfl) lNil_ok) (v_move_fault h m)
  have s1 : g_need_move (start0 2 [.d v]) m = gSeq (gIf (sT (sBin oNotN (sVar 1) (sC .non))) (gRaise 3 "path" (sVar 1)) gNext) (gRet (sVar 0)) [some (.d v), some (.d (outF (mvF v)))] m := gSeq_ok (gSet_ok e1)
  cases e : mvF v with
  | none =>
    rw [e] at s1
    exact fin_d rfl (s1.trans ((gSeq_ok ((gIf_f (sT_ok (sBin_ok (sVar_ok rfl) (sC_ok _) rfl rfl rfl))).trans rfl)).trans (gRet_ok (sVar_ok rfl))))
  | some f =>
    rw [e] at s1
    have hs : showOk (tI f) = true := (sm_mv e).ok (by decide) (by decide)
    have r : gRaise 3 "path" (sVar 1) [some (.d v), some (.d (outF (some f)))] m = .ex ⟨3, some ("path", tI f)⟩ [some (.d v), some (.d (outF (some f)))] m := by
      have : sVar 1 [some (.d v), some (.d (outF (some f)))] m = .ok (.d (tI f)) m := rfl
      simp [gRaise, Rs.st, this, frz_d, hs]
    have s2 : gSeq (gIf (sT (sBin oNotN (sVar 1) (sC .non))) (gRaise 3 "path" (sVar 1)) gNext) (gRet (sVar 0)) [some (.d v), some (.d (outF (some f)))] m = .ex ⟨3, some ("path", tI f)⟩ [some (.d v), some (.d (outF (some f)))] m := by
      have t : gIf (sT (sBin oNotN (sVar 1) (sC .non))) (gRaise 3 "path" (sVar 1)) gNext [some (.d v), some (.d (outF (some f)))] m = .ex ⟨3, some ("path", tI f)⟩ [some (.d v), some (.d (outF (some f)))] m := (gIf_t (sT_ok (sBin_ok (sVar_ok rfl) (sC_ok _) rfl rfl rfl))).trans r
      unfold gSeq
      rw [t]
    show (if [Sv.d v].length = 1 then fnEnd m.length (g_need_move (start0 2 [.d v]) m) else .no) = _
    rw [if_pos (show [Sv.d v].length = 1 from rfl), s1.trans s2]
    show Rs.ex _ (m.take m.length) = _
    rw [take_self]
end K21
end

section
set_option Elab.async false
set_option linter.all false
set_option maxRecDepth 100000
set_option maxHeartbeats 4000000
namespace K21
open PySem PySem.Spec PyProof.Rows L2 EvL EvH K21M
/-! the law's own determinant -/
def detC (self : Fs) : SemS := (gSet 1 (sBin oAddP (sVar 1) (sBin oMulP (sIf (sT (sBin oEq (sBin oMod (sVar 2) (sC (.int 2))) (sC (.int 0)))) (sVar 3) (sUn oNeg (sVar 3))) (sCall self (lCons (sVar 4) lNil)))))
def detK : SemF := (fComp (iSeq (sSlP (sVar 0) (oYes (sC (.int 1))) oNo)) (tgN 5) bYes (sUn oTuple (sF (fComp (iEnumS (sVar 5)) (tgTup 2 (tgCons (tgN 6) (tgCons (tgN 7) tgNil))) (sT (sBin oNe (sVar 6) (sVar 2))) (sVar 7) [6, 7]))) [5])
def detB (self : Fs) : SemS := gSeq (gNew 4 detK) (detC self)
/-- where the lines of A stand -/
def Src (w : Sv) (A : Mt) (m : Store) : Prop := rv m w = some (.tup (tm A)) ∨ rv m w = some (.lst (tm A))
theorem rv_push {m : Store} {w : Sv} {d : Dv} (h : rv m w = some d) (x : So) : rv (m ++ [x]) w = some d := by
  cases w with
  | d y => exact h
  | o i =>
    have hi : i < m.length := by
      apply Classical.byContradiction
      intro hn
      have : m[i]? = none := List.getElem?_eq_none (by omega)
      simp [rv, this] at h
    have e : (m ++ [x])[i]? = m[i]? := List.getElem?_append_left hi
    show (match (m ++ [x])[i]? with | some (.lst xs) => some (.lst xs) | some (.dic kvs) => some (.dic kvs) | _ => none) = some d
    rw [e]
    exact h
theorem Src.push {w : Sv} {A : Mt} {m : Store} (h : Src w A m) (x : So) : Src w A (m ++ [x]) := h.elim (fun h => .inl (rv_push h x)) (fun h => .inr (rv_push h x))
theorem Src.tup (A : Mt) (m : Store) : Src (.d (.tup (tm A))) A m := .inl rfl
theorem Src.at_ {A : Mt} {m : Store} {q : Nat} (h : m[q]? = some (.lst (tm A))) : Src (.o q) A m := .inr (by simp [rv, h])
theorem Src.slice {w : Sv} {r : List Int} {A : Mt} {m : Store} {en : En} (h : Src w (r :: A) m) (h0 : en[0]? = some (some w)) : iSeq (sSlP (sVar 0) (oYes (sC (.int 1))) oNo) en m = .ok (tm A) m := by
  have e0 : sVar 0 en m = .ok w m := sVar_ok h0
  have c : EvL.cutD (tm (r :: A)) (some 1) none = tm A := by
    show EvL.cutD (trow r :: tm A) (some 1) none = tm A
    simp [EvL.cutD, HT.sIx]
  rcases h with h | h
  · refine iSeq_t ?_
    simp [sSlP, sElse, sSlT, Rs.bind, e0, oYes, oNo, sC, rv_d, h, c]
  · refine iSeq_d ?_
    simp [sSlP, sElse, sSlT, fSlL, sF, Rs.bind, e0, oYes, oNo, sC, rv_d, h, c]
theorem Src.len {w : Sv} {A : Mt} {m : Store} {en : En} (h : Src w A m) (h0 : en[0]? = some (some w)) : sUn oLen (sVar 0) en m = .ok (.d (.int A.length)) m := by
  rcases h with h | h
  · exact sUn_ok (sVar_ok h0) h (by simp [oLen, tm])
  · exact sUn_ok (sVar_ok h0) h (by simp [oLen, tm])
theorem Src.fst {w : Sv} {r : List Int} {A : Mt} {m : Store} {en : En} (h : Src w (r :: A) m) (h0 : en[0]? = some (some w)) : sBin oIx (sVar 0) (sC (.int 0)) en m = .ok (.d (trow r)) m := by
  have a : atI (tm (r :: A)) 0 = some (trow r) := by simp [atI, ixN, tm]
  rcases h with h | h
  · exact sBin_ok (sVar_ok h0) (sC_ok _) h rfl a
  · exact sBin_ok (sVar_ok h0) (sC_ok _) h rfl a
def sel (k : Int) (xs : List Dv) : List Dv := ((numb xs).filter fun d => match d with | .tup [.int j, _] => !decide (j = k) | _ => false).map fun d => match d with | .tup [_, x] => x | _ => .non
theorem detK_ok {w : Sv} {r : List Int} {A : Mt} {m : Store} {k : Nat} {o1 o3 o4 : Option Sv} {er : List Int → List Int} (h : Src w (r :: A) m) (hl : A.length ≤ 1000) (hr : ∀ r ∈ A, r.length ≤ 1000 ∧ sel k (r.map .int) = (er r).map .int) :
    detK [some w, o1, some (.d (.int k)), o3, o4, none, none, none] m = .ok (tm (A.map er)) m := by
  have e : tm (A.map er) = ((tm A).filter fun _ => true).map fun d => match d with | .tup xs => .tup (sel k xs) | _ => .non := by
    rw [filt]
    unfold tm
    rw [List.map_map, List.map_map]
    refine List.map_congr_left fun r hr' => ?_
    exact congrArg Dv.tup (hr r hr').2.symm
  rw [e]
  refine comp_pure (fun _ => true) _ (h.slice rfl) (by simp [tm]; omega) fun d acc hd => ?_
  obtain ⟨r', hr', rfl⟩ := List.mem_map.mp hd
  obtain ⟨hl', _⟩ := hr r' hr'
  refine ⟨_, rfl, rfl, fun _ => ?_⟩
  refine sUn_ok (d := .tup (sel k (r'.map .int))) (u := .lst (sel k (r'.map .int))) (sF_ok (xs := sel k (r'.map .int)) ?_) rfl rfl
  unfold sel
  refine comp_pure _ _ (iEnum_t (sVar_ok rfl)) (by rw [numb_len]; simp; omega) fun d acc2 hd => ?_
  obtain ⟨i, hi⟩ := List.getElem?_of_mem hd
  obtain ⟨x, hx, rfl⟩ := numb_get hi
  exact ⟨_, rfl, sT_ok (sBin_ok (sVar_ok rfl) (sVar_ok rfl) rfl rfl (oNe_int _ _)), fun _ => sVar_ok rfl⟩
theorem det_step {self : Fs} {w : Sv} {r : List Int} {A : Mt} {m : Store} {k : Nat} {x y D : Int} {o4 : Option Sv} {er : List Int → List Int} (h : Src w (r :: A) m) (hl : A.length ≤ 1000) (hr : ∀ r ∈ A, r.length ≤ 1000 ∧ sel k (r.map .int) = (er r).map .int) (hx : -1000 ≤ x ∧ x ≤ 1000)
    (hs : self [.o m.length] (m ++ [.lst (tm (A.map er))]) = .ok (.d (.int D)) (m ++ [.lst (tm (A.map er))])) :
    detB self [some w, some (.d (.int y)), some (.d (.int k)), some (.d (.int x)), o4, none, none, none] m = .nx [some w, some (.d (.int (y + (if k % 2 = 0 then x else -x) * D))), some (.d (.int k)), some (.d (.int x)), some (.o m.length), none, none, none] (m ++ [.lst (tm (A.map er))]) := by
  refine (gSeq_ok (gNew_ok (detK_ok h hl hr))).trans ?_
  have t : sT (sBin oEq (sBin oMod (sVar 2) (sC (.int 2))) (sC (.int 0))) [some w, some (.d (.int y)), some (.d (.int k)), some (.d (.int x)), some (.o m.length), none, none, none] (m ++ [.lst (tm (A.map er))]) = .ok (decide (k % 2 = 0)) (m ++ [.lst (tm (A.map er))]) := by
    refine sT_ok (sBin_ok (sBin_ok (d := .int ((k : Int) % 2)) (sVar_ok rfl) (sC_ok _) rfl rfl ?_) (sC_ok _) rfl rfl ((oEq_int _ _).trans ?_))
    · simp [iopC, modOk, Int.fmod_eq_emod_of_nonneg]
    · have : decide ((k : Int) % 2 = 0) = decide (k % 2 = 0) := decide_eq_decide.mpr (by omega)
      rw [this]
  have s : sIf (sT (sBin oEq (sBin oMod (sVar 2) (sC (.int 2))) (sC (.int 0)))) (sVar 3) (sUn oNeg (sVar 3)) [some w, some (.d (.int y)), some (.d (.int k)), some (.d (.int x)), some (.o m.length), none, none, none] (m ++ [.lst (tm (A.map er))]) = .ok (.d (.int (if k % 2 = 0 then x else -x))) (m ++ [.lst (tm (A.map er))]) := by
    rw [if_ok t]
    by_cases hk : k % 2 = 0
    · simp only [hk, decide_true, if_true]; rfl
    · simp only [hk, decide_false, if_false, Bool.false_eq_true]; rfl
  exact gSet_ok (sBin_ok (sVar_ok rfl) (sBin_ok s (sCall_ok (lCons_ok (sVar_ok rfl) lNil_ok) hs) rfl rfl (oMulP_i _ _ (mk1 (by split <;> omega) _))) rfl rfl rfl)
theorem loop_c {G : Tgt} {body : SemS} {d : Dv} {ds : List Dv} {en en' e2 : En} {m m2 : Store} (hG : G (.d d) en m = some en') (hb : body en' m = .nx e2 m2) : loop G body (d :: ds) en m = loop G body ds e2 m2 := by
  show (match G (.d d) en m with | none => _ | some en' => _) = _
  rw [hG]
  dsimp only
  rw [hb]
theorem take_app {α : Type} (m X : List α) : (m ++ X).take m.length = m := by simp
theorem ld1 {k : Nat} {w : Sv} {a : Int} {m : Store} (h : Src w [[a]] m) : f__law_det (k + 1) [w] m = .ok (.d (.int a)) m := by
  refine fin_d rfl ?_
  have t1 : sT (sBin oEq (sUn oLen (sVar 0)) (sC (.int 1))) (start0 8 [w]) m = .ok true m := sT_ok (sBin_ok (h.len rfl) (sC_ok _) rfl rfl (oEq_int _ _))
  exact gSeq_rt ((gIf_t t1).trans (gRet_ok (sBin_ok (h.fst rfl) (sC_ok _) rfl rfl rfl)))
theorem ld2 {k : Nat} {w : Sv} {a b c e : Int} {m : Store} (hl : lim 1000 [[a, b], [c, e]]) (h : Src w [[a, b], [c, e]] m) : f__law_det (k + 2) [w] m = .ok (.d (.int (dt [[a, b], [c, e]]))) m := by
  have ha := hl [a, b] (by simp) a (by simp)
  have hb := hl [a, b] (by simp) b (by simp)
  have t1 : sT (sBin oEq (sUn oLen (sVar 0)) (sC (.int 1))) (start0 8 [w]) m = .ok false m := sT_ok (sBin_ok (h.len rfl) (sC_ok _) rfl rfl (oEq_int _ _))
  have s0 := det_step (self := f__law_det (k + 1)) (k := 0) (x := a) (y := 0) (D := e) (o4 := none) (er := fun _ => [e]) h (by simp) (by simp; rfl) ha (ld1 (.at_ (get_push _ _)))
  have s1 := det_step (self := f__law_det (k + 1)) (k := 1) (x := b) (y := 0 + (if 0 % 2 = 0 then a else -a) * e) (D := c) (o4 := some (.o m.length)) (er := fun _ => [c]) (h.push (.lst (tm ([[c, e]].map fun _ => [e])))) (by simp) (by simp; rfl) hb (ld1 (.at_ (get_push _ _)))
  have l : gFor (iEnumS (sBin oIx (sVar 0) (sC (.int 0)))) (tgTup 2 (tgCons (tgN 2) (tgCons (tgN 3) tgNil))) (detB (f__law_det (k + 1))) ((start0 8 [w]).set 1 (some (.d (.int 0)))) m = loop (tgTup 2 (tgCons (tgN 2) (tgCons (tgN 3) tgNil))) (detB (f__law_det (k + 1))) (numb [.int a, .int b]) ((start0 8 [w]).set 1 (some (.d (.int 0)))) m := gFor_ok (iEnum_t (h.fst rfl))
  have l2 : loop (tgTup 2 (tgCons (tgN 2) (tgCons (tgN 3) tgNil))) (detB (f__law_det (k + 1))) (numb [.int a, .int b]) ((start0 8 [w]).set 1 (some (.d (.int 0)))) m = .nx [some w, some (.d (.int (dt [[a, b], [c, e]]))), some (.d (.int 1)), some (.d (.int b)), some (.o (m ++ [So.lst (tm ([[c, e]].map fun _ => [e]))]).length), none, none, none] (m ++ [.lst (tm ([[c, e]].map fun _ => [e]))] ++ [.lst (tm ([[c, e]].map fun _ => [c]))]) := by
    have q : dt [[a, b], [c, e]] = 0 + (if 0 % 2 = 0 then a else -a) * e + (if 1 % 2 = 0 then b else -b) * c := by simp [dt]; grind
    rw [q]
    exact (loop_c rfl s0).trans ((loop_c rfl s1).trans rfl)
  refine (fn_d rfl ((gSeq_ok ((gIf_f t1).trans rfl)).trans ((gSeq_ok (gSet_ok (sC_ok _))).trans ((gSeq_ok (l.trans l2)).trans (gRet_ok (sVar_ok rfl)))))).trans ?_
  rw [List.append_assoc, take_app]
theorem lim_sub {A B : Mt} (h : lim 1000 A) (hs : ∀ r ∈ B, ∀ x ∈ r, ∃ r' ∈ A, x ∈ r') : lim 1000 B := fun r hr x hx => by
  obtain ⟨r', h1, h2⟩ := hs r hr x hx
  exact h r' h1 x h2
theorem ld3 {k : Nat} {w : Sv} {a b c e f g p q r : Int} {m : Store} (hl : lim 1000 [[a, b, c], [e, f, g], [p, q, r]]) (h : Src w [[a, b, c], [e, f, g], [p, q, r]] m) : f__law_det (k + 3) [w] m = .ok (.d (.int (dt [[a, b, c], [e, f, g], [p, q, r]]))) m := by
  have ha := hl [a, b, c] (by simp) a (by simp)
  have hb := hl [a, b, c] (by simp) b (by simp)
  have hc := hl [a, b, c] (by simp) c (by simp)
  have t1 : sT (sBin oEq (sUn oLen (sVar 0)) (sC (.int 1))) (start0 8 [w]) m = .ok false m := sT_ok (sBin_ok (h.len rfl) (sC_ok _) rfl rfl (oEq_int _ _))
  have e0 : ([[e, f, g], [p, q, r]] : Mt).map (fun l => [l.getD 1 0, l.getD 2 0]) = [[f, g], [q, r]] := rfl
  have l0 : lim 1000 [[f, g], [q, r]] := lim_sub hl (by simp)
  have e1 : ([[e, f, g], [p, q, r]] : Mt).map (fun l => [l.getD 0 0, l.getD 2 0]) = [[e, g], [p, r]] := rfl
  have l1 : lim 1000 [[e, g], [p, r]] := lim_sub hl (by simp)
  have e2 : ([[e, f, g], [p, q, r]] : Mt).map (fun l => [l.getD 0 0, l.getD 1 0]) = [[e, f], [p, q]] := rfl
  have l2 : lim 1000 [[e, f], [p, q]] := lim_sub hl (by simp)
  have s0 := det_step (self := f__law_det (k + 2)) (k := 0) (x := a) (y := 0) (D := dt [[f, g], [q, r]]) (o4 := none) (m := m) (er := fun l => [l.getD 1 0, l.getD 2 0]) (h) (by simp) (by simp; exact ⟨rfl, rfl⟩) ha (by rw [e0]; exact ld2 l0 (.at_ (get_push _ _)))
  rw [e0] at s0
  have s1 := det_step (self := f__law_det (k + 2)) (k := 1) (x := b) (y := (0 + (if 0 % 2 = 0 then a else -a) * dt [[f, g], [q, r]])) (D := dt [[e, g], [p, r]]) (o4 := some (.o m.length)) (m := (m ++ [So.lst (tm [[f, g], [q, r]])])) (er := fun l => [l.getD 0 0, l.getD 2 0]) (((h).push _)) (by simp) (by simp; exact ⟨rfl, rfl⟩) hb (by rw [e1]; exact ld2 l1 (.at_ (get_push _ _)))
  rw [e1] at s1
  have s2 := det_step (self := f__law_det (k + 2)) (k := 2) (x := c) (y := ((0 + (if 0 % 2 = 0 then a else -a) * dt [[f, g], [q, r]]) + (if 1 % 2 = 0 then b else -b) * dt [[e, g], [p, r]])) (D := dt [[e, f], [p, q]]) (o4 := some (.o (m ++ [So.lst (tm [[f, g], [q, r]])]).length)) (m := ((m ++ [So.lst (tm [[f, g], [q, r]])]) ++ [So.lst (tm [[e, g], [p, r]])])) (er := fun l => [l.getD 0 0, l.getD 1 0]) (((((h).push _)).push _)) (by simp) (by simp; exact ⟨rfl, rfl⟩) hc (by rw [e2]; exact ld2 l2 (.at_ (get_push _ _)))
  rw [e2] at s2
  have l : gFor (iEnumS (sBin oIx (sVar 0) (sC (.int 0)))) (tgTup 2 (tgCons (tgN 2) (tgCons (tgN 3) tgNil))) (detB (f__law_det (k + 2))) ((start0 8 [w]).set 1 (some (.d (.int 0)))) m = loop (tgTup 2 (tgCons (tgN 2) (tgCons (tgN 3) tgNil))) (detB (f__law_det (k + 2))) (numb [.int a, .int b, .int c]) ((start0 8 [w]).set 1 (some (.d (.int 0)))) m := gFor_ok (iEnum_t (h.fst rfl))
  have l2 : loop (tgTup 2 (tgCons (tgN 2) (tgCons (tgN 3) tgNil))) (detB (f__law_det (k + 2))) (numb [.int a, .int b, .int c]) ((start0 8 [w]).set 1 (some (.d (.int 0)))) m = .nx [some w, some (.d (.int (dt [[a, b, c], [e, f, g], [p, q, r]]))), some (.d (.int 2)), some (.d (.int c)), some (.o ((m ++ [So.lst (tm [[f, g], [q, r]])]) ++ [So.lst (tm [[e, g], [p, r]])]).length), none, none, none] (((m ++ [So.lst (tm [[f, g], [q, r]])]) ++ [So.lst (tm [[e, g], [p, r]])]) ++ [So.lst (tm [[e, f], [p, q]])]) := by
    have qq : dt [[a, b, c], [e, f, g], [p, q, r]] = (((0 + (if 0 % 2 = 0 then a else -a) * dt [[f, g], [q, r]]) + (if 1 % 2 = 0 then b else -b) * dt [[e, g], [p, r]]) + (if 2 % 2 = 0 then c else -c) * dt [[e, f], [p, q]]) := by simp [dt]; grind
    rw [qq]
    exact (loop_c rfl s0).trans ((loop_c rfl s1).trans ((loop_c rfl s2).trans rfl))
  refine (fn_d rfl ((gSeq_ok ((gIf_f t1).trans rfl)).trans ((gSeq_ok (gSet_ok (sC_ok _))).trans ((gSeq_ok (l.trans l2)).trans (gRet_ok (sVar_ok rfl)))))).trans ?_
  rw [List.append_assoc, List.append_assoc, take_app]
theorem v_law_det {A : Mt} {d : Nat} {w : Sv} (h : IsM d A) (hd : 1 ≤ d ∧ d ≤ 3) (hl : lim 1000 A) {m : Store} (hs : Src w A m) : f__law_det fuel__law_det [w] m = .ok (.d (.int (dt A))) m := by
  have : d = 1 ∨ d = 2 ∨ d = 3 := by omega
  rcases this with rfl | rfl | rfl
  · obtain ⟨a, rfl⟩ := h.one
    exact ld1 hs
  · obtain ⟨a, b, c, e, rfl⟩ := h.two
    exact ld2 hl hs
  · obtain ⟨a, b, c, e, f, g, i, j, k, rfl⟩ := h.three
    exact ld3 hl hs
theorem good_of {d : Dv} (h : showOk d = true) : good d = true := by
  unfold showOk at h
  simp only [Bool.and_eq_true] at h
  exact h.1.1.1.1
theorem all_filter {α : Type} (p : α → Bool) : ∀ l : List α, l.all p = (l.filter fun x => !p x).isEmpty
  | [] => rfl
  | x :: l => by
    cases h : p x with
    | true => simp only [List.all_cons, h, Bool.true_and, List.filter_cons, Bool.not_true, if_false, Bool.false_eq_true]; exact all_filter p l
    | false => simp [h]
theorem v_law_is_spot {k : Int} {d : Dv} (h : ty d = true) (h2 : ∀ xs, d = .tup xs → tys xs = true ∧ xs.length ≤ 1000) (m : Store) : f__law_is_spot [.d (.int k), .d d] m = .ok (.d (.bl (isSpot k d))) m := by
  refine fin_d rfl ?_
  cases d with
  | tup xs =>
    obtain ⟨ht, hl⟩ := h2 xs rfl
    have e1 : oLen (.tup xs) = some (.int xs.length) := rfl
    by_cases hk : (xs.length : Int) = k
    · have t1 : bOr (bNot (sT (sUn (oIs "tuple") (sVar 1)))) (sT (sBin oNe (sUn oLen (sVar 1)) (sVar 0))) (start0 3 [.d (.int k), .d (.tup xs)]) m = .ok false m :=
        (bOr_f (bNot_ok (sT_ok (sUn_ok (sVar_ok rfl) rfl (oIs_tup_t xs))))).trans (sT_ok (sBin_ok (sUn_ok (sVar_ok rfl) rfl e1) (sVar_ok rfl) rfl rfl ((oNe_int _ _).trans (by simp [hk]))))
      refine (gSeq_ok ((gIf_f t1).trans rfl)).trans (gRet_ok ?_)
      have c : fComp (iSeq (sVar 1)) (tgN 2) (bNot (sT (sCall f__law_is_from (lCons (sVar 2) (lCons (sUn oNeg (sC (.int 1000))) (lCons (sC (.int 1000)) lNil)))))) (sC (.int 1)) [2] (start0 3 [.d (.int k), .d (.tup xs)]) m = .ok ((xs.filter fun x => !inR (-1000) 1000 x).map fun _ => .int 1) m := by
        refine comp_pure _ _ (iSeq_t (sVar_ok rfl)) (by omega) fun x acc hx => ⟨_, rfl, ?_, fun _ => rfl⟩
        exact bNot_ok (sT_ok (sCall_ok (lCons_ok (sVar_ok rfl) (lCons_ok rfl (lCons_ok rfl lNil_ok))) (v_law_is_from (List.all_eq_true.mp ht x hx) _)))
      refine (sBin_ok (d := .bl (isSpot k (.tup xs))) (sF_ok c) (sF_ok (lst_ok lNil_ok rfl rfl)) rfl rfl ?_)
      have hlen : (xs.filter fun x => !inR (-1000) 1000 x).length ≤ 1000 := Nat.le_trans (List.length_filter_le _ _) hl
      have g1 : good (.lst ((xs.filter fun x => !inR (-1000) 1000 x).map fun _ => Dv.int 1)) = true := good_of (((Sm.lst (w := 41) (p := 0) (n := 1000) (fun x hx => by
        obtain ⟨y, _, rfl⟩ := List.mem_map.mp hx
        exact Sm.int (by decide)) (by simp; omega)).ok (by decide) (by decide)))
      unfold oEq
      rw [g1]
      have e2 : PyData.eqv (cv (.lst ((xs.filter fun x => !inR (-1000) 1000 x).map fun _ => Dv.int 1))) (cv (.lst [])) = isSpot k (.tup xs) := by
        have q : isSpot k (.tup xs) = (xs.filter fun x => !inR (-1000) 1000 x).isEmpty := by
          rw [← all_filter]
          simp [isSpot, hk]
        rw [q]
        cases xs.filter fun x => !inR (-1000) 1000 x with
        | nil => rfl
        | cons x l => rfl
      rw [e2]
      rfl
    · have t1 : bOr (bNot (sT (sUn (oIs "tuple") (sVar 1)))) (sT (sBin oNe (sUn oLen (sVar 1)) (sVar 0))) (start0 3 [.d (.int k), .d (.tup xs)]) m = .ok true m :=
        (bOr_f (bNot_ok (sT_ok (sUn_ok (sVar_ok rfl) rfl (oIs_tup_t xs))))).trans (sT_ok (sBin_ok (sUn_ok (sVar_ok rfl) rfl e1) (sVar_ok rfl) rfl rfl ((oNe_int _ _).trans (by simp [hk]))))
      refine (gSeq_rt ((gIf_t t1).trans (gRet_ok rfl))).trans ?_
      simp [isSpot, hk]
  | fn n => simp [ty, tyName] at h
  | _ => exact gSeq_rt ((gIf_t (bOr_t (m1 := m) rfl)).trans (gRet_ok rfl))
end K21
end

section
set_option Elab.async false
set_option linter.all false
set_option maxRecDepth 100000
set_option maxHeartbeats 4000000
namespace K21
open PySem PySem.Spec PyProof.Rows L2 EvL EvH K21M
theorem tup3 {f g h : Sem1} {en : En} {m : Store} {i j k : Int} (h1 : f en m = .ok (.d (.int i)) m) (h2 : g en m = .ok (.d (.int j)) m) (h3 : h en m = .ok (.d (.int k)) m) : sTup (lCons f (lCons g (lCons h lNil))) en m = .ok (.d (tI [i, j, k])) m := tup_ok (lCons_ok h1 (lCons_ok h2 (lCons_ok h3 lNil_ok))) rfl rfl
/-- the law's body of the loop over lines -/
def qIn : SemS := (gIf (bNot (sT (sCall f__law_is_from (lCons (sVar 5) (lCons (sUn oNeg (sC (.int 1000))) (lCons (sC (.int 1000)) lNil)))))) (gRet (sTup (lCons (sC (.int 0)) (lCons (sVar 2) (lCons (sVar 4) lNil))))) gNext)
def qBody : SemS := (gSeq (gIf (bOr (bNot (sT (sUn (oIs "tuple") (sVar 3)))) (sT (sBin oNe (sUn oLen (sVar 3)) (sUn oLen (sVar 1))))) (gRet (sTup (lCons (sC (.int 0)) (lCons (sVar 2) lNil)))) gNext) (gFor (iEnumS (sVar 3)) (tgTup 2 (tgCons (tgN 4) (tgCons (tgN 5) tgNil))) qIn))
theorem ql_row {v : Dv} {ls : List Dv} {l : Dv} {k : Nat} {m : Store} {o4 o5 : Option Sv} (hl : tameR l) : match rowF ls.length k l with
    | none => ∃ p4 p5, qBody [some (.d v), some (.d (.tup ls)), some (.d (.int k)), some (.d l), o4, o5] m = .nx [some (.d v), some (.d (.tup ls)), some (.d (.int k)), some (.d l), p4, p5] m
    | some f => qBody [some (.d v), some (.d (.tup ls)), some (.d (.int k)), some (.d l), o4, o5] m = .rt (.d (tI (0 :: f))) m := by
  by_cases ht : ∃ xs, l = .tup xs
  · obtain ⟨xs, rfl⟩ := ht
    obtain ⟨hx1, hx2⟩ := hl.2 xs rfl
    unfold rowF
    dsimp only
    by_cases hn : xs.length = ls.length
    · rw [if_pos hn]
      have t1 : bOr (bNot (sT (sUn (oIs "tuple") (sVar 3)))) (sT (sBin oNe (sUn oLen (sVar 3)) (sUn oLen (sVar 1)))) [some (.d v), some (.d (.tup ls)), some (.d (.int k)), some (.d (.tup xs)), o4, o5] m = .ok false m :=
        (bOr_f (bNot_ok (sT_ok (sUn_ok (sVar_ok rfl) rfl (oIs_tup_t xs))))).trans (sT_ok (sBin_ok (sUn_ok (sVar_ok rfl) rfl (oLen_t xs)) (sUn_ok (sVar_ok rfl) rfl (oLen_t ls)) rfl rfl ((oNe_int _ _).trans (by simp [hn]))))
      have key := row_scan (xs := xs) (m := m) (a := 4) (b := 5) (body := qIn) (r := fun j => tI [0, (k : Int), (j : Int)])
        (E := fun en => ∃ p4 p5, en = [some (.d v), some (.d (.tup ls)), some (.d (.int k)), some (.d (.tup xs)), p4, p5]) hx2 (fun en i y ⟨p3, p4, h⟩ => by subst h; exact ⟨_, _, rfl⟩)
        (fun en i y hy ⟨p3, p4, h⟩ hty => by
          subst h
          have e : sCall f__law_is_from (lCons (sVar 5) (lCons (sUn oNeg (sC (.int 1000))) (lCons (sC (.int 1000)) lNil))) [some (.d v), some (.d (.tup ls)), some (.d (.int k)), some (.d (.tup xs)), some (.d (.int (i : Nat))), some (.d y)] m = .ok (.d (.bl (inR (-1000) 1000 y))) m :=
            sCall_ok (lCons_ok (sVar_ok rfl) (lCons_ok rfl (lCons_ok rfl lNil_ok))) (v_law_is_from hty m)
          refine ⟨fun h => ?_, fun h => ?_⟩
          · rw [h] at e
            exact (gIf_f (bNot_ok (sT_ok e))).trans rfl
          · rw [h] at e
            exact (gIf_t (bNot_ok (sT_ok e))).trans (gRet_ok (tup3 (sC_ok _) (sVar_ok rfl) (sVar_ok rfl))))
        (en := [some (.d v), some (.d (.tup ls)), some (.d (.int k)), some (.d (.tup xs)), o4, o5]) ⟨o4, o5, rfl⟩
      have un : qBody [some (.d v), some (.d (.tup ls)), some (.d (.int k)), some (.d (.tup xs)), o4, o5] m = loop (tgTup 2 (tgCons (tgN 4) (tgCons (tgN 5) tgNil))) qIn (numb xs) [some (.d v), some (.d (.tup ls)), some (.d (.int k)), some (.d (.tup xs)), o4, o5] m :=
        (gSeq_ok ((gIf_f t1).trans rfl)).trans (gFor_ok (iEnum_t (sVar_ok rfl)))
      rw [un]
      cases e : firstP xs.length (badAt xs) with
      | none =>
        rw [e] at key
        obtain ⟨en', h1, p3, p4, rfl⟩ := key
        exact ⟨p3, p4, h1⟩
      | some j =>
        rw [e] at key
        exact key
    · rw [if_neg hn]
      have t1 : bOr (bNot (sT (sUn (oIs "tuple") (sVar 3)))) (sT (sBin oNe (sUn oLen (sVar 3)) (sUn oLen (sVar 1)))) [some (.d v), some (.d (.tup ls)), some (.d (.int k)), some (.d (.tup xs)), o4, o5] m = .ok true m :=
        (bOr_f (bNot_ok (sT_ok (sUn_ok (sVar_ok rfl) rfl (oIs_tup_t xs))))).trans (sT_ok (sBin_ok (sUn_ok (sVar_ok rfl) rfl (oLen_t xs)) (sUn_ok (sVar_ok rfl) rfl (oLen_t ls)) rfl rfl ((oNe_int _ _).trans (by simp; omega))))
      exact gSeq_rt ((gIf_t t1).trans (gRet_ok (tup2 (sC_ok _) (sVar_ok rfl))))
  · have hn : ∀ xs, l ≠ .tup xs := fun xs z => ht ⟨xs, z⟩
    have e : rowF ls.length k l = some [(k : Int)] := by
      cases l with
      | tup xs => exact absurd rfl (hn xs)
      | _ => rfl
    rw [e]
    have t1 : bOr (bNot (sT (sUn (oIs "tuple") (sVar 3)))) (sT (sBin oNe (sUn oLen (sVar 3)) (sUn oLen (sVar 1)))) [some (.d v), some (.d (.tup ls)), some (.d (.int k)), some (.d l), o4, o5] m = .ok true m :=
      bOr_t (bNot_ok (sT_ok (sUn_ok (sVar_ok rfl) rfl (oIs_not hl.1 hn))))
    exact gSeq_rt ((gIf_t t1).trans (gRet_ok (tup2 (sC_ok _) (sVar_ok rfl))))
theorem qlines_scan {v : Dv} {ls : List Dv} {m : Store} {o2 o3 o4 o5 : Option Sv} (hl : ∀ x ∈ ls, tameR x) : match scanF ls with
    | none => ∃ p2 p3 p4 p5, loop (tgTup 2 (tgCons (tgN 2) (tgCons (tgN 3) tgNil))) qBody (numb ls) [some (.d v), some (.d (.tup ls)), o2, o3, o4, o5] m = .nx [some (.d v), some (.d (.tup ls)), p2, p3, p4, p5] m
    | some f => loop (tgTup 2 (tgCons (tgN 2) (tgCons (tgN 3) tgNil))) qBody (numb ls) [some (.d v), some (.d (.tup ls)), o2, o3, o4, o5] m = .rt (.d (tI (0 :: f))) m := by
  have key := loop_first (G := tgTup 2 (tgCons (tgN 2) (tgCons (tgN 3) tgNil))) (body := qBody) (xs := numb ls) (m := m) (rowB ls.length ls) (fun k => tI (0 :: (rowF ls.length k (ls.getD k .non)).getD [])) (fun en => ∃ p2 p3 p4 p5, en = [some (.d v), some (.d (.tup ls)), p2, p3, p4, p5]) (fun i d en hd ⟨p1, p2, p3, p4, he⟩ => by
    subst he
    obtain ⟨l, hy, rfl⟩ := numb_get hd
    have gg := getD_get hy
    have pr := ql_row (v := v) (ls := ls) (k := i) (m := m) (o4 := p3) (o5 := p4) (hl l (List.mem_of_getElem? hy))
    refine ⟨[some (.d v), some (.d (.tup ls)), some (.d (.int (i : Nat))), some (.d l), p3, p4], rfl, fun hp => ?_, fun hp => ?_⟩
    · unfold rowB at hp
      rw [gg] at hp
      cases e : rowF ls.length i l with
      | none =>
        rw [e] at pr
        obtain ⟨q3, q4, h1⟩ := pr
        exact ⟨_, .inl h1, _, _, _, _, rfl⟩
      | some f => rw [e] at hp; cases hp
    · unfold rowB at hp
      rw [gg] at hp
      show qBody _ m = .rt (.d (tI (0 :: (rowF ls.length i (ls.getD i .non)).getD []))) m
      rw [gg]
      cases e : rowF ls.length i l with
      | none => rw [e] at hp; cases hp
      | some f =>
        rw [e] at pr
        exact pr) (en := [some (.d v), some (.d (.tup ls)), o2, o3, o4, o5]) ⟨o2, o3, o4, o5, rfl⟩
  rw [numb_len] at key
  unfold scanF
  cases e : firstP ls.length (rowB ls.length ls) with
  | none =>
    obtain ⟨en', h1, p1, p2, p3, p4, rfl⟩ := key.1 (firstP_none e)
    exact ⟨p1, p2, p3, p4, h1⟩
  | some k =>
    obtain ⟨h1, h2, h3⟩ := firstP_some e
    have := key.2 k h1 h2 h3
    unfold rowB at h2
    cases e2 : rowF ls.length k (ls.getD k .non) with
    | none => rw [e2] at h2; cases h2
    | some f =>
      rw [e2] at this
      simp only [Option.bind_some, e2]
      exact this
theorem v_law_fault {v : Dv} (h : tameM v) (m : Store) : f__law_fault [.d v] m = .ok (.d (outF (mvF v))) m := by
  by_cases ht : ∃ ls, v = .tup ls
  · obtain ⟨xs, rfl⟩ := ht
    obtain ⟨hx1, hx2⟩ := h.2 xs rfl
    refine fin_d rfl ?_
    have t0 := bNot_ok (sT_ok (sUn_ok (m := m) (m1 := m) (fa := sVar 0) (en := start0 6 [.d (.tup xs)]) (sVar_ok rfl) rfl (oIs_tup_t xs)))
    by_cases hn : xs.length = 2
    · obtain ⟨a, b, rfl⟩ := len2 hn
      have ta := hx2 a (by simp)
      have tb := hx2 b (by simp)
      have t1 : bOr (bNot (sT (sUn (oIs "tuple") (sVar 0)))) (sT (sBin oNe (sUn oLen (sVar 0)) (sC (.int 2)))) (start0 6 [.d (.tup [a, b])]) m = .ok false m :=
        (bOr_f t0).trans (sT_ok (sBin_ok (sUn_ok (sVar_ok rfl) rfl (oLen_t _)) (sC_ok _) rfl rfl ((oNe_int _ _).trans (by simp))))
      have e1 : sBin oIx (sVar 0) (sC (.int 0)) (start0 6 [.d (.tup [a, b])]) m = .ok (.d a) m := sBin_ok (sVar_ok rfl) (sC_ok _) rfl rfl rfl
      refine (gSeq_ok ((gIf_f t1).trans rfl)).trans ((gSeq_ok (gSet_ok e1)).trans ?_)
      show _ = Sr.rt (.d (outF (match lnF a with | some f => some (0 :: f) | none => if isSpot (lenD a) b then none else some [1]))) m
      by_cases ha : ∃ ls, a = .tup ls
      · obtain ⟨ls, rfl⟩ := ha
        obtain ⟨hl1, hl2⟩ := ta.2 ls rfl
        have tt : sT (sUn (oIs "tuple") (sVar 1)) [some (.d (.tup [.tup ls, b])), some (.d (.tup ls)), none, none, none, none] m = .ok true m := sT_ok (sUn_ok (sVar_ok rfl) rfl (oIs_tup_t ls))
        have tc : sT (sChain oLe oLe (sC (.int 1)) (sUn oLen (sVar 1)) (sC (.int 3))) [some (.d (.tup [.tup ls, b])), some (.d (.tup ls)), none, none, none, none] m = .ok (decide ((1 : Int) ≤ ls.length) && decide ((ls.length : Int) ≤ 3)) m := sT_ok (chain_ok (sC_ok _) (sUn_ok (sVar_ok rfl) rfl (oLen_t ls)) (sC_ok _))
        by_cases hn : 1 ≤ ls.length ∧ ls.length ≤ 3
        · have t1 : bOr (bNot (sT (sUn (oIs "tuple") (sVar 1)))) (bNot (sT (sChain oLe oLe (sC (.int 1)) (sUn oLen (sVar 1)) (sC (.int 3))))) [some (.d (.tup [.tup ls, b])), some (.d (.tup ls)), none, none, none, none] m = .ok false m :=
            (bOr_f (bNot_ok tt)).trans ((bNot_ok tc).trans (by simp; omega))
          have key := qlines_scan (v := .tup [.tup ls, b]) (ls := ls) (m := m) (o2 := none) (o3 := none) (o4 := none) (o5 := none) hl2
          have un : gFor (iEnumS (sVar 1)) (tgTup 2 (tgCons (tgN 2) (tgCons (tgN 3) tgNil))) qBody [some (.d (.tup [.tup ls, b])), some (.d (.tup ls)), none, none, none, none] m = loop (tgTup 2 (tgCons (tgN 2) (tgCons (tgN 3) tgNil))) qBody (numb ls) [some (.d (.tup [.tup ls, b])), some (.d (.tup ls)), none, none, none, none] m := gFor_ok (iEnum_t (sVar_ok rfl))
          rw [lnF_tup, if_pos hn]
          refine (gSeq_ok ((gIf_f t1).trans rfl)).trans ?_
          cases e : scanF ls with
          | some f =>
            rw [e] at key
            exact gSeq_rt (un.trans key)
          | none =>
            rw [e] at key
            obtain ⟨p1, p2, p3, p4, h1⟩ := key
            refine (gSeq_ok (un.trans h1)).trans ?_
            obtain ⟨a1, a2, a3⟩ := toM_tm (scan_none e)
            have is : IsM ls.length (toM ls) := ⟨by simp [toM], a2⟩
            have dd := v_law_det (w := .d (.tup ls)) is hn a3 (m := m) (by
              have := Src.tup (toM ls) m
              rw [← a1] at this
              exact this)
            have ab : oAbs (.int (dt (toM ls))) = some (.int (if dt (toM ls) < 0 then -dt (toM ls) else dt (toM ls))) := rfl
            have te : sT (sBin oNe (sUn oAbs (sCall (f__law_det fuel__law_det) (lCons (sVar 1) lNil))) (sC (.int 1))) [some (.d (.tup [.tup ls, b])), some (.d (.tup ls)), p1, p2, p3, p4] m = .ok (!decide (dt (toM ls) = 1 ∨ dt (toM ls) = -1)) m := by
              refine sT_ok (sBin_ok (sUn_ok (sCall_ok (lCons_ok (sVar_ok rfl) lNil_ok) dd) rfl ab) (sC_ok _) rfl rfl ((oNe_int _ _).trans ?_))
              have hh : decide ((if dt (toM ls) < 0 then -dt (toM ls) else dt (toM ls)) = 1) = decide (dt (toM ls) = 1 ∨ dt (toM ls) = -1) := decide_eq_decide.mpr (by split <;> omega)
              rw [hh]
            by_cases hd : dt (toM ls) = 1 ∨ dt (toM ls) = -1
            · rw [decide_eq_true hd] at te
              dsimp only
              rw [if_pos hd]
              refine (gSeq_ok ((gIf_f te).trans rfl)).trans (gRet_ok ?_)
              have ep : sT (sCall f__law_is_spot (lCons (sUn oLen (sVar 1)) (lCons (sBin oIx (sVar 0) (sC (.int 1))) lNil))) [some (.d (.tup [.tup ls, b])), some (.d (.tup ls)), p1, p2, p3, p4] m = .ok (isSpot (lenD (.tup ls)) b) m :=
                sT_ok (sCall_ok (lCons_ok (sUn_ok (sVar_ok rfl) rfl (oLen_t ls)) (lCons_ok (sBin_ok (sVar_ok rfl) (sC_ok _) rfl rfl rfl) lNil_ok)) (v_law_is_spot tb.1 (tameL_pt tb) m))
              rw [if_ok ep]
              cases isSpot (lenD (.tup ls)) b with
              | true => rfl
              | false => exact tup1 (sC_ok _)
            · rw [decide_eq_false hd] at te
              dsimp only
              rw [if_neg hd]
              exact gSeq_rt ((gIf_t te).trans (gRet_ok (tup1 (sC_ok _))))
        · have t1 : bOr (bNot (sT (sUn (oIs "tuple") (sVar 1)))) (bNot (sT (sChain oLe oLe (sC (.int 1)) (sUn oLen (sVar 1)) (sC (.int 3))))) [some (.d (.tup [.tup ls, b])), some (.d (.tup ls)), none, none, none, none] m = .ok true m :=
            (bOr_f (bNot_ok tt)).trans ((bNot_ok tc).trans (by simp; omega))
          rw [lnF_tup, if_neg hn]
          exact gSeq_rt ((gIf_t t1).trans (gRet_ok (tup1 (sC_ok _))))
      · have hn : ∀ xs, a ≠ .tup xs := fun xs z => ha ⟨xs, z⟩
        have e : lnF a = some [] := by
          cases a with
          | tup xs => exact absurd rfl (hn xs)
          | _ => rfl
        rw [e]
        exact gSeq_rt ((gIf_t (bOr_t (bNot_ok (sT_ok (sUn_ok (sVar_ok rfl) rfl (oIs_not ta.1 hn)))))).trans (gRet_ok (tup1 (sC_ok _))))
    · have t1 : bOr (bNot (sT (sUn (oIs "tuple") (sVar 0)))) (sT (sBin oNe (sUn oLen (sVar 0)) (sC (.int 2)))) (start0 6 [.d (.tup xs)]) m = .ok true m :=
        (bOr_f t0).trans (sT_ok (sBin_ok (sUn_ok (sVar_ok rfl) rfl (oLen_t _)) (sC_ok _) rfl rfl ((oNe_int _ _).trans (by simp; omega))))
      have e : mvF (.tup xs) = some [] := by
        match xs, hn with
        | [], _ => rfl
        | [_], _ => rfl
        | _ :: _ :: _ :: _, _ => rfl
      rw [e]
      exact gSeq_rt ((gIf_t t1).trans (gRet_ok rfl))
  · have hn : ∀ xs, v ≠ .tup xs := fun xs z => ht ⟨xs, z⟩
    have e : mvF v = some [] := by
      cases v with
      | tup xs => exact absurd rfl (hn xs)
      | _ => rfl
    rw [e]
    exact fin_d rfl (gSeq_rt ((gIf_t (bOr_t (bNot_ok (sT_ok (sUn_ok (sVar_ok rfl) rfl (oIs_not h.1 hn)))))).trans (gRet_ok rfl)))
end K21
end

section
set_option Elab.async false
set_option linter.all false
set_option maxRecDepth 100000
set_option maxHeartbeats 4000000
namespace K21
open PySem PySem.Spec PyProof.Rows L2 EvL EvH K21M
/-! what is heard of a call -/
theorem fin_ex {ns np : Nat} {g : SemS} {ws : List Sv} {m : Store} {x : Ex} {en : En} (hn : ws.length = np) (hg : g (start0 ns ws) m = .ex x en m) : fnS ns np g ws m = .ex x m := by
  unfold fnS
  rw [if_pos hn, hg]
  show Rs.ex x (m.take m.length) = _
  rw [take_self]
theorem gRet_ex {f : Sem1} {en : En} {m m1 : Store} {x : Ex} (h : f en m = .ex x m1) : gRet f en m = .ex x en m1 := by simp [gRet, Rs.st, h]
theorem gSet_ex {f : Sem1} {en : En} {m m1 : Store} {x : Ex} {i : Nat} (h : f en m = .ex x m1) : gSet i f en m = .ex x en m1 := by simp [gSet, Rs.st, h]
theorem gExpr_ex {f : Sem1} {en : En} {m m1 : Store} {x : Ex} (h : f en m = .ex x m1) : gExpr f en m = .ex x en m1 := by simp [gExpr, Rs.st, h]
theorem gExpr_ok {f : Sem1} {en : En} {m m1 : Store} {y : Sv} (h : f en m = .ok y m1) : gExpr f en m = .nx en m1 := by simp [gExpr, Rs.st, h]
theorem gSeq_ex {g1 g2 : SemS} {en e1 : En} {m m1 : Store} {x : Ex} (h : g1 en m = .ex x e1 m1) : gSeq g1 g2 en m = .ex x e1 m1 := by simp [gSeq, h]
theorem lCons_ex {fa : Sem1} {fl : SemL} {en : En} {m m1 : Store} {x : Ex} (h : fa en m = .ex x m1) : lCons fa fl en m = .ex x m1 := by simp [lCons, Rs.bind, h]
theorem lCons_ex2 {fa : Sem1} {fl : SemL} {en : En} {m m1 m2 : Store} {y : Sv} {x : Ex} (h : fa en m = .ok y m1) (h2 : fl en m1 = .ex x m2) : lCons fa fl en m = .ex x m2 := by simp [lCons, Rs.bind, h, h2]
theorem sCall_ex {fl : SemL} {en : En} {m m1 : Store} {g : Fs} {x : Ex} (h : fl en m = .ex x m1) : sCall g fl en m = .ex x m1 := by simp [sCall, Rs.bind, h]
theorem sCall_ex2 {fl : SemL} {en : En} {m m1 m2 : Store} {g : Fs} {x : Ex} {ws : List Sv} (h : fl en m = .ok ws m1) (h2 : g ws m1 = .ex x m2) : sCall g fl en m = .ex x m2 := by simp [sCall, Rs.bind, h, h2]
theorem sBin_ex {op : Dv → Dv → Option Dv} {fa fb : Sem1} {en : En} {m m1 : Store} {x : Ex} (h : fa en m = .ex x m1) : sBin op fa fb en m = .ex x m1 := by simp [sBin, Rs.bind, h]
theorem sUn_ex {op : Dv → Option Dv} {fa : Sem1} {en : En} {m m1 : Store} {x : Ex} (h : fa en m = .ex x m1) : sUn op fa en m = .ex x m1 := by simp [sUn, Rs.bind, h]
theorem sT_ex {fa : Sem1} {en : En} {m m1 : Store} {x : Ex} (h : fa en m = .ex x m1) : sT fa en m = .ex x m1 := by simp [sT, Rs.bind, h]
theorem gIf_ex {t : SemB} {g1 g2 : SemS} {en : En} {m m1 : Store} {x : Ex} (h : t en m = .ex x m1) : gIf t g1 g2 en m = .ex x en m1 := by simp [gIf, Rs.st, h]
theorem sF_ex {ff : SemF} {en : En} {m m1 : Store} {x : Ex} (h : ff en m = .ex x m1) : sF ff en m = .ex x m1 := by simp [sF, Rs.bind, h]
theorem fLst_ex {fl : SemL} {en : En} {m m1 : Store} {x : Ex} (h : fl en m = .ex x m1) : fLst fl en m = .ex x m1 := by simp [fLst, Rs.bind, h]
theorem len_eq {d : List Dv} {c : Int} {en : En} {m : Store} {i : Nat} (h : en[i]? = some (some (.d (.tup d)))) : sT (sBin oEq (sUn oLen (sVar i)) (sC (.int c))) en m = .ok (decide ((d.length : Int) = c)) m := sT_ok (sBin_ok (sUn_ok (sVar_ok h) rfl (oLen_t d)) (sC_ok _) rfl rfl (oEq_int _ _))
/-- the call of one of the seven -/
theorem callL_eq {n : Nat} {en : En} {m : Store} {fl : SemL} {ws : List Sv} (hn : n < nDisp) (h0 : en[0]? = some (some (.d (.fn n)))) (h : fl en m = .ok ws m) : sCallL 0 nDisp disp fl en m = disp n ws m := by
  unfold sCallL
  rw [h0]
  simp only [if_pos hn, h]
  rfl
/-- how a call comes out: with a thing, or with an error; the store stays -/
inductive Out where
  | d (x : Dv) | e (x : Ex)
def Out.rs (m : Store) : Out → Rs Sv
  | .d x => .ok (.d x) m
  | .e x => .ex x m
def Out.sr (en : En) (m : Store) : Out → Sr
  | .d x => .rt (.d x) m
  | .e x => .ex x en m
theorem gRet_out {f : Sem1} {en : En} {m : Store} {o : Out} (h : f en m = o.rs m) : gRet f en m = o.sr en m := by
  cases o with
  | d x => exact gRet_ok h
  | e x => exact gRet_ex h
theorem gSeq_out {g1 g2 : SemS} {en : En} {m : Store} {o : Out} (h : g1 en m = o.sr en m) : gSeq g1 g2 en m = o.sr en m := by
  cases o with
  | d x => exact gSeq_rt h
  | e x => exact gSeq_ex h
theorem fin_out {ns np : Nat} {g : SemS} {ws : List Sv} {m : Store} {o : Out} {en : En} (hn : ws.length = np) (hg : g (start0 ns ws) m = o.sr en m) : fnS ns np g ws m = o.rs m := by
  cases o with
  | d x => exact fin_d hn hg
  | e x => exact fin_ex hn hg
theorem len_t {d : List Dv} {c : Int} {en : En} {m : Store} {i : Nat} (h : en[i]? = some (some (.d (.tup d)))) (hc : (d.length : Int) = c) : sT (sBin oEq (sUn oLen (sVar i)) (sC (.int c))) en m = .ok true m := by rw [len_eq h, decide_eq_true hc]
theorem len_f {d : List Dv} {c : Int} {en : En} {m : Store} {i : Nat} (h : en[i]? = some (some (.d (.tup d)))) (hc : (d.length : Int) ≠ c) : sT (sBin oEq (sUn oLen (sVar i)) (sC (.int c))) en m = .ok false m := by rw [len_eq h, decide_eq_false hc]
theorem called1 {n : Nat} {a : Dv} {m : Store} {o : Out} (hn : n < nDisp) (h : disp n [.d a] m = o.rs m) : f__law_called [.d (.fn n), .d (.tup [a])] m = o.rs m := by
  refine fin_out rfl (gSeq_out ((gIf_t (len_t (d := [a]) rfl rfl)).trans (gRet_out ?_)))
  exact (callL_eq hn rfl (lCons_ok (sBin_ok (sVar_ok rfl) (sC_ok _) rfl rfl rfl) lNil_ok)).trans h
theorem called2 {n : Nat} {a b : Dv} {m : Store} {o : Out} (hn : n < nDisp) (h : disp n [.d a, .d b] m = o.rs m) : f__law_called [.d (.fn n), .d (.tup [a, b])] m = o.rs m := by
  refine fin_out rfl ((gSeq_ok ((gIf_f (len_f (d := [a, b]) rfl (by simp))).trans rfl)).trans (gSeq_out ((gIf_t (len_t (d := [a, b]) rfl rfl)).trans (gRet_out ?_))))
  exact (callL_eq hn rfl (lCons_ok (sBin_ok (sVar_ok rfl) (sC_ok _) rfl rfl rfl) (lCons_ok (sBin_ok (sVar_ok rfl) (sC_ok _) rfl rfl rfl) lNil_ok))).trans h
/-- what _law_heard tells -/
def told : Out → Option Dv
  | .d x => some (.lst [x])
  | .e ⟨3, some (f, d)⟩ => if f = "path" then some (.tup [.str "move", d]) else none
  | .e ⟨1, some (f, d)⟩ => if f = "value" then some (.tup [.str "point", d]) else none
  | .e ⟨0, some (f, d)⟩ => if f = "value" then some (.tup [.str "number", d]) else none
  | .e ⟨4, some (f, d)⟩ => if f = "most" then some (.tup [.str "great", d]) else none
  | .e ⟨5, none⟩ => some (.tup [.str "unlike", .int 0])
  | _ => none
theorem heard {c th : Dv} {m : Store} {o : Out} {r : Dv} (h : f__law_called [.d c, .d th] m = o.rs m) (ht : told o = some r) : f__law_heard [.d c, .d th] m = .ok (.d r) m := by
  refine fin_d rfl ?_
  have e : sCall f__law_called (lCons (sVar 0) (lCons (sVar 1) lNil)) (start0 3 [.d c, .d th]) m = o.rs m := by
    cases o with
    | d x => exact sCall_ok (lCons_ok (sVar_ok rfl) (lCons_ok (sVar_ok rfl) lNil_ok)) h
    | e x => exact sCall_ex2 (lCons_ok (sVar_ok rfl) (lCons_ok (sVar_ok rfl) lNil_ok)) h
  unfold told at ht
  split at ht
  · cases ht
    have b : gRet (sF (fLst (lCons (sCall f__law_called (lCons (sVar 0) (lCons (sVar 1) lNil))) lNil))) (start0 3 [.d c, .d th]) m = .rt (.d (.lst [_])) m := gRet_ok (sF_ok (lst_ok (lCons_ok e lNil_ok) rfl rfl))
    unfold g__law_heard gTry
    rw [b]
  · split at ht
    · rename_i hf; subst hf; cases ht
      have b : gRet (sF (fLst (lCons (sCall f__law_called (lCons (sVar 0) (lCons (sVar 1) lNil))) lNil))) (start0 3 [.d c, .d th]) m = .ex _ _ m := gRet_ex (sF_ex (fLst_ex (lCons_ex e)))
      unfold g__law_heard gTry
      rw [b]
      rfl
    · cases ht
  · split at ht
    · rename_i hf; subst hf; cases ht
      have b : gRet (sF (fLst (lCons (sCall f__law_called (lCons (sVar 0) (lCons (sVar 1) lNil))) lNil))) (start0 3 [.d c, .d th]) m = .ex _ _ m := gRet_ex (sF_ex (fLst_ex (lCons_ex e)))
      unfold g__law_heard gTry
      rw [b]
      rfl
    · cases ht
  · split at ht
    · rename_i hf; subst hf; cases ht
      have b : gRet (sF (fLst (lCons (sCall f__law_called (lCons (sVar 0) (lCons (sVar 1) lNil))) lNil))) (start0 3 [.d c, .d th]) m = .ex _ _ m := gRet_ex (sF_ex (fLst_ex (lCons_ex e)))
      unfold g__law_heard gTry
      rw [b]
      rfl
    · cases ht
  · split at ht
    · rename_i hf; subst hf; cases ht
      have b : gRet (sF (fLst (lCons (sCall f__law_called (lCons (sVar 0) (lCons (sVar 1) lNil))) lNil))) (start0 3 [.d c, .d th]) m = .ex _ _ m := gRet_ex (sF_ex (fLst_ex (lCons_ex e)))
      unfold g__law_heard gTry
      rw [b]
      rfl
    · cases ht
  · cases ht
    have b : gRet (sF (fLst (lCons (sCall f__law_called (lCons (sVar 0) (lCons (sVar 1) lNil))) lNil))) (start0 3 [.d c, .d th]) m = .ex _ _ m := gRet_ex (sF_ex (fLst_ex (lCons_ex e)))
    unfold g__law_heard gTry
    rw [b]
    rfl
  · cases ht
theorem heard1 {n : Nat} {a r : Dv} {m : Store} {o : Out} (hn : n < nDisp) (h : disp n [.d a] m = o.rs m) (ht : told o = some r) : f__law_heard [.d (.fn n), .d (.tup [a])] m = .ok (.d r) m := heard (called1 hn h) ht
theorem heard2 {n : Nat} {a b r : Dv} {m : Store} {o : Out} (hn : n < nDisp) (h : disp n [.d a, .d b] m = o.rs m) (ht : told o = some r) : f__law_heard [.d (.fn n), .d (.tup [a, b])] m = .ok (.d r) m := heard (called2 hn h) ht
/-! a bad move, whoever is asked -/
def bad (f : List Int) : Out := .e ⟨3, some ("path", tI f)⟩
section
variable {v w : Dv} {f : List Int} {m : Store}
theorem b_need (h : tameM v) (hf : mvF v = some f) : f_need_move [.d v] m = (bad f).rs m := by
  rw [v_need_move h, hf]
  rfl
theorem c_need (h : tameM v) (hf : mvF v = some f) {en : En} {i : Nat} (hi : en[i]? = some (some (.d v))) : sCall f_need_move (lCons (sVar i) lNil) en m = .ex ⟨3, some ("path", tI f)⟩ m := sCall_ex2 (lCons_ok (sVar_ok hi) lNil_ok) (b_need h hf)
theorem d_need (h : tameM v) (hf : mvF v = none) {en : En} {i : Nat} (hi : en[i]? = some (some (.d v))) : sCall f_need_move (lCons (sVar i) lNil) en m = .ok (.d v) m := sCall_ok (lCons_ok (sVar_ok hi) lNil_ok) (by rw [v_need_move h, hf])
theorem b_inverse (h : tameM v) (hf : mvF v = some f) : f_inverse_move [.d v] m = (bad f).rs m := fin_ex rfl (gRet_ex (sCall_ex (lCons_ex (sCall_ex (lCons_ex (c_need h hf rfl))))))
theorem b_sign (h : tameM v) (hf : mvF v = some f) : f_move_sign [.d v] m = (bad f).rs m := fin_ex rfl (gRet_ex (sCall_ex (lCons_ex (sBin_ex (c_need h hf rfl)))))
theorem b_point (h : tameM v) (hf : mvF v = some f) : f_moved_point [.d v, .d w] m = (bad f).rs m := fin_ex rfl (gSeq_ex (gExpr_ex (c_need h hf rfl)))
theorem b_body (h : tameM v) (hf : mvF v = some f) : f_moved_body [.d v, .d w] m = (bad f).rs m := fin_ex rfl (gSeq_ex (gExpr_ex (c_need h hf rfl)))
theorem b_comp (h : tameM v) (hf : mvF v = some f) : f_composed [.d v, .d w] m = (bad f).rs m := fin_ex rfl (gSeq_ex (gExpr_ex (c_need h hf rfl)))
theorem b_comp2 (hw : tameM w) (hw2 : mvF w = none) (h : tameM v) (hf : mvF v = some f) : f_composed [.d w, .d v] m = (bad f).rs m :=
  fin_ex rfl ((gSeq_ok (gExpr_ok (d_need hw hw2 rfl))).trans (gSeq_ex (gIf_ex (sT_ex (sBin_ex (sUn_ex (sBin_ex (c_need h hf rfl))))))))
end
end K21
end

section
set_option Elab.async false
set_option linter.all false
set_option maxRecDepth 100000
set_option maxHeartbeats 4000000
namespace K21
open PySem PySem.Spec PyProof.Rows L2 EvL EvH K21M
/-! judged_right: a bad move is told as bad by all; a good one comes back -/
def Tm (f : List Int) : Dv := .tup [.str "move", tI f]
theorem told_bad (f : List Int) : told (bad f) = some (Tm f) := by
  show (if ("path" : Str) = "path" then some (Tm f) else none) = _
  rw [if_pos rfl]
theorem map3 {α β : Type} (a b c : α) (y : β) : (([a, b, c].filter fun _ => true).map fun _ => y) = [y, y, y] := rfl
theorem map2 {α β : Type} (a b : α) (y : β) : (([a, b].filter fun _ => true).map fun _ => y) = [y, y] := rfl
def rightA : Dv := .tup [.tup [.tup [.int 1]], .tup [.int 0]]
def rightB : Dv := .tup [.tup [.tup [.int 1, .int 0], .tup [.int 0, .int 1]], .tup [.int 0, .int 0]]
theorem tame_int {x : Int} : tameR (.int x) := ⟨rfl, fun _ h => by cases h⟩
theorem tameA : tameM rightA ∧ mvF rightA = none := by
  refine ⟨⟨rfl, fun xs h => ?_⟩, by decide +kernel⟩
  cases h
  refine ⟨by simp, fun x hx => ?_⟩
  simp at hx
  rcases hx with rfl | rfl
  · refine ⟨rfl, fun xs h => ?_⟩
    cases h
    refine ⟨by simp, fun x hx => ?_⟩
    simp at hx
    subst hx
    refine ⟨rfl, fun ys h => ?_⟩
    cases h
    exact ⟨by simp, fun y hy => by simp at hy; subst hy; rfl⟩
  · refine ⟨rfl, fun xs h => ?_⟩
    cases h
    refine ⟨by simp, fun x hx => ?_⟩
    simp at hx
    subst hx
    exact tame_int
theorem tameB : tameM rightB ∧ mvF rightB = none := by
  refine ⟨⟨rfl, fun xs h => ?_⟩, by decide +kernel⟩
  cases h
  refine ⟨by simp, fun x hx => ?_⟩
  simp at hx
  rcases hx with rfl | rfl
  · refine ⟨rfl, fun xs h => ?_⟩
    cases h
    refine ⟨by simp, fun x hx => ?_⟩
    simp at hx
    rcases hx with rfl | rfl
    all_goals
      refine ⟨rfl, fun ys h => ?_⟩
      cases h
      exact ⟨by simp, fun y hy => by simp at hy; rcases hy with rfl | rfl <;> rfl⟩
  · refine ⟨rfl, fun xs h => ?_⟩
    cases h
    refine ⟨by simp, fun x hx => ?_⟩
    simp at hx
    subst hx
    exact tame_int
theorem like_call {fa fb : Sem1} {en : En} {m : Store} {d : Dv} {x y : Sv} (ha : fa en m = .ok x m) (hb : fb en m = .ok y m) (hx : x = .d d) (hy : y = .d d) (h : showOk d = true) : sCall f__law_like (lCons fa (lCons fb lNil)) en m = .ok (.d (.bl true)) m := by
  subst hx; subst hy
  exact sCall_ok (lCons_ok ha (lCons_ok hb lNil_ok)) (like_ok h)
theorem v_judged {v : Dv} {w p : Nat} (h : tameM v) (hs : Sm w p v) (hw : w ≤ 60000) (hp : p ≤ 60) (m : Store) : f__law_judged_right [.d v] m = .ok (.d (.bl true)) m := by
  have e1 : sCall f__law_fault (lCons (sVar 0) lNil) (start0 6 [.d v]) m = .ok (.d (outF (mvF v))) m := sCall_ok (lCons_ok (sVar_ok rfl) lNil_ok) (v_law_fault h m)
  cases e : mvF v with
  | none =>
    rw [e] at e1
    have n1 : f_need_move [.d v] m = .ok (.d v) m := by rw [v_need_move h, e]
    refine fin_d rfl ((gSeq_ok (gSet_ok e1)).trans (gSeq_rt ((gIf_t (sT_ok (sBin_ok (sVar_ok rfl) (sC_ok _) rfl rfl rfl))).trans (gRet_ok ?_))))
    exact like_call (sCall_ok (lCons_ok (sVar_ok rfl) lNil_ok) n1) (sVar_ok rfl) rfl rfl (hs.ok hw hp)
  | some f =>
    rw [e] at e1
    have td := told_bad f
    have c1 : ∀ S, fComp (iSeq (sTup (lCons (sC (.fn 3)) (lCons (sC (.fn 2)) (lCons (sC (.fn 4)) lNil))))) (tgN 4) bYes (sCall f__law_heard (lCons (sVar 4) (lCons (sTup (lCons (sVar 0) lNil)) lNil))) [4] [some (.d v), some (.d (tI f)), none, none, none, none] S = .ok [Tm f, Tm f, Tm f] S := fun S => by
      have k := comp_pure (m := S) (en := [some (.d v), some (.d (tI f)), none, none, none, none]) (t := bYes) (G := tgN 4) (vs := [4]) (f := sCall f__law_heard (lCons (sVar 4) (lCons (sTup (lCons (sVar 0) lNil)) lNil))) (fun _ => true) (fun _ => Tm f) (iSeq_t (xs := [.fn 3, .fn 2, .fn 4]) (m' := S) (tup_ok (lCons_ok (sC_ok _) (lCons_ok (sC_ok _) (lCons_ok (sC_ok _) lNil_ok))) rfl rfl)) (by simp) fun d acc hd => by
        refine ⟨_, rfl, rfl, fun _ => sCall_ok (lCons_ok (sVar_ok rfl) (lCons_ok (tup_ok (lCons_ok (sVar_ok rfl) lNil_ok) rfl rfl) lNil_ok)) ?_⟩
        simp at hd
        rcases hd with rfl | rfl | rfl
        · exact heard1 (n := 3) (by decide) (b_need h e) td
        · exact heard1 (n := 2) (by decide) (b_inverse h e) td
        · exact heard1 (n := 4) (by decide) (b_sign h e) td
      exact k
    have c2 : ∀ S q, fComp (iSeq (sTup (lCons (sC (.fn 1)) (lCons (sC (.fn 5)) (lCons (sC (.fn 0)) lNil))))) (tgN 4) bYes (sCall f__law_heard (lCons (sVar 4) (lCons (sTup (lCons (sVar 0) (lCons (sC .non) lNil))) lNil))) [4] [some (.d v), some (.d (tI f)), some (.o q), none, none, none] S = .ok [Tm f, Tm f, Tm f] S := fun S q => by
      have k := comp_pure (m := S) (en := [some (.d v), some (.d (tI f)), some (.o q), none, none, none]) (t := bYes) (G := tgN 4) (vs := [4]) (f := sCall f__law_heard (lCons (sVar 4) (lCons (sTup (lCons (sVar 0) (lCons (sC .non) lNil))) lNil))) (fun _ => true) (fun _ => Tm f) (iSeq_t (xs := [.fn 1, .fn 5, .fn 0]) (m' := S) (tup_ok (lCons_ok (sC_ok _) (lCons_ok (sC_ok _) (lCons_ok (sC_ok _) lNil_ok))) rfl rfl)) (by simp) fun d acc hd => by
        refine ⟨_, rfl, rfl, fun _ => sCall_ok (lCons_ok (sVar_ok rfl) (lCons_ok (tup_ok (lCons_ok (sVar_ok rfl) (lCons_ok (sC_ok _) lNil_ok)) rfl rfl) lNil_ok)) ?_⟩
        simp at hd
        rcases hd with rfl | rfl | rfl
        · exact heard2 (n := 1) (by decide) (b_point h e) td
        · exact heard2 (n := 5) (by decide) (b_body h e) td
        · exact heard2 (n := 0) (by decide) (b_comp h e) td
      exact k
    have c3 : ∀ S L, fComp (iSeq (sVar 3)) (tgN 5) bYes (sCall f__law_heard (lCons (sC (.fn 0)) (lCons (sTup (lCons (sVar 5) (lCons (sVar 0) lNil))) lNil))) [5] [some (.d v), some (.d (tI f)), some (.d L), some (.d (.tup [rightA, rightB])), none, none] S = .ok [Tm f, Tm f] S := fun S L => by
      have k := comp_pure (m := S) (en := [some (.d v), some (.d (tI f)), some (.d L), some (.d (.tup [rightA, rightB])), none, none]) (t := bYes) (G := tgN 5) (vs := [5]) (f := sCall f__law_heard (lCons (sC (.fn 0)) (lCons (sTup (lCons (sVar 5) (lCons (sVar 0) lNil))) lNil))) (fun _ => true) (fun _ => Tm f) (iSeq_t (f := sVar 3) (xs := [rightA, rightB]) (m' := S) (sVar_ok (i := 3) rfl)) (by simp) fun d acc hd => by
        refine ⟨_, rfl, rfl, fun _ => sCall_ok (lCons_ok (sC_ok _) (lCons_ok (tup_ok (lCons_ok (sVar_ok rfl) (lCons_ok (sVar_ok rfl) lNil_ok)) rfl rfl) lNil_ok)) ?_⟩
        simp at hd
        rcases hd with rfl | rfl
        · exact heard2 (n := 0) (by decide) (b_comp2 tameA.1 tameA.2 h e) td
        · exact heard2 (n := 0) (by decide) (b_comp2 tameB.1 tameB.2 h e) td
      exact k
    have s3 : ∀ S L, sTup (lCons (sTup (lCons (sTup (lCons (sTup (lCons (sC (.int 1)) lNil)) lNil)) (lCons (sTup (lCons (sC (.int 0)) lNil)) lNil))) (lCons (sTup (lCons (sTup (lCons (sTup (lCons (sC (.int 1)) (lCons (sC (.int 0)) lNil))) (lCons (sTup (lCons (sC (.int 0)) (lCons (sC (.int 1)) lNil))) lNil))) (lCons (sTup (lCons (sC (.int 0)) (lCons (sC (.int 0)) lNil))) lNil))) lNil)) [some (.d v), some (.d (tI f)), some (.d L), none, none, none] S = .ok (.d (.tup [rightA, rightB])) S := fun S L => rfl
    have sT8 : showOk (.lst [Tm f, Tm f, Tm f, Tm f, Tm f, Tm f, Tm f, Tm f]) = true := by
      have t1 : Sm (2 * 127) 2 (Tm f) := Sm.tup (n := 2) (w := 126) (p := 1) (fun x hx => by
        simp at hx
        rcases hx with rfl | rfl
        · exact (Sm.str (z := "move") (by decide +kernel)).mono (by decide) (by decide)
        · exact sm_mv e) (by simp)
      exact (Sm.lst (n := 8) (fun x hx => by
        simp at hx
        subst hx
        exact t1) (by simp)).ok (by decide) (by decide)
    refine (fn_d (m1 := m ++ [.lst [Tm f, Tm f, Tm f]]) (d := .bl true) rfl ?_).trans (by rw [take_app])
    refine (gSeq_ok (gSet_ok e1)).trans ((gSeq_ok ((gIf_f (sT_ok (sBin_ok (sVar_ok rfl) (sC_ok _) rfl rfl rfl))).trans rfl)).trans ((gSeq_ok (gNew_ok (c1 m))).trans ?_))
    refine (gSeq_ok (gSet_ok (x := .d (.lst [Tm f, Tm f, Tm f, Tm f, Tm f, Tm f])) (sBin_ok (u := .lst [Tm f, Tm f, Tm f]) (sVar_ok rfl) (sF_ok (c2 _ _)) (by simp [rv]) rfl rfl))).trans ?_
    refine (gSeq_ok (gSet_ok (s3 _ _))).trans ((gSeq_ok (gSet_ok (x := .d (.lst [Tm f, Tm f, Tm f, Tm f, Tm f, Tm f, Tm f, Tm f])) (sBin_ok (sVar_ok rfl) (sF_ok (c3 _ _)) rfl rfl rfl))).trans (gRet_ok ?_))
    exact like_call (sVar_ok rfl) (sBin_ok (sF_ok (lst_ok (lCons_ok (tup_ok (lCons_ok (sC_ok _) (lCons_ok (sVar_ok rfl) lNil_ok)) rfl rfl) lNil_ok) rfl rfl)) (sC_ok _) rfl rfl rfl) rfl rfl sT8
end K21
end

section
set_option Elab.async false
set_option linter.all false
set_option maxRecDepth 100000
set_option maxHeartbeats 4000000
namespace K21
open PySem PySem.Spec PyProof.Rows L2 EvL EvH K21M
/-! a move, drawn -/
structure Mv (d : Nat) (A : Mt) (t : List Int) (v : Dv) : Prop where
  eq : v = .tup [.tup (tm A), trow t]
  tu : Turn d 64 A
  len : t.length = d
  sm : ∀ x ∈ t, -1000 ≤ x ∧ x ≤ 1000
theorem ints_of {P : Int → Prop} : ∀ {l : List Dv}, (∀ z ∈ l, ∃ i, z = .int i ∧ P i) → ∃ t : List Int, l = t.map .int ∧ ∀ x ∈ t, P x
  | [], _ => ⟨[], rfl, by simp⟩
  | z :: l, h => by
    obtain ⟨i, rfl, hi⟩ := h z (by simp)
    obtain ⟨t, rfl, ht⟩ := ints_of (l := l) fun z hz => h z (by simp [hz])
    exact ⟨i :: t, rfl, fun x hx => by
      rcases List.mem_cons.mp hx with rfl | hx
      · exact hi
      · exact ht x hx⟩
theorem draw_at {en : En} {S : Store} {i j : Nat} {b span : Int} {f : Sem1} (h : Dr S j b) (hb : b < 1000000) (hs : 1 ≤ span) (hs2 : span < 1073741824) (h0 : en[i]? = some (some (.o j))) (hf : ∀ S, f en S = .ok (.d (.int span)) S) : ∃ r S', sCall f__law_draw (lCons (sVar i) (lCons f lNil)) en S = .ok (.d (.int r)) S' ∧ 0 ≤ r ∧ r < span ∧ Sj j S S' ∧ Dr S' j (b + 1) := by
  obtain ⟨r, S', e, h1, h2, h3, h4⟩ := draw_ok h hb hs hs2
  exact ⟨r, S', sCall_ok (lCons_ok (sVar_ok h0) (lCons_ok (hf S) lNil_ok)) e, h1, h2, h3, h4⟩
/-- a spot, drawn: [draw(span) - off for k in range(n)] -/
theorem spot_draws {en : En} {S : Store} {i c q j n : Nat} {b span off : Int} {fs fo : Sem1} (h : Dr S j b) (hb : b + n < 1000000) (hn : n ≤ 1000) (hs : 1 ≤ span) (hs2 : span < 1073741824) (h0 : en[i]? = some (some (.o j))) (hc : en[c]? = some (some (.d (.int n)))) (hq : q ≠ i)
    (hf : ∀ x S, fs (((wipeE en [q])).set q x) S = .ok (.d (.int span)) S) (ho : ∀ x S, fo ((wipeE en [q]).set q x) S = .ok (.d (.int off)) S) :
    ∃ (t : List Int) (S' : Store), fComp (iRange1 (sVar c)) (tgN q) bYes (sBin oSub (sCall f__law_draw (lCons (sVar i) (lCons fs lNil))) fo) [q] en S = .ok (t.map .int) S' ∧ t.length = n ∧ (∀ x ∈ t, -off ≤ x ∧ x < span - off) ∧ Sj j S S' ∧ Dr S' j (b + n) := by
  have hr : iRange1 (sVar c) en S = .ok (rng 0 n) S := iRange1_ok (sVar_ok hc) (by omega) (by omega)
  have ln : (rng 0 (n : Int)).length = n := by rw [rng_len]; omega
  obtain ⟨acc, S', e, h1, h2, h3, h4⟩ := comp_draws (fi := iRange1 (sVar c)) (G := tgN q) (vs := [q]) (f := sBin oSub (sCall f__law_draw (lCons (sVar i) (lCons fs lNil))) fo) (fun z => ∃ x, z = .int x ∧ (-off ≤ x ∧ x < span - off)) hr h (by omega) (by omega) (fun d S c hd hD hc => by
    have h0' : ((wipeE en [q]).set q (some (.d d)))[i]? = some (some (.o j)) := by
      show ((en.set q none).set q (some (.d d)))[i]? = _
      rw [List.getElem?_set_ne hq, List.getElem?_set_ne hq]
      exact h0
    obtain ⟨r, S', e, a1, a2, a3, a4⟩ := draw_at (f := fs) hD hc hs hs2 h0' (hf _)
    exact ⟨_, .int (r - off), S', rfl, sBin_ok e (ho _ _) rfl rfl rfl, a3, a4, _, rfl, by omega, by omega⟩)
  obtain ⟨t, rfl, ht⟩ := ints_of h2
  exact ⟨t, S', e, by simpa [ln] using h1, ht, h3, by rw [ln] at h4; exact h4⟩
theorem some_move_ok {m : Store} {j d : Nat} {b r : Int} (h : Dr m j b) (hd : 1 ≤ d ∧ d ≤ 3) (hb : b + 43 < 1000000) (hr : 1 ≤ r ∧ r ≤ 1000) : ∃ (A : Mt) (t : List Int) (v : Dv) (m' : Store), f__law_some_move [.o j, .d (.int d), .d (.int r)] m = .ok (.d v) m' ∧ Mv d A t v ∧ Sj j m m' ∧ Dr m' j (b + 43) := by
  obtain ⟨A, S1, e1, a1, a2, a3⟩ := turn_ok h hd (by omega)
  obtain ⟨t, S2, e2, b1, b2, b3, b4⟩ := spot_draws (en := start0 4 [.o j, .d (.int d), .d (.int r)]) (i := 0) (c := 1) (q := 3) (fs := sBin oAddP (sBin oMulP (sC (.int 2)) (sVar 2)) (sC (.int 1))) (fo := sVar 2) (span := 2 * r + 1) (off := r) a3 (by omega) (by omega) (by omega) (by omega) rfl rfl (by decide)
    (fun x S => sBin_ok (sBin_ok (sC_ok _) (sVar_ok rfl) rfl rfl (oMulP_i _ _ (by simp [mulOk]))) (sC_ok _) rfl rfl rfl) (fun x S => sVar_ok rfl)
  refine ⟨A, t, _, S2, (fn_d (m1 := S2) (d := .tup [.tup (tm A), trow t]) rfl (gRet_ok ?_)).trans ?_, ⟨rfl, a1, b1, fun x hx => by have := b2 x hx; omega⟩, a2.trans b3, b4.mono (by omega)⟩
  · exact tup_ok (lCons_ok (sCall_ok (lCons_ok (sVar_ok rfl) (lCons_ok (sVar_ok rfl) lNil_ok)) e1) (lCons_ok (sUn_ok (sF_ok e2) rfl rfl) lNil_ok)) rfl rfl
  · have : m.length = S2.length := ((a2.trans b3).len).symm
    rw [this, take_self]
end K21
end

section
set_option Elab.async false
set_option linter.all false
set_option maxRecDepth 100000
set_option maxHeartbeats 4000000
namespace K21
open PySem PySem.Spec PyProof.Rows L2 EvL EvH K21M
/-! bent: whatever comes out is tame and small -/
def El (x : Dv) : Prop := Sm 42 1 x ∧ tameR x
def Ro (x : Dv) : Prop := Sm 344 2 x ∧ tameR x
def Li (x : Dv) : Prop := Sm 2760 3 x ∧ tameL x
def Nc (x : Dv) : Prop := Sm 8283 4 x ∧ tameM x
theorem El.int {i : Int} (h : i.natAbs < 10 ^ 12) : El (.int i) := ⟨(Sm.int h).mono (by decide) (by decide), rfl, fun _ h => by cases h⟩
theorem El.bl (b : Bool) : El (.bl b) := ⟨(Sm.bl b).mono (by decide) (by decide), rfl, fun _ h => by cases h⟩
theorem El.non : El .non := ⟨Sm.non.mono (by decide) (by decide), rfl, fun _ h => by cases h⟩
theorem El.one : El (.str "1") := ⟨(Sm.str (z := "1") (by decide +kernel)).mono (by decide) (by decide), rfl, fun _ h => by cases h⟩
theorem El.tone : El (.tup [.int 1]) := ⟨Sm.tup (n := 1) (w := 41) (p := 0) (fun x hx => by simp at hx; subst hx; exact Sm.int (by decide)) (by simp), rfl, fun ys h => by cases h; exact ⟨by simp, fun y hy => by simp at hy; subst hy; rfl⟩⟩
theorem Ro.of {x : Dv} (h : El x) : Ro x := ⟨h.1.mono (by decide) (by decide), h.2⟩
theorem Ro.tup {xs : List Dv} (hl : xs.length ≤ 8) (h : ∀ x ∈ xs, El x) : Ro (.tup xs) := ⟨Sm.tup (n := 8) (fun x hx => (h x hx).1) hl, rfl, fun ys e => by cases e; exact ⟨by omega, fun y hy => (h y hy).2.1⟩⟩
theorem Ro.lst {xs : List Dv} (hl : xs.length ≤ 8) (h : ∀ x ∈ xs, El x) : Ro (.lst xs) := ⟨Sm.lst (n := 8) (fun x hx => (h x hx).1) hl, rfl, fun ys e => by cases e⟩
theorem Li.tup {xs : List Dv} (hl : xs.length ≤ 8) (h : ∀ x ∈ xs, Ro x) : Li (.tup xs) := ⟨Sm.tup (n := 8) (fun x hx => (h x hx).1) hl, rfl, fun ys e => by cases e; exact ⟨by omega, fun y hy => (h y hy).2⟩⟩
theorem Li.lst {xs : List Dv} (hl : xs.length ≤ 8) (h : ∀ x ∈ xs, Ro x) : Li (.lst xs) := ⟨Sm.lst (n := 8) (fun x hx => (h x hx).1) hl, rfl, fun ys e => by cases e⟩
theorem Li.non : Li .non := ⟨Sm.non.mono (by decide) (by decide), rfl, fun _ h => by cases h⟩
theorem Li.int {i : Int} (h : i.natAbs < 10 ^ 12) : Li (.int i) := ⟨(Sm.int h).mono (by decide) (by decide), rfl, fun _ h => by cases h⟩
theorem Nc.tup {xs : List Dv} (hl : xs.length ≤ 3) (h : ∀ x ∈ xs, Li x) : Nc (.tup xs) := ⟨Sm.tup (n := 3) (fun x hx => (h x hx).1) hl, rfl, fun ys e => by cases e; exact ⟨by omega, fun y hy => (h y hy).2⟩⟩
theorem Nc.lst {xs : List Dv} (hl : xs.length ≤ 3) (h : ∀ x ∈ xs, Li x) : Nc (.lst xs) := ⟨Sm.lst (n := 3) (fun x hx => (h x hx).1) hl, rfl, fun ys e => by cases e⟩
theorem Nc.non : Nc .non := ⟨Sm.non.mono (by decide) (by decide), rfl, fun _ h => by cases h⟩
theorem Nc.pair {a b : Dv} (ha : Li a) (hb : Li b) : Nc (.tup [a, b]) := Nc.tup (by simp) (by simp [ha, hb])
theorem cut_len {α : Type} (xs : List α) (lo hi : Option Int) : (EvL.cutD xs lo hi).length ≤ xs.length := by
  unfold EvL.cutD
  rw [List.length_take, List.length_drop]
  omega
theorem cut_mem {α : Type} {xs : List α} {lo hi : Option Int} {x : α} (h : x ∈ EvL.cutD xs lo hi) : x ∈ xs := List.mem_of_mem_drop (List.mem_of_mem_take h)
theorem rep_t {x : Dv} {d : Nat} (h : 1 ≤ d ∧ d ≤ 1000) : oMulP (.tup [x]) (.int d) = some (.tup (List.replicate d x)) := by
  by_cases h1 : d = 1
  · subst h1; rfl
  · have c : (decide ((2 : Int) ≤ d) && decide ((d : Int) ≤ 1000) && decide ([x].length ≤ 1000) && !([x] : List Dv).isEmpty) = true := by simp; omega
    have f : (List.replicate d [x]).flatten = List.replicate d x := by simp
    have e1 : (oRep1 (.tup [x]) (.int d)) = none := by simp [oRep1]; omega
    show (match (none : Option Dv) with | some d => some d | none => orO oRep1 (orO oRepT (frO oRepL)) (.tup [x]) (.int d)) = _
    simp only [orO, e1, oRepT, if_pos c, Int.toNat_natCast, f]
theorem rep_el {n : Nat} {x : Dv} {y : Dv} (h : y ∈ List.replicate n x) : y = x := List.eq_of_mem_replicate h
theorem row_el {b : Int} {A : Mt} (h : lim b A) (hb : b ≤ 1000) {r : List Int} (hr : r ∈ A) : ∀ x ∈ r.map Dv.int, El x := fun x hx => by
  obtain ⟨i, hi, rfl⟩ := List.mem_map.mp hx
  have := h r hr i hi
  exact El.int (by omega)
theorem row_ro {b : Int} {A : Mt} {d : Nat} (is : IsM d A) (hd : d ≤ 8) (h : lim b A) (hb : b ≤ 1000) : ∀ x ∈ tm A, Ro x := fun x hx => by
  obtain ⟨r, hr, rfl⟩ := List.mem_map.mp hx
  exact Ro.tup (by simp [is.row r hr]; omega) (row_el h hb hr)
theorem slT_ok {f : Sem1} {ol oh : SemO} {en : En} {m : Store} {xs : List Dv} {i j : Option Int} (h : f en m = .ok (.d (.tup xs)) m) (hl : ol en m = .ok i m) (hh : oh en m = .ok j m) : sSlP f ol oh en m = .ok (.d (.tup (EvL.cutD xs i j))) m := by
  simp [sSlP, sElse, sSlT, Rs.bind, h, hl, hh, rv_d]
theorem oYes_ok {f : Sem1} {en : En} {m : Store} {i : Int} (h : f en m = .ok (.d (.int i)) m) : oYes f en m = .ok (some i) m := by simp [oYes, Rs.bind, h, rv_d]
theorem cat_t {xs ys : List Dv} (h : xs.length + ys.length ≤ 1000) : oAddP (.tup xs) (.tup ys) = some (.tup (xs ++ ys)) := by
  have c : fits (xs.length + ys.length) = true := fits_le (by omega)
  show (match (none : Option Dv) with | some d => some d | none => orO oCatT (frO oCatL) (.tup xs) (.tup ys)) = _
  simp [orO, oCatT, c]
end K21
end

section
set_option Elab.async false
set_option linter.all false
set_option maxRecDepth 100000
set_option maxHeartbeats 4000000
namespace K21
open PySem PySem.Spec PyProof.Rows L2 EvL EvH K21M
theorem fUn_ok {op : Dv → Option (List Dv)} {fa : Sem1} {en : En} {m m1 : Store} {x : Sv} {a : Dv} {l : List Dv} (h : fa en m = .ok x m1) (hr : rv m1 x = some a) (ho : op a = some l) : fUn op fa en m = .ok l m1 := by simp [fUn, Rs.bind, h, hr, ho]
theorem cat_l {xs ys : List Dv} (h : xs.length + ys.length ≤ 1000) : oAddP (.lst xs) (.lst ys) = some (.lst (xs ++ ys)) := by
  have c : fits (xs.length + ys.length) = true := fits_le (by omega)
  show (match (none : Option Dv) with | some d => some d | none => orO oCatT (frO oCatL) (.lst xs) (.lst ys)) = _
  simp [orO, frO, oCatT, oCatL, c]
theorem rep_h {r : Dv} {l : List Dv} : oMulP (.tup (EvL.cutD (r :: l) none (some 1))) (.int 4) = some (.tup (List.replicate 4 [r]).flatten) := by
  have e : EvL.cutD (r :: l) none (some 1) = [r] := by simp [EvL.cutD, HT.sIx]
  rw [e]
  rfl
theorem all_cons {x : Dv} {l : List Dv} (h : Nc x) (hl : ∀ y ∈ l, Nc y) : ∀ y ∈ x :: l, Nc y := List.forall_mem_cons.mpr ⟨h, hl⟩
theorem all_nil : ∀ y ∈ ([] : List Dv), Nc y := by simp
theorem all_app {l l' : List Dv} (h : ∀ y ∈ l, Nc y) (h' : ∀ y ∈ l', Nc y) : ∀ y ∈ l ++ l', Nc y := fun y hy => (List.mem_append.mp hy).elim (h y) (h' y)
theorem all_rep {x : Dv} {n : Nat} (h : Nc x) : ∀ y ∈ (List.replicate n [x]).flatten, Nc y := fun y hy => by
  simp at hy
  rw [hy.2]
  exact h
theorem of_call {en : En} {S : Store} {j : Nat} {b : Int} {fl : Sem1} {xs : List Dv} {P : Dv → Prop} (h : Dr S j b) (hb : b < 1000000) (hx : xs ≠ []) (hx2 : xs.length < 1000000) (h0 : en[0]? = some (some (.o j))) (hf : fl en S = .ok (.d (.lst xs)) S) (hp : ∀ x ∈ xs, P x) : ∃ (x : Dv) (S' : Store), sCall f__law_of (lCons (sVar 0) (lCons fl lNil)) en S = .ok (.d x) S' ∧ P x ∧ Sj j S S' ∧ Dr S' j (b + 1) := by
  obtain ⟨k, x, S', e0, e, a3, a4⟩ := of_ok h hb hx hx2
  exact ⟨x, S', sCall_ok (lCons_ok (sVar_ok h0) (lCons_ok hf lNil_ok)) e, hp x (List.mem_of_getElem? e0), a3, a4⟩
theorem bent_ok {m : Store} {j d : Nat} {b : Int} {A : Mt} {t : List Int} {v : Dv} (hv : Mv d A t v) (hd : 1 ≤ d ∧ d ≤ 3) (h : Dr m j b) (hb : b + 5 < 1000000) : ∃ (x : Dv) (m' : Store), f__law_bent [.o j, .d v] m = .ok (.d x) m' ∧ Nc x ∧ Sj j m m' ∧ Dr m' j (b + 5) := by
  obtain ⟨rfl, tu, tl, ts⟩ := hv
  obtain ⟨is, lm, -⟩ := tu
  obtain ⟨r0, A', rfl⟩ : ∃ r l, A = r :: l := by
    cases A with
    | nil => have := is.len; simp at this; omega
    | cons r l => exact ⟨r, l, rfl⟩
  have hro : ∀ x ∈ tm (r0 :: A'), Ro x := row_ro is (by omega) lm (by decide)
  have hr0 : Ro (trow r0) := hro _ (by simp [tm])
  have hel : ∀ x ∈ t.map Dv.int, El x := fun x hx => by
    obtain ⟨i, hi, rfl⟩ := List.mem_map.mp hx
    have := ts i hi
    exact El.int (by omega)
  have hL : (tm (r0 :: A')).length = d := by simp only [tm, List.length_map]; exact is.len
  have hB : (t.map Dv.int).length = d := by simp [tl]
  have eL : tm (r0 :: A') = trow r0 :: tm A' := rfl
  generalize hLL : tm (r0 :: A') = L at *
  generalize hBB : t.map Dv.int = B at *
  have k0 := cut_len L none (some 1)
  have LL : Li (.tup L) := Li.tup (by omega) hro
  have LB : Li (.tup B) := Li.tup (by omega) (fun x hx => Ro.of (hel x hx))
  have LlB : Li (.lst B) := Li.lst (by omega) (fun x hx => Ro.of (hel x hx))
  have LlL : Li (.lst L) := Li.lst (by omega) hro
  have hm : oMulP (.tup (EvL.cutD L none (some 1))) (.int 4) = some (.tup (List.replicate 4 [trow r0]).flatten) := by rw [eL]; exact rep_h
  have n0 : Nc (.tup [.tup (L ++ EvL.cutD L none (some 1)), .tup B]) := Nc.pair (Li.tup (by simp only [List.length_append]; omega) fun x hx => (List.mem_append.mp hx).elim (hro x) (fun q => hro x (cut_mem q))) LB
  have LB0 : Li (.tup (B ++ [.int 0])) := Li.tup (by simp only [List.length_append, List.length_cons, List.length_nil]; omega) fun x hx => (List.mem_append.mp hx).elim (fun q => Ro.of (hel x q)) (fun q => by simp at q; subst q; exact Ro.of (El.int (by decide)))
  have Lr : ∀ e, El e → Li (.tup (List.replicate d e)) := fun e he => Li.tup (by simp; omega) fun x hx => by rw [rep_el hx]; exact Ro.of he
  have Lz : Li (.tup (List.replicate d (.tup (List.replicate d (.int 0))))) := Li.tup (by simp; omega) fun x hx => by rw [rep_el hx]; exact Ro.tup (by simp; omega) fun y hy => by rw [rep_el hy]; exact El.int (by decide)
  have Lq : Li (.tup (List.replicate 4 [trow r0]).flatten) := Li.tup (by simp) fun x hx => by simp at hx; rw [hx]; exact hr0
  have tB : trow t = .tup B := by rw [← hBB]; rfl
  rw [tB]
  have a1 : ∀ y ∈ ([.non, .tup [.tup L], .lst [.tup L, .tup B], .tup [.tup L, .tup B, .int 0], .tup [.lst L, .tup B], .tup [.tup (L ++ EvL.cutD L none (some 1)), .tup B], .tup [.tup L, .tup (B ++ [.int 0])], .tup [.tup L, .lst B]] : List Dv), Nc y := all_cons Nc.non (all_cons (Nc.tup (by simp) (by simp [LL])) (all_cons (Nc.lst (by simp) (by simp [LL, LB])) (all_cons (Nc.tup (by simp) (by simp [LL, LB, Li.int])) (all_cons (Nc.pair LlL LB) (all_cons n0 (all_cons (Nc.pair LL LB0) (all_cons (Nc.pair LL LlB) all_nil)))))))
  have a2 : ∀ y ∈ ([.tup [.tup [], .tup []], .tup [.tup L, .non], .tup [.tup L, .tup (List.replicate d (.int 1001))], .tup [.tup L, .tup (List.replicate d (.bl true))], .tup [.tup (List.replicate d (.tup (List.replicate d (.int 0)))), .non], .tup [.tup (List.replicate 4 [trow r0]).flatten, .tup B]] : List Dv), Nc y := all_cons (Nc.pair (Li.tup (by simp) (by simp)) (Li.tup (by simp) (by simp))) (all_cons (Nc.pair LL Li.non) (all_cons (Nc.pair LL (Lr _ (El.int (by decide)))) (all_cons (Nc.pair LL (Lr _ (El.bl _))) (all_cons (Nc.pair Lz Li.non) (all_cons (Nc.pair Lq LB) all_nil)))))
  have s0 : gAsg (sVar 1) (tgTup 2 (tgCons (tgN 2) (tgCons (tgN 3) tgNil))) (start0 13 [.o j, .d (.tup [.tup L, .tup B])]) m = .nx [some (.o j), some (.d (.tup [.tup L, .tup B])), some (.d (.tup L)), some (.d (.tup B)), none, none, none, none, none, none, none, none, none] m := gAsg_ok (sVar_ok rfl) rfl
  have s1 : (gSet 4 (sUn oLen (sVar 3))) [some (.o j), some (.d (.tup [.tup L, .tup B])), some (.d (.tup L)), some (.d (.tup B)), none, none, none, none, none, none, none, none, none] m = .nx [some (.o j), some (.d (.tup [.tup L, .tup B])), some (.d (.tup L)), some (.d (.tup B)), some (.d (.int d)), none, none, none, none, none, none, none, none] m := gSet_ok (sUn_ok (sVar_ok rfl) rfl (by simp [oLen, hB]))
  have s2 : (gSet 5 (sF (fLst (lCons (sC .non) (lCons (sTup (lCons (sVar 2) lNil)) (lCons (sF (fLst (lCons (sVar 2) (lCons (sVar 3) lNil)))) (lCons (sTup (lCons (sVar 2) (lCons (sVar 3) (lCons (sC (.int 0)) lNil)))) (lCons (sTup (lCons (sF (fUn oList (sVar 2))) (lCons (sVar 3) lNil))) (lCons (sTup (lCons (sBin oAddP (sVar 2) (sSlP (sVar 2) oNo (oYes (sC (.int 1))))) (lCons (sVar 3) lNil))) (lCons (sTup (lCons (sVar 2) (lCons (sBin oAddP (sVar 3) (sTup (lCons (sC (.int 0)) lNil))) lNil))) (lCons (sTup (lCons (sVar 2) (lCons (sF (fUn oList (sVar 3))) lNil))) lNil))))))))))) [some (.o j), some (.d (.tup [.tup L, .tup B])), some (.d (.tup L)), some (.d (.tup B)), some (.d (.int d)), none, none, none, none, none, none, none, none] m = .nx [some (.o j), some (.d (.tup [.tup L, .tup B])), some (.d (.tup L)), some (.d (.tup B)), some (.d (.int d)), some (.d (.lst [.non, .tup [.tup L], .lst [.tup L, .tup B], .tup [.tup L, .tup B, .int 0], .tup [.lst L, .tup B], .tup [.tup (L ++ EvL.cutD L none (some 1)), .tup B], .tup [.tup L, .tup (B ++ [.int 0])], .tup [.tup L, .lst B]])), none, none, none, none, none, none, none] m := gSet_ok (sF_ok (lst_ok (lCons_ok (sC_ok _) (lCons_ok (tup_ok (lCons_ok (sVar_ok rfl) lNil_ok) rfl rfl) (lCons_ok (sF_ok (lst_ok (lCons_ok (sVar_ok rfl) (lCons_ok (sVar_ok rfl) lNil_ok)) rfl rfl)) (lCons_ok (tup_ok (lCons_ok (sVar_ok rfl) (lCons_ok (sVar_ok rfl) (lCons_ok (sC_ok _) lNil_ok))) rfl rfl) (lCons_ok (tup_ok (lCons_ok (sF_ok (fUn_ok (sVar_ok rfl) rfl rfl)) (lCons_ok (sVar_ok rfl) lNil_ok)) rfl rfl) (lCons_ok (tup_ok (lCons_ok (sBin_ok (sVar_ok rfl) (slT_ok (sVar_ok rfl) rfl (oYes_ok (sC_ok _))) rfl rfl (cat_t (by (try simp only [List.length_append, List.length_cons, List.length_nil]); omega))) (lCons_ok (sVar_ok rfl) lNil_ok)) rfl rfl) (lCons_ok (tup_ok (lCons_ok (sVar_ok rfl) (lCons_ok (sBin_ok (sVar_ok rfl) (tup_ok (lCons_ok (sC_ok _) lNil_ok) rfl rfl) rfl rfl (cat_t (by (try simp only [List.length_append, List.length_cons, List.length_nil]); omega))) lNil_ok)) rfl rfl) (lCons_ok (tup_ok (lCons_ok (sVar_ok rfl) (lCons_ok (sF_ok (fUn_ok (sVar_ok rfl) rfl rfl)) lNil_ok)) rfl rfl) lNil_ok)))))))) rfl rfl))
  have s3 : (gSet 5 (sBin oAddP (sVar 5) (sF (fLst (lCons (sTup (lCons (sTup lNil) (lCons (sTup lNil) lNil))) (lCons (sTup (lCons (sVar 2) (lCons (sC .non) lNil))) (lCons (sTup (lCons (sVar 2) (lCons (sBin oMulP (sTup (lCons (sC (.int 1001)) lNil)) (sVar 4)) lNil))) (lCons (sTup (lCons (sVar 2) (lCons (sBin oMulP (sTup (lCons (sC (.bl true)) lNil)) (sVar 4)) lNil))) (lCons (sTup (lCons (sBin oMulP (sTup (lCons (sBin oMulP (sTup (lCons (sC (.int 0)) lNil)) (sVar 4)) lNil)) (sVar 4)) (lCons (sC .non) lNil))) (lCons (sTup (lCons (sBin oMulP (sSlP (sVar 2) oNo (oYes (sC (.int 1)))) (sC (.int 4))) (lCons (sVar 3) lNil))) lNil)))))))))) [some (.o j), some (.d (.tup [.tup L, .tup B])), some (.d (.tup L)), some (.d (.tup B)), some (.d (.int d)), some (.d (.lst [.non, .tup [.tup L], .lst [.tup L, .tup B], .tup [.tup L, .tup B, .int 0], .tup [.lst L, .tup B], .tup [.tup (L ++ EvL.cutD L none (some 1)), .tup B], .tup [.tup L, .tup (B ++ [.int 0])], .tup [.tup L, .lst B]])), none, none, none, none, none, none, none] m = .nx [some (.o j), some (.d (.tup [.tup L, .tup B])), some (.d (.tup L)), some (.d (.tup B)), some (.d (.int d)), some (.d (.lst ([.non, .tup [.tup L], .lst [.tup L, .tup B], .tup [.tup L, .tup B, .int 0], .tup [.lst L, .tup B], .tup [.tup (L ++ EvL.cutD L none (some 1)), .tup B], .tup [.tup L, .tup (B ++ [.int 0])], .tup [.tup L, .lst B]] ++ [.tup [.tup [], .tup []], .tup [.tup L, .non], .tup [.tup L, .tup (List.replicate d (.int 1001))], .tup [.tup L, .tup (List.replicate d (.bl true))], .tup [.tup (List.replicate d (.tup (List.replicate d (.int 0)))), .non], .tup [.tup (List.replicate 4 [trow r0]).flatten, .tup B]]))), none, none, none, none, none, none, none] m := gSet_ok (sBin_ok (sVar_ok rfl) (sF_ok (lst_ok (lCons_ok (tup_ok (lCons_ok (tup_ok lNil_ok rfl rfl) (lCons_ok (tup_ok lNil_ok rfl rfl) lNil_ok)) rfl rfl) (lCons_ok (tup_ok (lCons_ok (sVar_ok rfl) (lCons_ok (sC_ok _) lNil_ok)) rfl rfl) (lCons_ok (tup_ok (lCons_ok (sVar_ok rfl) (lCons_ok (sBin_ok (tup_ok (lCons_ok (sC_ok _) lNil_ok) rfl rfl) (sVar_ok rfl) rfl rfl (rep_t (by omega))) lNil_ok)) rfl rfl) (lCons_ok (tup_ok (lCons_ok (sVar_ok rfl) (lCons_ok (sBin_ok (tup_ok (lCons_ok (sC_ok _) lNil_ok) rfl rfl) (sVar_ok rfl) rfl rfl (rep_t (by omega))) lNil_ok)) rfl rfl) (lCons_ok (tup_ok (lCons_ok (sBin_ok (tup_ok (lCons_ok (sBin_ok (tup_ok (lCons_ok (sC_ok _) lNil_ok) rfl rfl) (sVar_ok rfl) rfl rfl (rep_t (by omega))) lNil_ok) rfl rfl) (sVar_ok rfl) rfl rfl (rep_t (by omega))) (lCons_ok (sC_ok _) lNil_ok)) rfl rfl) (lCons_ok (tup_ok (lCons_ok (sBin_ok (slT_ok (sVar_ok rfl) rfl (oYes_ok (sC_ok _))) (sC_ok _) rfl rfl hm) (lCons_ok (sVar_ok rfl) lNil_ok)) rfl rfl) lNil_ok)))))) rfl rfl)) rfl rfl (cat_l (by (try simp only [List.length_append, List.length_cons, List.length_nil, List.length_flatten, List.map_replicate, List.sum_replicate_nat]); omega)))
  have a3 := all_app a1 a2
  generalize hK : ([.non, .tup [.tup L], .lst [.tup L, .tup B], .tup [.tup L, .tup B, .int 0], .tup [.lst L, .tup B], .tup [.tup (L ++ EvL.cutD L none (some 1)), .tup B], .tup [.tup L, .tup (B ++ [.int 0])], .tup [.tup L, .lst B]] ++ [.tup [.tup [], .tup []], .tup [.tup L, .non], .tup [.tup L, .tup (List.replicate d (.int 1001))], .tup [.tup L, .tup (List.replicate d (.bl true))], .tup [.tup (List.replicate d (.tup (List.replicate d (.int 0)))), .non], .tup [.tup (List.replicate 4 [trow r0]).flatten, .tup B]] : List Dv) = K at s3 a3
  have kl : K.length = 14 := by rw [← hK]; rfl
  obtain ⟨r1, S1, e1, b1, b2, b3, b4⟩ := draw_at (en := [some (.o j), some (.d (.tup [.tup L, .tup B])), some (.d (.tup L)), some (.d (.tup B)), some (.d (.int d)), some (.d (.lst K)), none, none, none, none, none, none, none]) (i := 0) (f := sVar 4) (span := d) h (by omega) (by omega) (by omega) rfl (fun _ => sVar_ok rfl)
  obtain ⟨r2, S2, e2, c1, c2, c3, c4⟩ := draw_at (en := [some (.o j), some (.d (.tup [.tup L, .tup B])), some (.d (.tup L)), some (.d (.tup B)), some (.d (.int d)), some (.d (.lst K)), none, none, none, none, none, none, none]) (i := 0) (f := sVar 4) (span := d) b4 (by omega) (by omega) (by omega) rfl (fun _ => sVar_ok rfl)
  have s4 : (gPar 6 7 (lCons (sCall f__law_draw (lCons (sVar 0) (lCons (sVar 4) lNil))) (lCons (sCall f__law_draw (lCons (sVar 0) (lCons (sVar 4) lNil))) lNil))) [some (.o j), some (.d (.tup [.tup L, .tup B])), some (.d (.tup L)), some (.d (.tup B)), some (.d (.int d)), some (.d (.lst K)), none, none, none, none, none, none, none] m = .nx [some (.o j), some (.d (.tup [.tup L, .tup B])), some (.d (.tup L)), some (.d (.tup B)), some (.d (.int d)), some (.d (.lst K)), some (.d (.int r1)), some (.d (.int r2)), none, none, none, none, none] S2 := gPar_ok (lCons_ok e1 (lCons_ok e2 lNil_ok))
  obtain ⟨row, hrow, hrl, -⟩ := gmat is (p := r1.toNat) (by omega)
  have hLr : L[r1.toNat]? = some (trow row) := by
    rw [← hLL]
    unfold tm
    rw [List.getElem?_map, hrow]
    rfl
  have hmem : row ∈ r0 :: A' := List.mem_of_getElem? hrow
  obtain ⟨x0, hx0⟩ : ∃ x, row[r2.toNat]? = some x := ⟨_, List.getElem?_eq_getElem (by omega)⟩
  have hxs := lm row hmem x0 (List.mem_of_getElem? hx0)
  have hRe : ∀ y ∈ row.map Dv.int, El y := row_el lm (by decide) hmem
  have hi1 : oIx (.tup L) (.int r1) = some (trow row) := oIx_t b1 hLr
  have hi2 : oIx (trow row) (.int r2) = some (.int x0) := oIx_t c1 (by simp [hx0])
  have hR : (row.map Dv.int).length = d := by simp [hrl]
  have tR : trow row = .tup (row.map Dv.int) := rfl
  rw [tR] at hi1 hi2 hLr
  generalize row.map Dv.int = R at *
  obtain ⟨odd, S3, e3, od, d3, d4⟩ := of_call (P := El) (en := [some (.o j), some (.d (.tup [.tup L, .tup B])), some (.d (.tup L)), some (.d (.tup B)), some (.d (.int d)), some (.d (.lst K)), some (.d (.int r1)), some (.d (.int r2)), none, none, none, none, none]) (fl := (sF (fLst (lCons (sC (.int 1001)) (lCons (sUn oNeg (sC (.int 1001))) (lCons (sC .non) (lCons (sC (.bl true)) (lCons (sC (.str "1")) (lCons (sTup (lCons (sC (.int 1)) lNil)) (lCons (sBin oAddP (sBin oIx (sBin oIx (sVar 2) (sVar 6)) (sVar 7)) (sC (.int 1))) (lCons (sC (.int 2)) lNil))))))))))) (xs := [.int 1001, .int (-1001), .non, .bl true, .str "1", .tup [.int 1], .int (x0 + 1), .int 2]) c4 (by omega) (by simp) (by simp) rfl (sF_ok (lst_ok (lCons_ok (sC_ok _) (lCons_ok (sUn_ok (sC_ok _) rfl rfl) (lCons_ok (sC_ok _) (lCons_ok (sC_ok _) (lCons_ok (sC_ok _) (lCons_ok (tup_ok (lCons_ok (sC_ok _) lNil_ok) rfl rfl) (lCons_ok (sBin_ok (sBin_ok (sBin_ok (sVar_ok rfl) (sVar_ok rfl) rfl rfl hi1) (sVar_ok rfl) rfl rfl hi2) (sC_ok _) rfl rfl rfl) (lCons_ok (sC_ok _) lNil_ok)))))))) rfl rfl)) (by
    intro x hx
    simp at hx
    rcases hx with rfl | rfl | rfl | rfl | rfl | rfl | rfl | rfl
    · exact El.int (by decide)
    · exact El.int (by decide)
    · exact El.non
    · exact El.bl _
    · exact El.one
    · exact El.tone
    · exact El.int (by omega)
    · exact El.int (by decide))
  have s5 : (gSet 8 (sCall f__law_of (lCons (sVar 0) (lCons (sF (fLst (lCons (sC (.int 1001)) (lCons (sUn oNeg (sC (.int 1001))) (lCons (sC .non) (lCons (sC (.bl true)) (lCons (sC (.str "1")) (lCons (sTup (lCons (sC (.int 1)) lNil)) (lCons (sBin oAddP (sBin oIx (sBin oIx (sVar 2) (sVar 6)) (sVar 7)) (sC (.int 1))) (lCons (sC (.int 2)) lNil)))))))))) lNil)))) [some (.o j), some (.d (.tup [.tup L, .tup B])), some (.d (.tup L)), some (.d (.tup B)), some (.d (.int d)), some (.d (.lst K)), some (.d (.int r1)), some (.d (.int r2)), none, none, none, none, none] S2 = .nx [some (.o j), some (.d (.tup [.tup L, .tup B])), some (.d (.tup L)), some (.d (.tup B)), some (.d (.int d)), some (.d (.lst K)), some (.d (.int r1)), some (.d (.int r2)), some (.d odd), none, none, none, none] S3 := gSet_ok e3
  have s6 : (gPar 9 10 (lCons (sBin oIx (sVar 2) (sVar 6)) (lCons (sSlP (sVar 2) (oYes (sBin oAddP (sVar 6) (sC (.int 1)))) oNo) lNil))) [some (.o j), some (.d (.tup [.tup L, .tup B])), some (.d (.tup L)), some (.d (.tup B)), some (.d (.int d)), some (.d (.lst K)), some (.d (.int r1)), some (.d (.int r2)), some (.d odd), none, none, none, none] S3 = .nx [some (.o j), some (.d (.tup [.tup L, .tup B])), some (.d (.tup L)), some (.d (.tup B)), some (.d (.int d)), some (.d (.lst K)), some (.d (.int r1)), some (.d (.int r2)), some (.d odd), some (.d (.tup R)), some (.d (.tup (EvL.cutD L (some (r1 + 1)) none))), none, none] S3 := gPar_ok (lCons_ok (sBin_ok (sVar_ok rfl) (sVar_ok rfl) rfl rfl hi1) (lCons_ok (slT_ok (sVar_ok rfl) (oYes_ok (sBin_ok (sVar_ok rfl) (sC_ok _) rfl rfl rfl)) rfl) lNil_ok))
  have k1 := cut_len L none (some r1)
  have k2 := cut_len L (some (r1 + 1)) none
  have k3 := cut_len R none (some r2)
  have k4 := cut_len R (some (r2 + 1)) none
  have R1 : Ro (.tup (EvL.cutD R none (some r2) ++ [odd] ++ EvL.cutD R (some (r2 + 1)) none)) := Ro.tup (by simp only [List.length_append, List.length_cons, List.length_nil]; omega) fun x hx => by
    simp only [List.mem_append, List.mem_singleton] at hx
    rcases hx with (hx | rfl) | hx
    · exact hRe x (cut_mem hx)
    · exact od
    · exact hRe x (cut_mem hx)
  have LX : ∀ y, Ro y → Li (.tup (EvL.cutD L none (some r1) ++ [y] ++ EvL.cutD L (some (r1 + 1)) none)) := fun y hy => Li.tup (by simp only [List.length_append, List.length_cons, List.length_nil]; omega) fun x hx => by
    simp only [List.mem_append, List.mem_singleton] at hx
    rcases hx with (hx | rfl) | hx
    · exact hro x (cut_mem hx)
    · exact hy
    · exact hro x (cut_mem hx)
  have s7 : (gSet 11 (sBin oAddP (sBin oAddP (sSlP (sVar 2) oNo (oYes (sVar 6))) (sTup (lCons (sBin oAddP (sBin oAddP (sSlP (sVar 9) oNo (oYes (sVar 7))) (sTup (lCons (sVar 8) lNil))) (sSlP (sVar 9) (oYes (sBin oAddP (sVar 7) (sC (.int 1)))) oNo)) lNil))) (sVar 10))) [some (.o j), some (.d (.tup [.tup L, .tup B])), some (.d (.tup L)), some (.d (.tup B)), some (.d (.int d)), some (.d (.lst K)), some (.d (.int r1)), some (.d (.int r2)), some (.d odd), some (.d (.tup R)), some (.d (.tup (EvL.cutD L (some (r1 + 1)) none))), none, none] S3 = .nx [some (.o j), some (.d (.tup [.tup L, .tup B])), some (.d (.tup L)), some (.d (.tup B)), some (.d (.int d)), some (.d (.lst K)), some (.d (.int r1)), some (.d (.int r2)), some (.d odd), some (.d (.tup R)), some (.d (.tup (EvL.cutD L (some (r1 + 1)) none))), some (.d (.tup (EvL.cutD L none (some r1) ++ [.tup (EvL.cutD R none (some r2) ++ [odd] ++ EvL.cutD R (some (r2 + 1)) none)] ++ EvL.cutD L (some (r1 + 1)) none))), none] S3 := gSet_ok (sBin_ok (sBin_ok (slT_ok (sVar_ok rfl) rfl (oYes_ok (sVar_ok rfl))) (tup_ok (lCons_ok (sBin_ok (sBin_ok (slT_ok (sVar_ok rfl) rfl (oYes_ok (sVar_ok rfl))) (tup_ok (lCons_ok (sVar_ok rfl) lNil_ok) rfl rfl) rfl rfl (cat_t (by (try simp only [List.length_append, List.length_cons, List.length_nil]); omega))) (slT_ok (sVar_ok rfl) (oYes_ok (sBin_ok (sVar_ok rfl) (sC_ok _) rfl rfl rfl)) rfl) rfl rfl (cat_t (by (try simp only [List.length_append, List.length_cons, List.length_nil]); omega))) lNil_ok) rfl rfl) rfl rfl (cat_t (by (try simp only [List.length_append, List.length_cons, List.length_nil]); omega))) (sVar_ok rfl) rfl rfl (cat_t (by (try simp only [List.length_append, List.length_cons, List.length_nil]); omega)))
  have LBt := LX _ R1
  generalize hbt : (Dv.tup (EvL.cutD L none (some r1) ++ [.tup (EvL.cutD R none (some r2) ++ [odd] ++ EvL.cutD R (some (r2 + 1)) none)] ++ EvL.cutD L (some (r1 + 1)) none)) = bt at s7 LBt
  obtain ⟨y, S4, e4, yr, f3, f4⟩ := of_call (P := Ro) (en := [some (.o j), some (.d (.tup [.tup L, .tup B])), some (.d (.tup L)), some (.d (.tup B)), some (.d (.int d)), some (.d (.lst K)), some (.d (.int r1)), some (.d (.int r2)), some (.d odd), some (.d (.tup R)), some (.d (.tup (EvL.cutD L (some (r1 + 1)) none))), some (.d bt), none]) (fl := (sF (fLst (lCons (sC .non) (lCons (sBin oAddP (sVar 9) (sTup (lCons (sC (.int 0)) lNil))) (lCons (sF (fUn oList (sVar 9))) (lCons (sTup lNil) lNil))))))) (xs := [.non, .tup (R ++ [.int 0]), .lst R, .tup []]) d4 (by omega) (by simp) (by simp) rfl (sF_ok (lst_ok (lCons_ok (sC_ok _) (lCons_ok (sBin_ok (sVar_ok rfl) (tup_ok (lCons_ok (sC_ok _) lNil_ok) rfl rfl) rfl rfl (cat_t (by (try simp only [List.length_append, List.length_cons, List.length_nil]); omega))) (lCons_ok (sF_ok (fUn_ok (sVar_ok rfl) rfl rfl)) (lCons_ok (tup_ok lNil_ok rfl rfl) lNil_ok)))) rfl rfl)) (by
    intro x hx
    simp only [List.mem_cons, List.not_mem_nil, or_false] at hx
    rcases hx with rfl | rfl | rfl | rfl
    · exact Ro.of El.non
    · exact Ro.tup (by simp only [List.length_append, List.length_cons, List.length_nil]; omega) fun x hx => (List.mem_append.mp hx).elim (hRe x) (fun q => by simp at q; subst q; exact El.int (by decide))
    · exact Ro.lst (by omega) hRe
    · exact Ro.tup (by simp) (by simp))
  have s8 : (gSet 12 (sBin oAddP (sBin oAddP (sSlP (sVar 2) oNo (oYes (sVar 6))) (sTup (lCons (sCall f__law_of (lCons (sVar 0) (lCons (sF (fLst (lCons (sC .non) (lCons (sBin oAddP (sVar 9) (sTup (lCons (sC (.int 0)) lNil))) (lCons (sF (fUn oList (sVar 9))) (lCons (sTup lNil) lNil)))))) lNil))) lNil))) (sVar 10))) [some (.o j), some (.d (.tup [.tup L, .tup B])), some (.d (.tup L)), some (.d (.tup B)), some (.d (.int d)), some (.d (.lst K)), some (.d (.int r1)), some (.d (.int r2)), some (.d odd), some (.d (.tup R)), some (.d (.tup (EvL.cutD L (some (r1 + 1)) none))), some (.d bt), none] S3 = .nx [some (.o j), some (.d (.tup [.tup L, .tup B])), some (.d (.tup L)), some (.d (.tup B)), some (.d (.int d)), some (.d (.lst K)), some (.d (.int r1)), some (.d (.int r2)), some (.d odd), some (.d (.tup R)), some (.d (.tup (EvL.cutD L (some (r1 + 1)) none))), some (.d bt), some (.d (.tup (EvL.cutD L none (some r1) ++ [y] ++ EvL.cutD L (some (r1 + 1)) none)))] S4 := gSet_ok (sBin_ok (sBin_ok (slT_ok (sVar_ok rfl) rfl (oYes_ok (sVar_ok rfl))) (tup_ok (lCons_ok e4 lNil_ok) rfl rfl) rfl rfl (cat_t (by (try simp only [List.length_append, List.length_cons, List.length_nil]); omega))) (sVar_ok rfl) rfl rfl (cat_t (by (try simp only [List.length_append, List.length_cons, List.length_nil]); omega)))
  have LLs := LX _ yr
  generalize hls : (Dv.tup (EvL.cutD L none (some r1) ++ [y] ++ EvL.cutD L (some (r1 + 1)) none)) = ls at s8 LLs
  obtain ⟨z, S5, e5, zn, g3, g4⟩ := of_call (P := Nc) (en := [some (.o j), some (.d (.tup [.tup L, .tup B])), some (.d (.tup L)), some (.d (.tup B)), some (.d (.int d)), some (.d (.lst K)), some (.d (.int r1)), some (.d (.int r2)), some (.d odd), some (.d (.tup R)), some (.d (.tup (EvL.cutD L (some (r1 + 1)) none))), some (.d bt), some (.d ls)]) (fl := (sBin oAddP (sBin oAddP (sBin oAddP (sVar 5) (sBin oMulP (sF (fLst (lCons (sTup (lCons (sVar 11) (lCons (sVar 3) lNil))) lNil))) (sC (.int 6)))) (sBin oMulP (sF (fLst (lCons (sTup (lCons (sVar 12) (lCons (sVar 3) lNil))) lNil))) (sC (.int 2)))) (sF (fLst (lCons (sTup (lCons (sVar 11) (lCons (sC .non) lNil))) (lCons (sTup (lCons (sVar 12) (lCons (sC (.int 0)) lNil))) lNil)))))) (xs := (((K ++ (List.replicate 6 [.tup [bt, .tup B]]).flatten) ++ (List.replicate 2 [.tup [ls, .tup B]]).flatten) ++ [.tup [bt, .non], .tup [ls, .int 0]])) f4 (by omega) (by simp) (by simp [kl]) rfl (sBin_ok (sBin_ok (sBin_ok (sVar_ok rfl) (sBin_ok (sF_ok (lst_ok (lCons_ok (tup_ok (lCons_ok (sVar_ok rfl) (lCons_ok (sVar_ok rfl) lNil_ok)) rfl rfl) lNil_ok) rfl rfl)) (sC_ok _) rfl rfl rfl) rfl rfl (cat_l (by (try simp only [List.length_append, List.length_cons, List.length_nil, List.length_flatten, List.map_replicate, List.sum_replicate_nat]); omega))) (sBin_ok (sF_ok (lst_ok (lCons_ok (tup_ok (lCons_ok (sVar_ok rfl) (lCons_ok (sVar_ok rfl) lNil_ok)) rfl rfl) lNil_ok) rfl rfl)) (sC_ok _) rfl rfl rfl) rfl rfl (cat_l (by (try simp only [List.length_append, List.length_cons, List.length_nil, List.length_flatten, List.map_replicate, List.sum_replicate_nat]); omega))) (sF_ok (lst_ok (lCons_ok (tup_ok (lCons_ok (sVar_ok rfl) (lCons_ok (sC_ok _) lNil_ok)) rfl rfl) (lCons_ok (tup_ok (lCons_ok (sVar_ok rfl) (lCons_ok (sC_ok _) lNil_ok)) rfl rfl) lNil_ok)) rfl rfl)) rfl rfl (cat_l (by (try simp only [List.length_append, List.length_cons, List.length_nil, List.length_flatten, List.map_replicate, List.sum_replicate_nat]); omega))) (all_app (all_app (all_app a3 (all_rep (Nc.pair LBt LB))) (all_rep (Nc.pair LLs LB))) (all_cons (Nc.pair LBt Li.non) (all_cons (Nc.pair LLs (Li.int (by decide))) all_nil)))
  have sj : Sj j m S5 := (((b3.trans c3).trans d3).trans f3).trans g3
  refine ⟨z, S5, (fn_d (m1 := S5) (d := z) rfl ?_).trans ?_, zn, sj, g4.mono (by omega)⟩
  · exact (gSeq_ok s0).trans ((gSeq_ok s1).trans ((gSeq_ok s2).trans ((gSeq_ok s3).trans ((gSeq_ok s4).trans ((gSeq_ok s5).trans ((gSeq_ok s6).trans ((gSeq_ok s7).trans ((gSeq_ok s8).trans (gRet_ok e5)))))))))
  · have : m.length = S5.length := sj.len.symm
    rw [this, take_self]
end K21
end

section
set_option Elab.async false
set_option linter.all false
set_option maxRecDepth 100000
set_option maxHeartbeats 4000000
namespace K21
open PySem PySem.Spec PyProof.Rows L2 EvL EvH K21M
theorem slL_ok {f : Sem1} {ol oh : SemO} {en : En} {m : Store} {ns : List Int} {i j : Option Int} (h : f en m = .ok (.d (.scr ns)) m) (hl : ol en m = .ok i m) (hh : oh en m = .ok j m) : sSlP f ol oh en m = .ok (.d (.lst (EvL.cutD (ns.map Dv.int) i j))) m := by
  simp [sSlP, sElse, sSlT, fSlL, sF, Rs.bind, h, hl, hh, rv_d]
def isGt (d : Dv) : Bool := match d with
  | .int i => decide (10 ^ 18 ≤ i)
  | _ => false
theorem ints_get {l : List Int} {d : Dv} (h : d ∈ l.map Dv.int) : ∃ i, d = .int i := by
  obtain ⟨i, _, rfl⟩ := List.mem_map.mp h
  exact ⟨i, rfl⟩
theorem fn_dic {ns np : Nat} {g : SemS} {ws : List Sv} {m : Store} {y : So} {kvs : List (Key × Dv)} (hn : ws.length = np) (hg : g (start0 ns ws) m = .rt (.o (m.length + 1)) (m ++ [y] ++ [.dic kvs])) : fnS ns np g ws m = .ok (.o m.length) (m ++ [.dic kvs]) := by
  unfold fnS
  rw [if_pos hn, hg]
  have e : (m ++ [y] ++ [So.dic kvs])[m.length + 1]? = some (.dic kvs) := by simp
  have t : (m ++ [y] ++ [So.dic kvs]).take m.length = m := by rw [List.append_assoc, take_app]
  simp only [fnEnd, e, t, if_neg (show ¬ m.length + 1 < m.length by omega)]
theorem begun_ok {ns : List Int} {k : Nat} {m : Store} (h : ns.length ≤ 63) (hk : k ≤ 3) : ∃ x, f__law_begun [.d (.scr ns), .d (.int k)] m = .ok (.o m.length) (m ++ [x]) ∧ Dr (m ++ [x]) m.length 0 := by
  have h1 : ∃ cs : List Int, (EvL.cutD (ns.map Dv.int) (some k) none ++ EvL.cutD (ns.map Dv.int) none (some k)) = cs.map Dv.int ∧ cs.length ≤ 126 := by
    obtain ⟨cs, e, _⟩ := ints_of (P := fun _ => True) (l := EvL.cutD (ns.map Dv.int) (some k) none ++ EvL.cutD (ns.map Dv.int) none (some k)) (fun z hz => by
      rcases List.mem_append.mp hz with q | q
      · obtain ⟨i, rfl⟩ := ints_get (cut_mem q); exact ⟨i, rfl, trivial⟩
      · obtain ⟨i, rfl⟩ := ints_get (cut_mem q); exact ⟨i, rfl, trivial⟩)
    refine ⟨cs, e, ?_⟩
    have l1 := cut_len (ns.map Dv.int) (some (k : Int)) none
    have l2 := cut_len (ns.map Dv.int) none (some (k : Int))
    have := congrArg List.length e
    simp only [List.length_append, List.length_map] at this l1 l2
    omega
  obtain ⟨cs, hcs, hcl⟩ := h1
  have g1 : fComp (iSeq (sVar 0)) (tgN 5) (sT (sBin oGe (sVar 5) (sBin oPow (sC (.int 10)) (sC (.int 18))))) (sVar 5) [5] [some (.d (.scr ns)), some (.d (.int k)), some (.d (.lst (cs.map Dv.int))), none, none, none] m = .ok (((ns.map Dv.int).filter isGt).map fun d => d) m := by
    refine comp_pure _ _ (iSeq_s (sVar_ok rfl)) (by simp; omega) fun d acc hd => ?_
    obtain ⟨i, rfl⟩ := ints_get hd
    exact ⟨_, rfl, sT_ok (sBin_ok (sVar_ok rfl) (sBin_ok (d := .int (10 ^ 18)) (sC_ok _) (sC_ok _) rfl rfl (by simp [iopC, powOk])) rfl rfl rfl), fun _ => sVar_ok rfl⟩
  rw [List.map_id'] at g1
  generalize hG : (ns.map Dv.int).filter isGt = G at g1
  have hg : ∀ x ∈ G, ∃ i : Int, x = .int i ∧ 0 ≤ i := fun x hx => by
    rw [← hG, List.mem_filter] at hx
    obtain ⟨i, rfl⟩ := ints_get hx.1
    have := hx.2
    simp only [isGt, decide_eq_true_eq] at this
    exact ⟨i, rfl, by omega⟩
  obtain ⟨en', m', l1, ⟨s, o5, rfl⟩, rfl⟩ := loop_nx (G := tgN 5) (body := gSet 4 (sBin oMod (sUn oInt (sBin oAddP (sBin oMulP (sVar 4) (sC (.int 48271))) (sVar 5))) (sC (.int 2147483647)))) (xs := cs.map Dv.int) (fun i en S => (∃ s o5, en = [some (.d (.scr ns)), some (.d (.int k)), some (.d (.lst (cs.map Dv.int))), some (.o m.length), some (.d (.int s)), o5]) ∧ S = m ++ [.lst G])
    (fun i d en S hd hI => by
      obtain ⟨⟨s, o5, rfl⟩, rfl⟩ := hI
      obtain ⟨c, rfl⟩ := ints_get (List.mem_of_getElem? hd)
      exact ⟨_, rfl, _, _, .inl (gSet_ok (sBin_ok (sUn_ok (sBin_ok (sBin_ok (sVar_ok rfl) (sC_ok _) rfl rfl (oMulP_i _ _ (by simp [mulOk]))) (sVar_ok rfl) rfl rfl rfl) rfl rfl) (sC_ok _) rfl rfl rfl)), ⟨_, _, rfl⟩, rfl⟩) (en := [some (.d (.scr ns)), some (.d (.int k)), some (.d (.lst (cs.map Dv.int))), some (.o m.length), some (.d (.int (91 + k))), none]) (m := m ++ [.lst G]) ⟨⟨_, _, rfl⟩, rfl⟩
  have rvG : ∀ x, rv (m ++ [.lst G] ++ [x]) (.o m.length) = some (.lst G) := fun x => by simp [rv]
  obtain ⟨L, hL, eL⟩ : ∃ L : Int, 0 ≤ L ∧ sIf (sT (sBin oLt (sVar 1) (sUn oLen (sVar 3)))) (sBin oIx (sVar 3) (sVar 1)) (sC (.int 0)) [some (.d (.scr ns)), some (.d (.int k)), some (.d (.lst (cs.map Dv.int))), some (.o m.length), some (.d (.int s)), o5] (m ++ [.lst G] ++ [.dic []]) = .ok (.d (.int L)) (m ++ [.lst G] ++ [.dic []]) := by
    have t : sT (sBin oLt (sVar 1) (sUn oLen (sVar 3))) [some (.d (.scr ns)), some (.d (.int k)), some (.d (.lst (cs.map Dv.int))), some (.o m.length), some (.d (.int s)), o5] (m ++ [.lst G] ++ [.dic []]) = .ok (decide ((k : Int) < G.length)) (m ++ [.lst G] ++ [.dic []]) := sT_ok (sBin_ok (sVar_ok rfl) (sUn_ok (sVar_ok rfl) (rvG _) rfl) rfl rfl rfl)
    by_cases hk : k < G.length
    · obtain ⟨i, hi, h0⟩ := hg G[k] (List.getElem_mem _)
      refine ⟨i, h0, ?_⟩
      rw [if_ok t, decide_eq_true (by omega)]
      exact sBin_ok (sVar_ok rfl) (sVar_ok rfl) (rvG _) rfl (by rw [← hi]; exact oIx_l (by omega) (by simp [hk]))
    · refine ⟨0, by omega, ?_⟩
      rw [if_ok t, decide_eq_false (by omega)]
      rfl
  refine ⟨.dic (dk L s (cs ++ [61 * (k : Int) + 17]) 0), fn_dic (y := .lst G) rfl ?_, ⟨L, s, cs ++ [61 * (k : Int) + 17], 0, get_push _ _, hL, by simp, by simp; omega, by omega, by omega⟩⟩
  have cl := cut_len (ns.map Dv.int) (some (k : Int)) none
  have cl2 := cut_len (ns.map Dv.int) none (some (k : Int))
  simp only [List.length_map] at cl cl2
  refine (gSeq_ok (gSet_ok (x := .d (.lst (cs.map Dv.int))) (sBin_ok (slL_ok (sVar_ok rfl) (oYes_ok (sVar_ok rfl)) rfl) (slL_ok (sVar_ok rfl) rfl (oYes_ok (sVar_ok rfl))) rfl rfl (by rw [cat_l (by omega), hcs])))).trans ?_
  refine (gSeq_ok (gNew_ok g1)).trans ((gSeq_ok (gSet_ok (sBin_ok (sC_ok _) (sVar_ok rfl) rfl rfl rfl))).trans ((gSeq_ok ((gFor_ok (iSeq_d (sVar_ok rfl))).trans l1)).trans (gRet_ok ?_)))
  have ca : sBin oAddP (sVar 2) (sF (fLst (lCons (sBin oAddP (sBin oMulP (sC (.int 61)) (sVar 1)) (sC (.int 17))) lNil))) [some (.d (.scr ns)), some (.d (.int k)), some (.d (.lst (cs.map Dv.int))), some (.o m.length), some (.d (.int s)), o5] (m ++ [.lst G] ++ [.dic []]) = .ok (.d (.lst ((cs ++ [61 * (k : Int) + 17]).map Dv.int))) (m ++ [.lst G] ++ [.dic []]) := by
    rw [List.map_append]
    exact sBin_ok (sVar_ok rfl) (sF_ok (lst_ok (lCons_ok (sBin_ok (sBin_ok (sC_ok _) (sVar_ok rfl) rfl rfl (oMulP_i _ _ (by simp [mulOk]))) (sC_ok _) rfl rfl rfl) lNil_ok) rfl rfl)) rfl rfl (cat_l (by simp; omega))
  have al := lCons_ok eL (lCons_ok (sVar_ok (i := 4) (en := [some (.d (.scr ns)), some (.d (.int k)), some (.d (.lst (cs.map Dv.int))), some (.o m.length), some (.d (.int s)), o5]) (m := m ++ [.lst G] ++ [.dic []]) (x := .d (.int s)) rfl) (lCons_ok ca (lCons_ok (sC_ok (.int 0)) lNil_ok)))
  have gd : (m ++ [So.lst G] ++ [So.dic []])[(m ++ [So.lst G]).length]? = some (.dic []) := get_push _ _
  have gs : (m ++ [So.lst G] ++ [So.dic []]).set (m ++ [So.lst G]).length (.dic (dk L s (cs ++ [61 * (k : Int) + 17]) 0)) = m ++ [.lst G] ++ [.dic (dk L s (cs ++ [61 * (k : Int) + 17]) 0)] := by simp
  have km : kMerge [] ((["left", "seed", "cells", "spot"] : List Str).zip [.int L, .int s, .lst ((cs ++ [61 * (k : Int) + 17]).map Dv.int), .int 0]) = dk L s (cs ++ [61 * (k : Int) + 17]) 0 := rfl
  have ln : (m ++ [So.lst G]).length = m.length + 1 := by simp
  rw [ln] at gd gs
  unfold sDisp
  rw [al]
  simp only [Rs.bind, frzL, frz_d, gd, km, gs, ln]
end K21
end

section
set_option Elab.async false
set_option linter.all false
set_option maxRecDepth 100000
set_option maxHeartbeats 4000000
namespace K21
open PySem PySem.Spec PyProof.Rows L2 EvL EvH K21M
def ab (x : Int) : Int := if x < 0 then -x else x
def far (x : Int) : Bool := decide (1000 < ab x)
def fF : Sem1 := sBin oGt (sUn oAbs (sVar 2)) (sC (.int 1000))
theorem fF_ok {en : En} {m : Store} {x : Int} (h : en[2]? = some (some (.d (.int x)))) : fF en m = .ok (.d (.bl (far x))) m :=
  sBin_ok (sUn_ok (sVar_ok h) rfl rfl) (sC_ok _) rfl rfl (oGt_ok _ _)
theorem frzd {m : Store} {d : Dv} : frz m (.d d) = some (d, m) := rfl
theorem lcIn_step {n : Nat} {G : Tgt} {t : SemB} {f : Sem1} {en en' : En} {d z : Dv} {ds acc : List Dv} {m : Store} (hG : G (.d d) en m = some en') (ht : t en' m = .ok true m) (hf : f en' m = .ok (.d z) m) (hg : m[n]? = some (.lst acc)) (hfit : fits (acc.length + 1) = true) : lcIn n G t f en (d :: ds) m = lcIn n G t f en ds (m.set n (.lst (acc ++ [z]))) := by
  conv => lhs; unfold lcIn
  simp only [hG, ht, hf, frzd, hg, hfit, if_true]
theorem lcOut_step {n : Nat} {G G1 : Tgt} {t t1 : SemB} {fi : SemF} {f : Sem1} {vs1 : List Nat} {en en' : En} {d : Dv} {ds ys : List Dv} {m m2 m3 : Store} (hG : G (.d d) en m = some en') (ht : t en' m = .ok true m) (hf : fi en' m = .ok ys m2) (hin : lcIn n G1 t1 f (wipeE en' vs1) ys m2 = .ok () m3) : lcOut n G t fi G1 t1 f vs1 en (d :: ds) m = lcOut n G t fi G1 t1 f vs1 en ds m3 := by
  conv => lhs; unfold lcOut
  simp only [hG, ht, hf, hin]
theorem row_in {m : Store} {o1 o2 : Option Sv} {v : Option Sv} : ∀ {r : List Int} {acc : List Dv}, acc.length + r.length ≤ 1000 →
    lcIn m.length (tgN 2) bYes fF [v, o1, o2] (r.map .int) (m ++ [.lst acc]) = .ok () (m ++ [.lst (acc ++ (r.map far).map .bl)])
  | [], acc, _ => by
    show lcIn m.length (tgN 2) bYes fF [v, o1, o2] [] (m ++ [.lst acc]) = .ok () (m ++ [.lst (acc ++ [])])
    rw [List.append_nil]
    rfl
  | x :: r, acc, h => by
    have e := row_in (m := m) (o1 := o1) (o2 := o2) (v := v) (r := r) (acc := acc ++ [.bl (far x)]) (by simp at h ⊢; omega)
    have s : (m ++ [So.lst acc]).set m.length (.lst (acc ++ [.bl (far x)])) = m ++ [.lst (acc ++ [.bl (far x)])] := by simp
    have t : (acc ++ [Dv.bl (far x)]) ++ (r.map far).map .bl = acc ++ ((x :: r).map far).map .bl := by simp
    rw [t, ← s] at e
    exact (lcIn_step (en' := [v, o1, some (.d (.int x))]) rfl rfl (fF_ok rfl) (get_push _ _) (fits_le (by simp at h; omega))).trans e
def fars (A : Mt) : List Bool := A.flatMap fun r => r.map far
theorem rows_out {m : Store} {v : Sv} {o1 o2 : Option Sv} : ∀ {A : Mt} {acc : List Dv}, acc.length + (fars A).length ≤ 1000 →
    lcOut m.length (tgN 1) bYes (iSeq (sVar 1)) (tgN 2) bYes fF [2] [some v, o1, o2] (tm A) (m ++ [.lst acc]) = .ok (acc ++ (fars A).map .bl) m
  | [], acc, _ => by simp [lcOut, tm, fars]
  | r :: A, acc, h => by
    have hl : (fars (r :: A)).length = r.length + (fars A).length := by simp [fars]
    have e2 := row_in (m := m) (v := some v) (o1 := some (.d (trow r))) (o2 := none) (r := r) (acc := acc) (by omega)
    have e3 := rows_out (m := m) (v := v) (o1 := o1) (o2 := o2) (A := A) (acc := acc ++ (r.map far).map .bl) (by simp; omega)
    refine (lcOut_step (en' := [some v, some (.d (trow r)), o2]) (ds := tm A) rfl rfl (iSeq_t (sVar_ok rfl)) e2).trans (e3.trans ?_)
    simp [fars]
def great : Ex := ⟨4, some ("most", .int 1000)⟩
/-- let_rows: the rows, or TooGreat -/
theorem v_let_rows {A : Mt} (h : (fars A).length ≤ 1000) (m : Store) : f_let_rows [.d (.lst (tm A))] m = (if (fars A).any id then Out.e great else Out.d (.lst (tm A))).rs m := by
  have hl : A.length ≤ 1000 ∨ True := .inr trivial
  have c : fComp2 (iSeq (sVar 0)) (tgN 1) bYes (iSeq (sVar 1)) (tgN 2) bYes fF [1, 2] [2] [some (.d (.lst (tm A))), none, none] m = .ok ((fars A).map .bl) m := by
    unfold fComp2
    rw [iSeq_d (sVar_ok rfl)]
    exact rows_out (m := m) (acc := []) (by simpa using h)
  have an : oAny (.lst ((fars A).map .bl)) = some (.bl ((fars A).any id)) := by
    show (boolsD ((fars A).map .bl)).map _ = _
    rw [boolsD_map]
    rfl
  have t : sT (sUn oAny (sF (fComp2 (iSeq (sVar 0)) (tgN 1) bYes (iSeq (sVar 1)) (tgN 2) bYes fF [1, 2] [2]))) [some (.d (.lst (tm A))), none, none] m = .ok ((fars A).any id) m := sT_ok (sUn_ok (sF_ok c) rfl an)
  cases e : (fars A).any id with
  | true =>
    rw [e] at t
    have : showOk (.int 1000) = true := (Sm.int (by decide)).ok (by decide) (by decide)
    have r : gRaise 4 "most" (sC (.int 1000)) [some (.d (.lst (tm A))), none, none] m = .ex great [some (.d (.lst (tm A))), none, none] m := by
      simp [gRaise, sC, Rs.st, frzd, this, great]
    exact fin_ex rfl (gSeq_ex ((gIf_t t).trans r))
  | false =>
    rw [e] at t
    exact fin_d rfl ((gSeq_ok ((gIf_f t).trans rfl)).trans (gRet_ok (sVar_ok rfl)))
end K21
end

section
set_option Elab.async false
set_option linter.all false
set_option maxRecDepth 100000
set_option maxHeartbeats 4000000
namespace K21
open PySem PySem.Spec PyProof.Rows L2 EvL EvH K21M
/-! let_move, led, plus -/
theorem v_let_move {A : Mt} {t : List Int} (h : (fars (A ++ [t])).length ≤ 1000) (hl : A.length ≤ 100) (m : Store) : f_let_move [.d (.tup [.tup (tm A), trow t])] m = (if (fars (A ++ [t])).any id then Out.e great else Out.d (.tup [.tup (tm A), trow t])).rs m := by
  have r := v_let_rows h m
  have e : tm (A ++ [t]) = tm A ++ [trow t] := by simp [tm]
  rw [e] at r
  have ar : lCons (sBin oAddP (sF (fUn oList (sBin oIx (sVar 0) (sC (.int 0))))) (sF (fLst (lCons (sBin oIx (sVar 0) (sC (.int 1))) lNil)))) lNil (start0 1 [.d (.tup [.tup (tm A), trow t])]) m = .ok [.d (.lst (tm A ++ [trow t]))] m :=
    lCons_ok (sBin_ok (sF_ok (fUn_ok (sBin_ok (sVar_ok rfl) (sC_ok _) rfl rfl rfl) rfl rfl)) (sF_ok (lst_ok (lCons_ok (sBin_ok (sVar_ok rfl) (sC_ok _) rfl rfl rfl) lNil_ok) rfl rfl)) rfl rfl (cat_l (by simp [tm]; omega))) lNil_ok
  cases ea : (fars (A ++ [t])).any id with
  | true =>
    rw [ea] at r
    exact fin_ex rfl (gSeq_ex (gExpr_ex (sCall_ex2 ar r)))
  | false =>
    rw [ea] at r
    exact fin_d rfl ((gSeq_ok (gExpr_ok (sCall_ok ar r))).trans (gRet_ok (sVar_ok rfl)))
end K21
end

section
set_option Elab.async false
set_option linter.all false
set_option maxRecDepth 100000
set_option maxHeartbeats 4000000
namespace K21
open PySem PySem.Spec PyProof.Rows L2 EvL EvH K21M
/-! sums of products -/
theorem intsD_map : ∀ l : List Int, intsD (l.map .int) = some l
  | [] => rfl
  | x :: l => by
    show (intsD (l.map .int)).map (x :: ·) = _
    rw [intsD_map l]
    rfl
theorem pairs_ints : ∀ (r t : List Int), pairs (r.map .int) (t.map .int) = List.zipWith (fun x y => Dv.tup [.int x, .int y]) r t := fun r t => by
  unfold pairs
  rw [List.zipWith_map]
/-- [f(x, y) for x, y in zip(..)] over ints -/
theorem cmp_zip {fi : SemF} {i j : Nat} {f : Sem1} {en : En} {S : Store} {r t : List Int} (v : Int → Int → Int) (hfi : fi en S = .ok (pairs (r.map .int) (t.map .int)) S) (hl : r.length ≤ 1000)
    (hs : ∀ x y acc, x ∈ r → y ∈ t → ∃ en', tgTup 2 (tgCons (tgN i) (tgCons (tgN j) tgNil)) (.d (.tup [.int x, .int y])) (wipeE en [i, j]) (S ++ [.lst acc]) = some en' ∧ f en' (S ++ [.lst acc]) = .ok (.d (.int (v x y))) (S ++ [.lst acc])) :
    fComp fi (tgTup 2 (tgCons (tgN i) (tgCons (tgN j) tgNil))) bYes f [i, j] en S = .ok ((List.zipWith v r t).map .int) S := by
  have e : (List.zipWith v r t).map Dv.int = ((pairs (r.map .int) (t.map .int)).filter fun _ => true).map fun d => match d with | .tup [.int x, .int y] => .int (v x y) | _ => .non := by
    rw [filt, pairs_ints]
    rw [List.map_zipWith, List.map_zipWith]
  rw [e]
  refine comp_pure (fun _ => true) _ hfi (by rw [pairs_ints, List.length_zipWith]; omega) fun d acc hd => ?_
  rw [pairs_ints] at hd
  obtain ⟨k, hk⟩ := List.getElem?_of_mem hd
  rw [List.getElem?_zipWith] at hk
  cases h1 : r[k]? with
  | none => rw [h1] at hk; cases hk
  | some x =>
    cases h2 : t[k]? with
    | none => rw [h1, h2] at hk; cases hk
    | some y =>
      rw [h1, h2] at hk
      cases hk
      obtain ⟨en', a, b⟩ := hs x y acc (List.mem_of_getElem? h1) (List.mem_of_getElem? h2)
      exact ⟨en', a, rfl, fun _ => b⟩
theorem v_plus {r t : List Int} (hl : r.length ≤ 1000) (m : Store) : f_plus_point [.d (trow r), .d (trow t)] m = .ok (.d (trow (List.zipWith (· + ·) r t))) m := by
  refine fin_d rfl (gRet_ok (sUn_ok (sF_ok (cmp_zip (fun x y => x + y) (iZip_t (sVar_ok rfl) (sVar_ok rfl)) hl fun x y acc _ _ => ⟨_, rfl, sBin_ok (sVar_ok rfl) (sVar_ok rfl) rfl rfl rfl⟩)) rfl rfl))
theorem mkB {b a : Int} (hb : b ≤ 1000000000000) (h : -b ≤ a ∧ a ≤ b) (y : Int) : mulOk a y = true := by
  simp [mulOk]
  omega
def dot (r t : List Int) : Int := (List.zipWith (fun x y => x * y) r t).sum
def led (A : Mt) (t : List Int) : List Int := A.map fun r => dot r t
def mvd (A : Mt) (t p : List Int) : List Int := List.zipWith (fun x y => x + y) (led A p) t
theorem oSum_ints (l : List Int) : oSum (.lst (l.map .int)) = some (.int l.sum) := by
  show (intsD (l.map .int)).bind _ = _
  rw [intsD_map]
  rfl
theorem v_led {A : Mt} {b : Int} {t : List Int} (hl : A.length ≤ 1000) (hr : ∀ r ∈ A, r.length ≤ 1000) (hb : b ≤ 1000000000000) (h : lim b A) (m : Store) : f_led_by_lines [.d (.tup (tm A)), .d (trow t)] m = .ok (.d (trow (led A t))) m := by
  refine fin_d rfl (gRet_ok (sUn_ok (u := .lst ((led A t).map .int)) (sF_ok ?_) rfl rfl))
  have e : (led A t).map Dv.int = ((tm A).filter fun _ => true).map fun d => match d with | .tup xs => .int (dot (xs.map intD) t) | _ => .non := by
    rw [filt]
    unfold led tm
    rw [List.map_map, List.map_map]
    refine List.map_congr_left fun r _ => ?_
    show Dv.int (dot r t) = Dv.int (dot ((r.map Dv.int).map intD) t)
    rw [List.map_map]
    have : (intD ∘ Dv.int) = id := rfl
    rw [this, List.map_id]
  rw [e]
  refine comp_pure (fun _ => true) _ (iSeq_t (sVar_ok rfl)) (by simp [tm]; omega) fun d acc hd => ?_
  obtain ⟨r, hr', rfl⟩ := List.mem_map.mp hd
  refine ⟨_, rfl, rfl, fun _ => ?_⟩
  show sUn oSum _ _ _ = Rs.ok (Sv.d (.int (dot ((r.map Dv.int).map intD) t))) _
  have q : (r.map Dv.int).map intD = r := by
    rw [List.map_map]
    have : (intD ∘ Dv.int) = id := rfl
    rw [this, List.map_id]
  rw [q]
  exact sUn_ok (sF_ok (cmp_zip (fun x y => x * y) (iZip_t (sVar_ok rfl) (sVar_ok rfl)) (hr r hr') fun x y acc hx _ => ⟨_, rfl, sBin_ok (sVar_ok rfl) (sVar_ok rfl) rfl rfl (oMulP_i _ _ (mkB hb (h r hr' x hx) _))⟩)) rfl (oSum_ints _)
theorem v_mvd {A : Mt} {b : Int} {t p : List Int} (hl : A.length ≤ 1000) (hr : ∀ r ∈ A, r.length ≤ 1000) (hb : b ≤ 1000000000000) (h : lim b A) (m : Store) : f_moved_point_in [.d (.tup [.tup (tm A), trow t]), .d (trow p)] m = .ok (.d (trow (mvd A t p))) m := by
  refine fin_d rfl (gRet_ok (sCall_ok (lCons_ok (sCall_ok (lCons_ok (sBin_ok (sVar_ok rfl) (sC_ok _) rfl rfl rfl) (lCons_ok (sVar_ok rfl) lNil_ok)) (v_led hl hr hb h m)) (lCons_ok (sBin_ok (sVar_ok rfl) (sC_ok _) rfl rfl rfl) lNil_ok)) (v_plus (by simp [led]; omega) m)))
end K21
end

section
set_option Elab.async false
set_option linter.all false
set_option maxRecDepth 100000
set_option maxHeartbeats 4000000
namespace K21
open PySem PySem.Spec PyProof.Rows L2 EvL EvH K21M
/-! the law's own moved point -/
theorem v_law_moved {A : Mt} {b : Int} {t p : List Int} (hl : A.length ≤ 1000) (hr : ∀ r ∈ A, r.length ≤ 1000) (hb : b ≤ 1000000000000) (h : lim b A) (m : Store) : f__law_moved [.d (trow p), .d (.tup (tm A)), .d (trow t)] m = .ok (.d (trow (mvd A t p))) m := by
  refine fin_d rfl (gRet_ok (sUn_ok (u := .lst ((mvd A t p).map .int)) (sF_ok ?_) rfl rfl))
  have e : (mvd A t p).map Dv.int = ((pairs (tm A) (t.map Dv.int)).filter fun _ => true).map fun d => match d with | .tup [.tup xs, .int k] => .int (dot (xs.map intD) p + k) | _ => .non := by
    rw [filt]
    unfold mvd led pairs tm
    rw [List.zipWith_map, List.map_zipWith, List.map_zipWith, List.zipWith_map_left]
    congr 1
    funext r k
    show Dv.int (dot r p + k) = Dv.int (dot ((r.map Dv.int).map intD) p + k)
    rw [List.map_map]
    have : (intD ∘ Dv.int) = id := rfl
    rw [this, List.map_id]
  rw [e]
  refine comp_pure (fun _ => true) _ (iZip_t (sVar_ok rfl) (sVar_ok rfl)) (by unfold pairs; simp [tm]; omega) fun d acc hd => ?_
  unfold pairs tm at hd
  obtain ⟨k, hk⟩ := List.getElem?_of_mem hd
  rw [List.getElem?_zipWith, List.getElem?_map, List.getElem?_map] at hk
  cases h1 : A[k]? with
  | none => rw [h1] at hk; cases hk
  | some r =>
    cases h2 : t[k]? with
    | none => rw [h1, h2] at hk; cases hk
    | some y =>
      rw [h1, h2] at hk
      cases hk
      have hr' := List.mem_of_getElem? h1
      refine ⟨_, rfl, rfl, fun _ => ?_⟩
      have q : (r.map Dv.int).map intD = r := by
        rw [List.map_map]
        have : (intD ∘ Dv.int) = id := rfl
        rw [this, List.map_id]
      show sBin oAddP _ _ _ _ = Rs.ok (Sv.d (.int (dot ((r.map Dv.int).map intD) p + y))) _
      rw [q]
      exact sBin_ok (sUn_ok (sF_ok (cmp_zip (fun x y => x * y) (iZip_t (sVar_ok rfl) (sVar_ok rfl)) (hr r hr') fun x y acc hx _ => ⟨_, rfl, sBin_ok (sVar_ok rfl) (sVar_ok rfl) rfl rfl (oMulP_i _ _ (mkB hb (h r hr' x hx) _))⟩)) rfl (oSum_ints _)) (sVar_ok rfl) rfl rfl rfl
end K21
end

section
set_option Elab.async false
set_option linter.all false
set_option maxRecDepth 100000
set_option maxHeartbeats 4000000
namespace K21
open PySem PySem.Spec PyProof.Rows L2 EvL EvH K21M
/-! a good move -/
theorem firstP_no {n : Nat} {P : Nat → Bool} (h : ∀ i, i < n → P i = false) : firstP n P = none := by
  unfold firstP
  rw [List.find?_eq_none]
  intro i hi
  simp at hi
  rw [h i hi]
  simp
theorem toM_of (A : Mt) : toM (tm A) = A := by
  unfold toM tm
  rw [List.map_map]
  have : ∀ r : List Int, (rowD ∘ trow) r = r := fun r => by
    show (r.map Dv.int).map intD = r
    rw [List.map_map]
    have : (intD ∘ Dv.int) = id := rfl
    rw [this, List.map_id]
  rw [List.map_congr_left (g := id) (fun r _ => this r), List.map_id]
theorem lnF_good {A : Mt} {d : Nat} (is : IsM d A) (hd : 1 ≤ d ∧ d ≤ 3) (hl : lim 1000 A) (hdt : dt A = 1 ∨ dt A = -1) : lnF (.tup (tm A)) = none := by
  have len : (tm A).length = d := by simp [tm, is.len]
  have sc : scanF (tm A) = none := by
    unfold scanF
    rw [firstP_no (fun k hk => by
      obtain ⟨r, hr, hrl, _⟩ := gmat is (p := k) (by omega)
      have g : (tm A)[k]? = some (trow r) := by
        unfold tm
        rw [List.getElem?_map, hr]
        rfl
      unfold rowB
      rw [getD_get g, len]
      have hm := List.mem_of_getElem? hr
      show Option.isSome (if (r.map Dv.int).length = d then (firstP (r.map Dv.int).length (badAt (r.map Dv.int))).map _ else _) = false
      rw [if_pos (by simp [hrl]), firstP_no (fun j hj => by
        have hj' : j < r.length := by simpa using hj
        have g2 : (r.map Dv.int)[j]? = some (.int r[j]) := by simp [hj']
        rw [badAt_get g2]
        have := hl r hm r[j] (List.getElem_mem _)
        simp [inR, this.1, this.2])]
      rfl)]
    rfl
  rw [lnF_tup, if_pos (by omega), sc]
  dsimp only
  rw [toM_of, if_pos hdt]
theorem mvF_good {A : Mt} {d : Nat} {t : List Int} (is : IsM d A) (hd : 1 ≤ d ∧ d ≤ 3) (hl : lim 1000 A) (hdt : dt A = 1 ∨ dt A = -1) (ht : t.length = d) (htl : ∀ x ∈ t, -1000 ≤ x ∧ x ≤ 1000) : mvF (.tup [.tup (tm A), trow t]) = none := by
  have hs : isSpot (lenD (.tup (tm A))) (trow t) = true := by
    have : (((t.map Dv.int).length : Nat) : Int) = ((tm A).length : Int) := by simp [tm, is.len, ht]
    show (decide (((t.map Dv.int).length : Int) = ((tm A).length : Int)) && (t.map Dv.int).all (inR (-1000) 1000)) = true
    rw [decide_eq_true this, Bool.true_and, List.all_eq_true]
    intro x hx
    obtain ⟨i, hi, rfl⟩ := List.mem_map.mp hx
    have := htl i hi
    simp [inR, this.1, this.2]
  show (match lnF (.tup (tm A)) with | some f => some (0 :: f) | none => if isSpot (lenD (.tup (tm A))) (trow t) then none else some [1]) = none
  rw [lnF_good is hd hl hdt]
  dsimp only
  rw [if_pos hs]
end K21
end

section
set_option Elab.async false
set_option linter.all false
set_option maxRecDepth 100000
set_option maxHeartbeats 4000000
namespace K21
open PySem PySem.Spec PyProof.Rows L2 EvL EvH K21M
theorem mv_nc {d : Nat} {A : Mt} {t : List Int} {v : Dv} (h : Mv d A t v) (hd : 1 ≤ d ∧ d ≤ 3) : Nc v := by
  obtain ⟨rfl, tu, tl, ts⟩ := h
  refine Nc.pair (Li.tup (by simp [tm, tu.is.len]; omega) (row_ro tu.is (by omega) tu.lm (by decide))) (Li.tup (by simp [tl]; omega) fun x hx => ?_)
  obtain ⟨i, hi, rfl⟩ := List.mem_map.mp hx
  have := ts i hi
  exact Ro.of (El.int (by omega))
theorem mv_good {d : Nat} {A : Mt} {t : List Int} {v : Dv} (h : Mv d A t v) (hd : 1 ≤ d ∧ d ≤ 3) : mvF v = none := by
  obtain ⟨rfl, tu, tl, ts⟩ := h
  exact mvF_good tu.is hd (fun r hr x hx => by have := tu.lm r hr x hx; omega) tu.det tl ts
theorem mv_need {d : Nat} {A : Mt} {t : List Int} {v : Dv} (h : Mv d A t v) (hd : 1 ≤ d ∧ d ≤ 3) (m : Store) : f_need_move [.d v] m = .ok (.d v) m := by
  rw [v_need_move (mv_nc h hd).2, mv_good h hd]
theorem v_sign {d : Nat} {A : Mt} {t : List Int} {v : Dv} (h : Mv d A t v) (hd : 1 ≤ d ∧ d ≤ 3) (m : Store) : f_move_sign [.d v] m = .ok (.d (.int (dt A))) m := by
  have n := mv_need h hd m
  obtain ⟨rfl, tu, tl, ts⟩ := h
  exact fin_d rfl (gRet_ok (sCall_ok (lCons_ok (sBin_ok (sCall_ok (lCons_ok (sVar_ok rfl) lNil_ok) n) (sC_ok _) rfl rfl rfl) lNil_ok) (v_det tu.is hd (fun r hr x hx => by have := tu.lm r hr x hx; omega) m)))
end K21
end

section
set_option Elab.async false
set_option linter.all false
set_option maxRecDepth 100000
set_option maxHeartbeats 4000000
namespace K21
open PySem PySem.Spec PyProof.Rows L2 EvL EvH K21M
/-! plain_move -/
theorem plain_bad {x : Dv} {w p : Nat} (h : ty x = true) (hs : Sm w p x) (hw : w ≤ 60000) (hp : p ≤ 60) (hx : inR 1 3 x = false) (m : Store) : f_plain_move [.d x] m = (Out.e ⟨0, some ("value", x)⟩).rs m := by
  have e : sCall f_is_from (lCons (sVar 0) (lCons (sC (.int 1)) (lCons (sC (.int 3)) lNil))) (start0 1 [.d x]) m = .ok (.d (.bl (inR 1 3 x))) m := sCall_ok (lCons_ok (sVar_ok rfl) (lCons_ok (sC_ok _) (lCons_ok (sC_ok _) lNil_ok))) (v_is_from h m)
  rw [hx] at e
  have r : gRaise 0 "value" (sVar 0) (start0 1 [.d x]) m = .ex ⟨0, some ("value", x)⟩ (start0 1 [.d x]) m := by
    have : sVar 0 (start0 1 [.d x]) m = .ok (.d x) m := rfl
    simp [gRaise, this, Rs.st, frzd, hs.ok hw hp]
  exact fin_ex rfl (gSeq_ex ((gIf_t (bNot_ok (sT_ok e))).trans r))
theorem told_number (x : Dv) : told (.e ⟨0, some ("value", x)⟩) = some (.tup [.str "number", x]) := by
  show (if ("value" : Str) = "value" then some (Dv.tup [.str "number", x]) else none) = _
  rw [if_pos rfl]
theorem told_point (x : Dv) : told (.e ⟨1, some ("value", x)⟩) = some (.tup [.str "point", x]) := by
  show (if ("value" : Str) = "value" then some (Dv.tup [.str "point", x]) else none) = _
  rw [if_pos rfl]
theorem told_great : told (.e great) = some (.tup [.str "great", .int 1000]) := by
  show (if ("most" : Str) = "most" then some (Dv.tup [.str "great", .int 1000]) else none) = _
  rw [if_pos rfl]
theorem told_unlike : told (.e ⟨5, none⟩) = some (.tup [.str "unlike", .int 0]) := rfl
end K21
end

section
set_option Elab.async false
set_option linter.all false
set_option maxRecDepth 100000
set_option maxHeartbeats 4000000
namespace K21
open PySem PySem.Spec PyProof.Rows L2 EvL EvH K21M
/-! points -/
def isAny (d : Dv) : Bool := match d with
  | .tup xs => decide (1 ≤ xs.length ∧ xs.length ≤ 3) && isSpot xs.length d
  | _ => false
theorem oIn_len : ∀ n : Nat, n ≤ 4 → oIn false (.int n) (.tup (([1, 2, 3] : List Int).map .int)) = some (.bl (decide (1 ≤ n ∧ n ≤ 3)))
  | 0, _ => rfl
  | 1, _ => rfl
  | 2, _ => rfl
  | 3, _ => rfl
  | 4, _ => rfl
  | n + 5, h => absurd h (by omega)
theorem v_is_any {x : Dv} (h : ty x = true) (h2 : ∀ xs, x = .tup xs → tys xs = true ∧ xs.length ≤ 4) (m : Store) : f_is_any_point [.d x] m = .ok (.d (.bl (isAny x))) m := by
  by_cases ht : ∃ xs, x = .tup xs
  · obtain ⟨xs, rfl⟩ := ht
    obtain ⟨a, b⟩ := h2 xs rfl
    have t1 : sUn (oIs "tuple") (sVar 0) (start0 1 [.d (.tup xs)]) m = .ok (.d (.bl true)) m := sUn_ok (sVar_ok rfl) rfl (oIs_tup_t xs)
    have t2 : sBin (oIn false) (sUn oLen (sVar 0)) (sC (.tup (([1, 2, 3] : List Int).map .int))) (start0 1 [.d (.tup xs)]) m = .ok (.d (.bl (decide (1 ≤ xs.length ∧ xs.length ≤ 3)))) m := sBin_ok (sUn_ok (sVar_ok rfl) rfl (oLen_t xs)) (sC_ok _) rfl rfl (oIn_len _ b)
    refine fin_d rfl (gRet_ok ((sAnd_t t1).trans ?_))
    show _ = Rs.ok (Sv.d (.bl (decide (1 ≤ xs.length ∧ xs.length ≤ 3) && isSpot xs.length (.tup xs)))) m
    by_cases hn : 1 ≤ xs.length ∧ xs.length ≤ 3
    · rw [decide_eq_true hn] at t2 ⊢
      rw [Bool.true_and]
      exact (sAnd_t t2).trans (sCall_ok (lCons_ok (sUn_ok (sVar_ok rfl) rfl (oLen_t xs)) (lCons_ok (sVar_ok rfl) lNil_ok)) (v_is_point h (fun ys e => by cases e; exact ⟨a, by omega⟩) m))
    · rw [decide_eq_false hn] at t2 ⊢
      rw [Bool.false_and]
      exact sAnd_f t2
  · have hn : ∀ xs, x ≠ .tup xs := fun xs z => ht ⟨xs, z⟩
    have e : isAny x = false := by
      cases x with
      | tup xs => exact absurd rfl (hn xs)
      | _ => rfl
    rw [e]
    exact fin_d rfl (gRet_ok (sAnd_f (sUn_ok (sVar_ok rfl) rfl (oIs_not h hn))))
/-- a good move asked about what is no point -/
theorem point_bad {d : Nat} {A : Mt} {t : List Int} {v x : Dv} {w p : Nat} (hv : Mv d A t v) (hd : 1 ≤ d ∧ d ≤ 3) (h : ty x = true) (h2 : ∀ xs, x = .tup xs → tys xs = true ∧ xs.length ≤ 4) (hs : Sm w p x) (hw : w ≤ 60000) (hp : p ≤ 60) (hx : isAny x = false) (m : Store) : f_moved_point [.d v, .d x] m = (Out.e ⟨1, some ("value", x)⟩).rs m := by
  have n : sCall f_need_move (lCons (sVar 0) lNil) (start0 2 [.d v, .d x]) m = .ok (.d v) m := sCall_ok (lCons_ok (sVar_ok rfl) lNil_ok) (mv_need hv hd m)
  have e : sCall f_is_any_point (lCons (sVar 1) lNil) (start0 2 [.d v, .d x]) m = .ok (.d (.bl (isAny x))) m := sCall_ok (lCons_ok (sVar_ok rfl) lNil_ok) (v_is_any h h2 m)
  rw [hx] at e
  have r : gRaise 1 "value" (sVar 1) (start0 2 [.d v, .d x]) m = .ex ⟨1, some ("value", x)⟩ (start0 2 [.d v, .d x]) m := by
    have : sVar 1 (start0 2 [.d v, .d x]) m = .ok (.d x) m := rfl
    simp [gRaise, this, Rs.st, frzd, hs.ok hw hp]
  exact fin_ex rfl ((gSeq_ok (gExpr_ok n)).trans (gSeq_ex ((gIf_t (bNot_ok (sT_ok e))).trans r)))
end K21
end

section
set_option Elab.async false
set_option linter.all false
set_option maxRecDepth 100000
set_option maxHeartbeats 4000000
namespace K21
open PySem PySem.Spec PyProof.Rows L2 EvL EvH K21M
/-! moved_point: the point moved, TooGreat, or Unlike -/
theorem isAny_row {x : List Int} (hl : 1 ≤ x.length ∧ x.length ≤ 3) (h : ∀ i ∈ x, -1000 ≤ i ∧ i ≤ 1000) : isAny (trow x) = true := by
  show (decide (1 ≤ (x.map Dv.int).length ∧ (x.map Dv.int).length ≤ 3) && (decide (((x.map Dv.int).length : Int) = ((x.map Dv.int).length : Nat)) && (x.map Dv.int).all (inR (-1000) 1000))) = true
  rw [decide_eq_true (by simpa using hl), decide_eq_true rfl, Bool.true_and, Bool.true_and, List.all_eq_true]
  intro y hy
  obtain ⟨i, hi, rfl⟩ := List.mem_map.mp hy
  have := h i hi
  simp [inR, this.1, this.2]
theorem point_any {d : Nat} {A : Mt} {t x : List Int} {v : Dv} (hv : Mv d A t v) (hd : 1 ≤ d ∧ d ≤ 3) (hl : 1 ≤ x.length ∧ x.length ≤ 3) (h : ∀ i ∈ x, -1000 ≤ i ∧ i ≤ 1000) (m : Store) : f_moved_point [.d v, .d (trow x)] m = (if x.length = d then (if (fars [mvd A t x]).any id then Out.e great else Out.d (trow (mvd A t x))) else Out.e ⟨5, none⟩).rs m := by
  have n : sCall f_need_move (lCons (sVar 0) lNil) (start0 2 [.d v, .d (trow x)]) m = .ok (.d v) m := sCall_ok (lCons_ok (sVar_ok rfl) lNil_ok) (mv_need hv hd m)
  have e : sCall f_is_any_point (lCons (sVar 1) lNil) (start0 2 [.d v, .d (trow x)]) m = .ok (.d (.bl (isAny (trow x)))) m := sCall_ok (lCons_ok (sVar_ok rfl) lNil_ok) (v_is_any rfl (fun xs e => by
    cases e
    refine ⟨List.all_eq_true.mpr fun y hy => ?_, by simp; omega⟩
    obtain ⟨i, hi, rfl⟩ := List.mem_map.mp hy
    rfl) m)
  rw [isAny_row hl h] at e
  obtain ⟨rfl, tu, tl, ts⟩ := hv
  have s1 := (gSeq_ok (g2 := gSeq (gIf (sT (sBin oNe (sUn oLen (sVar 1)) (sUn oLen (sBin oIx (sVar 0) (sC (.int 1)))))) (gRaise0 5) gNext) (gRet (sBin oIx (sCall f_let_rows (lCons (sF (fLst (lCons (sCall f_moved_point_in (lCons (sVar 0) (lCons (sVar 1) lNil))) lNil))) lNil)) (sC (.int 0))))) ((gIf_f (g1 := gRaise 1 "value" (sVar 1)) (g2 := gNext) (bNot_ok (sT_ok e))).trans rfl))
  have t2 : sT (sBin oNe (sUn oLen (sVar 1)) (sUn oLen (sBin oIx (sVar 0) (sC (.int 1))))) (start0 2 [.d (.tup [.tup (tm A), trow t]), .d (trow x)]) m = .ok (!decide (x.length = d)) m := by
    refine sT_ok (sBin_ok (sUn_ok (sVar_ok rfl) rfl (oLen_t _)) (sUn_ok (sBin_ok (sVar_ok rfl) (sC_ok _) rfl rfl rfl) rfl (oLen_t _)) rfl rfl ((oNe_int _ _).trans ?_))
    have : decide (((x.map Dv.int).length : Int) = ((t.map Dv.int).length : Nat)) = decide (x.length = d) := decide_eq_decide.mpr (by simp only [List.length_map, tl]; omega)
    rw [this]
  by_cases hx : x.length = d
  · rw [decide_eq_true hx] at t2
    rw [if_pos hx]
    have r1 := v_mvd (t := t) (p := x) (b := 64) (by rw [tu.is.len]; omega) (fun r hr => by rw [tu.is.row r hr]; omega) (by decide) tu.lm m
    have r2 := v_let_rows (A := [mvd A t x]) (by simp [fars, mvd, led]; rw [tu.is.len]; omega) m
    have ar : lCons (sF (fLst (lCons (sCall f_moved_point_in (lCons (sVar 0) (lCons (sVar 1) lNil))) lNil))) lNil (start0 2 [.d (.tup [.tup (tm A), trow t]), .d (trow x)]) m = .ok [.d (.lst (tm [mvd A t x]))] m := lCons_ok (sF_ok (lst_ok (lCons_ok (sCall_ok (lCons_ok (sVar_ok rfl) (lCons_ok (sVar_ok rfl) lNil_ok)) r1) lNil_ok) rfl rfl)) lNil_ok
    cases ea : (fars [mvd A t x]).any id with
    | true =>
      rw [ea] at r2
      exact fin_ex rfl ((gSeq_ok (gExpr_ok n)).trans (s1.trans ((gSeq_ok ((gIf_f t2).trans rfl)).trans (gRet_ex (sBin_ex (sCall_ex2 ar r2))))))
    | false =>
      rw [ea] at r2
      exact fin_d rfl ((gSeq_ok (gExpr_ok n)).trans (s1.trans ((gSeq_ok ((gIf_f t2).trans rfl)).trans (gRet_ok (sBin_ok (sCall_ok ar r2) (sC_ok _) rfl rfl rfl)))))
  · rw [decide_eq_false hx] at t2
    rw [if_neg hx]
    exact fin_ex rfl ((gSeq_ok (gExpr_ok n)).trans (s1.trans (gSeq_ex ((gIf_t t2).trans rfl))))
end K21
end

section
set_option Elab.async false
set_option linter.all false
set_option maxRecDepth 100000
set_option maxHeartbeats 4000000
namespace K21
open PySem PySem.Spec PyProof.Rows L2 EvL EvH K21M
/-! the transposed lines -/
def trn (d : Nat) (A : Mt) : Mt := (List.range d).map fun i => A.map fun r => r.getD i 0
theorem tups_tm : ∀ A : Mt, tups (tm A) = some (A.map fun r => r.map Dv.int)
  | [] => rfl
  | r :: A => by
    show (tups (tm A)).map (r.map Dv.int :: ·) = _
    rw [tups_tm A]
    rfl
theorem fold_min {d : Nat} : ∀ {rs : List (List Dv)}, (∀ r ∈ rs, r.length = d) → rs.foldl (fun n q => min n q.length) d = d
  | [], _ => rfl
  | r :: rs, h => by
    rw [List.foldl_cons, h r (by simp), Nat.min_self]
    exact fold_min fun q hq => h q (by simp [hq])
theorem zip_ok {A : Mt} {d : Nat} {f : Sem1} {en : En} {m : Store} (is : IsM d A) (hd : 1 ≤ d ∧ d ≤ 3) (h : f en m = .ok (.d (.tup (tm A))) m) : fZipS f en m = .ok (tm (trn d A)) m := by
  have wd : wide (A.map fun r => r.map Dv.int) = d := by
    cases A with
    | nil => have := is.len; simp at this; omega
    | cons r A =>
      show (A.map fun r => r.map Dv.int).foldl (fun n q => min n q.length) (r.map Dv.int).length = d
      have : (r.map Dv.int).length = d := by rw [List.length_map]; exact is.row r (by simp)
      rw [this]
      refine fold_min fun q hq => ?_
      obtain ⟨r', hr', rfl⟩ := List.mem_map.mp hq
      rw [List.length_map]
      exact is.row r' (by simp [hr'])
  have cl : cols (A.map fun r => r.map Dv.int) = tm (trn d A) := by
    unfold cols tm trn
    rw [wd, List.map_map]
    refine List.map_congr_left fun i hi => ?_
    have hi' : i < d := by simpa using hi
    show Dv.tup ((A.map fun r => r.map Dv.int).map fun r => r.getD i .non) = Dv.tup ((A.map fun r => r.getD i 0).map Dv.int)
    rw [List.map_map, List.map_map]
    congr 1
    refine List.map_congr_left fun r hr => ?_
    have : i < r.length := by rw [is.row r hr]; exact hi'
    show (r.map Dv.int).getD i .non = Dv.int (r.getD i 0)
    simp [List.getD_eq_getElem?_getD, this]
  have c : (decide (1 ≤ (A.map fun r => r.map Dv.int).length) && decide ((A.map fun r => r.map Dv.int).length ≤ 3) && decide (1 ≤ wide (A.map fun r => r.map Dv.int)) && decide (wide (A.map fun r => r.map Dv.int) ≤ 1000) && (A.map fun r => r.map Dv.int).all fun r => decide (r.length = wide (A.map fun r => r.map Dv.int))) = true := by
    rw [wd]
    simp only [Bool.and_eq_true, decide_eq_true_eq, List.length_map, is.len, List.all_eq_true]
    refine ⟨⟨⟨⟨hd.1, hd.2⟩, hd.1⟩, by omega⟩, fun r hr => ?_⟩
    obtain ⟨q, hq, rfl⟩ := List.mem_map.mp hr
    rw [List.length_map]
    exact is.row q hq
  unfold fZipS
  rw [h]
  show (match tups (tm A) with | some rs => if (decide (1 ≤ rs.length) && decide (rs.length ≤ 3) && decide (1 ≤ wide rs) && decide (wide rs ≤ 1000) && rs.all fun r => decide (r.length = wide rs)) then Rs.ok (cols rs) m else .no | none => .no) = _
  rw [tups_tm]
  dsimp only
  rw [if_pos c, cl]
end K21
end

section
set_option Elab.async false
set_option linter.all false
set_option maxRecDepth 100000
set_option maxHeartbeats 4000000
namespace K21
open PySem PySem.Spec PyProof.Rows L2 EvL EvH K21M
/-! the product of lines -/
def mul (d : Nat) (B A : Mt) : Mt := B.map fun r => (trn d A).map fun c => dot r c
theorem map_intD (r : List Int) : (r.map Dv.int).map intD = r := by
  rw [List.map_map]
  have : (intD ∘ Dv.int) = id := rfl
  rw [this, List.map_id]
def rowOf : Dv → List Int
  | .tup xs => xs.map intD
  | _ => []
theorem rowOf_t (r : List Int) : rowOf (trow r) = r := map_intD r
theorem v_times {A B : Mt} {d : Nat} {b : Int} (ia : IsM d A) (ib : IsM d B) (hd : 1 ≤ d ∧ d ≤ 3) (hb : b ≤ 1000000000000) (h : lim b B) (m : Store) : f_times_lines [.d (.tup (tm B)), .d (.tup (tm A))] m = .ok (.d (.tup (tm (mul d B A)))) m := by
  have z : fZipS (sVar 1) (start0 7 [.d (.tup (tm B)), .d (.tup (tm A))]) m = .ok (tm (trn d A)) m := zip_ok ia hd (sVar_ok rfl)
  refine fin_d rfl ((gSeq_ok (gSet_ok (sF_ok z))).trans (gRet_ok (sUn_ok (u := .lst (tm (mul d B A))) (sF_ok ?_) rfl rfl)))
  have e : tm (mul d B A) = ((tm B).filter fun _ => true).map fun x => trow ((trn d A).map fun c => dot (rowOf x) c) := by
    rw [filt]
    unfold mul tm
    rw [List.map_map, List.map_map]
    refine List.map_congr_left fun r _ => ?_
    show trow _ = trow ((trn d A).map fun c => dot (rowOf (trow r)) c)
    rw [rowOf_t]
  rw [e]
  refine comp_pure (fun _ => true) _ (iSeq_t (sVar_ok rfl)) (by simp [tm, ib.len]; omega) fun x acc hx => ?_
  obtain ⟨r, hr, rfl⟩ := List.mem_map.mp hx
  refine ⟨_, rfl, rfl, fun _ => ?_⟩
  rw [rowOf_t]
  refine sUn_ok (u := .lst (((trn d A).map fun c => dot r c).map .int)) (sF_ok ?_) rfl rfl
  have e2 : ((trn d A).map fun c => dot r c).map Dv.int = ((tm (trn d A)).filter fun _ => true).map fun x => .int (dot r (rowOf x)) := by
    rw [filt]
    unfold tm
    rw [List.map_map, List.map_map]
    refine List.map_congr_left fun c _ => ?_
    show Dv.int (dot r c) = Dv.int (dot r (rowOf (trow c)))
    rw [rowOf_t]
  rw [e2]
  refine comp_pure (fun _ => true) _ (iSeq_d (sVar_ok rfl)) (by simp [tm, trn]; omega) fun x acc2 hx => ?_
  obtain ⟨c, hc, rfl⟩ := List.mem_map.mp hx
  refine ⟨_, rfl, rfl, fun _ => ?_⟩
  rw [rowOf_t]
  exact sUn_ok (sF_ok (cmp_zip (fun x y => x * y) (iZip_t (sVar_ok rfl) (sVar_ok rfl)) (by rw [ib.row r hr]; omega) fun x y acc hx _ => ⟨_, rfl, sBin_ok (sVar_ok rfl) (sVar_ok rfl) rfl rfl (oMulP_i _ _ (mkB hb (h r hr x hx) _))⟩)) rfl (oSum_ints _)
end K21
end

section
set_option Elab.async false
set_option linter.all false
set_option maxRecDepth 100000
set_option maxHeartbeats 4000000
namespace K21
open PySem PySem.Spec PyProof.Rows L2 EvL EvH K21M
/-! composed_in: far (B, s) after (A, t) -/
theorem v_comp_in {A B : Mt} {s t : List Int} {d : Nat} {b : Int} (ia : IsM d A) (ib : IsM d B) (hd : 1 ≤ d ∧ d ≤ 3) (hb : b ≤ 1000000000000) (h : lim b B) (m : Store) :
    f_composed_in [.d (.tup [.tup (tm A), trow t]), .d (.tup [.tup (tm B), trow s])] m = .ok (.d (.tup [.tup (tm (mul d B A)), trow (mvd B s t)])) m := by
  have r1 := v_times ia ib hd hb h m
  have r2 := v_mvd (t := s) (p := t) (by rw [ib.len]; omega) (fun r hr => by rw [ib.row r hr]; omega) hb h m
  exact fin_d rfl (gRet_ok (tup_ok (lCons_ok (sCall_ok (lCons_ok (sBin_ok (sVar_ok rfl) (sC_ok _) rfl rfl rfl) (lCons_ok (sBin_ok (sVar_ok rfl) (sC_ok _) rfl rfl rfl) lNil_ok)) r1) (lCons_ok (sCall_ok (lCons_ok (sVar_ok rfl) (lCons_ok (sBin_ok (sVar_ok rfl) (sC_ok _) rfl rfl rfl) lNil_ok)) r2) lNil_ok)) rfl rfl))
end K21
end

section
set_option Elab.async false
set_option linter.all false
set_option maxRecDepth 100000
set_option maxHeartbeats 4000000
namespace K21
open PySem PySem.Spec PyProof.Rows L2 EvL EvH K21M
/-! a good move, and composed -/
structure Gd (d : Nat) (A : Mt) (t : List Int) : Prop where
  is : IsM d A
  lm : lim 1000 A
  det : dt A = 1 ∨ dt A = -1
  len : t.length = d
  sm : ∀ x ∈ t, -1000 ≤ x ∧ x ≤ 1000
def mvD (A : Mt) (t : List Int) : Dv := .tup [.tup (tm A), trow t]
theorem Mv.gd {d : Nat} {A : Mt} {t : List Int} {v : Dv} (h : Mv d A t v) : Gd d A t ∧ v = mvD A t := by
  obtain ⟨rfl, tu, tl, ts⟩ := h
  exact ⟨⟨tu.is, fun r hr x hx => by have := tu.lm r hr x hx; omega, tu.det, tl, ts⟩, rfl⟩
theorem Gd.nc {d : Nat} {A : Mt} {t : List Int} (h : Gd d A t) (hd : 1 ≤ d ∧ d ≤ 3) : Nc (mvD A t) := by
  refine Nc.pair (Li.tup (by simp [tm, h.is.len]; omega) (row_ro h.is (by omega) h.lm (by decide))) (Li.tup (by simp [h.len]; omega) fun x hx => ?_)
  obtain ⟨i, hi, rfl⟩ := List.mem_map.mp hx
  have := h.sm i hi
  exact Ro.of (El.int (by omega))
theorem Gd.good {d : Nat} {A : Mt} {t : List Int} (h : Gd d A t) (hd : 1 ≤ d ∧ d ≤ 3) : mvF (mvD A t) = none := mvF_good h.is hd h.lm h.det h.len h.sm
theorem Gd.need {d : Nat} {A : Mt} {t : List Int} (h : Gd d A t) (hd : 1 ≤ d ∧ d ≤ 3) (m : Store) : f_need_move [.d (mvD A t)] m = .ok (.d (mvD A t)) m := by
  rw [v_need_move (h.nc hd).2, h.good hd]
theorem fars_len {n d : Nat} : ∀ {A : Mt}, A.length = n → (∀ r ∈ A, r.length = d) → (fars A).length = n * d
  | [], h, _ => by simp at h; subst h; simp [fars]
  | r :: A, h, h2 => by
    have e := fars_len (A := A) (n := A.length) (d := d) rfl fun r hr => h2 r (by simp [hr])
    have : (fars (r :: A)).length = r.length + (fars A).length := by simp [fars]
    simp at h
    rw [this, e, h2 r (by simp), ← h, Nat.add_mul]
    omega
theorem mul_is {d : Nat} {A B : Mt} (ib : IsM d B) : IsM d (mul d B A) := by
  refine ⟨by simp [mul, ib.len], fun r hr => ?_⟩
  obtain ⟨q, _, rfl⟩ := List.mem_map.mp hr
  simp [trn]
theorem mvd_len {d : Nat} {A : Mt} {t p : List Int} (ia : IsM d A) (ht : t.length = d) : (mvd A t p).length = d := by
  simp [mvd, led, ia.len, ht]
theorem far_fit {d : Nat} (hd : d ≤ 3) : (d + 1) * d ≤ 1000 := Nat.le_trans (Nat.mul_le_mul (Nat.add_le_add_right hd 1) hd) (by decide)
theorem v_composed {d e : Nat} {A B : Mt} {t s : List Int} (ha : Gd d A t) (hb : Gd e B s) (hd : 1 ≤ d ∧ d ≤ 3) (he : 1 ≤ e ∧ e ≤ 3) (m : Store) :
    f_composed [.d (mvD A t), .d (mvD B s)] m = (if e = d then (if (fars (mul d B A ++ [mvd B s t])).any id then Out.e great else Out.d (mvD (mul d B A) (mvd B s t))) else Out.e ⟨5, none⟩).rs m := by
  have n1 : sCall f_need_move (lCons (sVar 0) lNil) (start0 2 [.d (mvD A t), .d (mvD B s)]) m = .ok (.d (mvD A t)) m := sCall_ok (lCons_ok (sVar_ok rfl) lNil_ok) (ha.need hd m)
  have n2 : sCall f_need_move (lCons (sVar 1) lNil) (start0 2 [.d (mvD A t), .d (mvD B s)]) m = .ok (.d (mvD B s)) m := sCall_ok (lCons_ok (sVar_ok rfl) lNil_ok) (hb.need he m)
  have t2 : sT (sBin oNe (sUn oLen (sBin oIx (sCall f_need_move (lCons (sVar 1) lNil)) (sC (.int 1)))) (sUn oLen (sBin oIx (sVar 0) (sC (.int 1))))) (start0 2 [.d (mvD A t), .d (mvD B s)]) m = .ok (!decide (e = d)) m := by
    refine sT_ok (sBin_ok (sUn_ok (sBin_ok n2 (sC_ok _) rfl rfl rfl) rfl (oLen_t _)) (sUn_ok (sBin_ok (sVar_ok rfl) (sC_ok _) rfl rfl rfl) rfl (oLen_t _)) rfl rfl ((oNe_int _ _).trans ?_))
    have : decide (((s.map Dv.int).length : Int) = ((t.map Dv.int).length : Nat)) = decide (e = d) := decide_eq_decide.mpr (by simp only [List.length_map, ha.len, hb.len]; omega)
    rw [this]
  by_cases hx : e = d
  · subst hx
    rw [decide_eq_true rfl] at t2
    rw [if_pos rfl]
    have r1 := v_comp_in (s := s) (t := t) ha.is hb.is hd (by decide) hb.lm m
    have fl : (fars (mul e B A ++ [mvd B s t])).length ≤ 1000 := by
      have h1 := mul_is (A := A) hb.is
      rw [fars_len (n := e + 1) (d := e) (by simp [h1.len]) (fun r hr => by
        rcases List.mem_append.mp hr with z | z
        · exact h1.row r z
        · simp at z; subst z; exact mvd_len hb.is hb.len)]
      exact far_fit hd.2
    have r2 := v_let_move (A := mul e B A) (t := mvd B s t) fl (by rw [(mul_is hb.is).len]; omega) m
    have ar := lCons_ok (sCall_ok (lCons_ok (sVar_ok (i := 0) (en := start0 2 [.d (mvD A t), .d (mvD B s)]) rfl) (lCons_ok (sVar_ok (i := 1) rfl) lNil_ok)) r1) lNil_ok
    cases ea : (fars (mul e B A ++ [mvd B s t])).any id with
    | true =>
      rw [ea] at r2
      exact fin_ex rfl ((gSeq_ok (gExpr_ok n1)).trans ((gSeq_ok ((gIf_f t2).trans rfl)).trans (gRet_ex (sCall_ex2 ar r2))))
    | false =>
      rw [ea] at r2
      exact fin_d rfl ((gSeq_ok (gExpr_ok n1)).trans ((gSeq_ok ((gIf_f t2).trans rfl)).trans (gRet_ok (sCall_ok ar r2))))
  · rw [decide_eq_false hx] at t2
    rw [if_neg hx]
    exact fin_ex rfl ((gSeq_ok (gExpr_ok n1)).trans (gSeq_ex ((gIf_t t2).trans rfl)))
end K21
end

section
set_option Elab.async false
set_option linter.all false
set_option maxRecDepth 100000
set_option maxHeartbeats 4000000
namespace K21
open PySem PySem.Spec PyProof.Rows L2 EvL EvH K21M
/-! turned_lines: the adjugate -/
def gt (A : Mt) (i j : Nat) : Int := (A.getD i []).getD j 0
def cof (A : Mt) (p n : Nat) : Int := gt A ((n + 1) % 3) ((p + 1) % 3) * gt A ((n + 2) % 3) ((p + 2) % 3) - gt A ((n + 1) % 3) ((p + 2) % 3) * gt A ((n + 2) % 3) ((p + 1) % 3)
def adj (d : Nat) (A : Mt) : Mt := match d with
  | 1 => [[1]]
  | 2 => [[gt A 1 1, 0 - gt A 0 1], [0 - gt A 1 0, gt A 0 0]]
  | _ => (List.range 3).map fun p => (List.range 3).map fun n => cof A p n
def bodyI : SemS := (gSeq (gAsg (sF (fLst (lCons (sBin oIx (sVar 0) (sBin oMod (sBin oAddP (sVar 4) (sC (.int 1))) (sC (.int 3)))) (lCons (sBin oIx (sVar 0) (sBin oMod (sBin oAddP (sVar 4) (sC (.int 2))) (sC (.int 3)))) lNil)))) (tgLst 2 (tgCons (tgN 5) (tgCons (tgN 6) tgNil)))) (gSeq (gPar 7 8 (lCons (sBin oMod (sBin oAddP (sVar 2) (sC (.int 1))) (sC (.int 3))) (lCons (sBin oMod (sBin oAddP (sVar 2) (sC (.int 2))) (sC (.int 3))) lNil))) (gApp 3 (sBin oSub (sBin oMulP (sBin oIx (sVar 5) (sVar 7)) (sBin oIx (sVar 6) (sVar 8))) (sBin oMulP (sBin oIx (sVar 5) (sVar 8)) (sBin oIx (sVar 6) (sVar 7)))))))
theorem adj_step {a b c e f g i j k : Int} (h : lim 1000 [[a, b, c], [e, f, g], [i, j, k]]) {p n : Nat} (hp : p = 0 ∨ p = 1 ∨ p = 2) (hn : n = 0 ∨ n = 1 ∨ n = 2) {q1 q3 : Nat} {e5 e6 e7 e8 : Option Sv} {acc : List Dv} {S : Store} (hq : S[q3]? = some (.lst acc)) (hf : acc.length ≤ 2) :
    ∃ f5 f6 f7 f8, bodyI [some (.d (.tup (tm [[a, b, c], [e, f, g], [i, j, k]]))), some (.o q1), some (.d (.int p)), some (.o q3), some (.d (.int n)), e5, e6, e7, e8] S = .nx [some (.d (.tup (tm [[a, b, c], [e, f, g], [i, j, k]]))), some (.o q1), some (.d (.int p)), some (.o q3), some (.d (.int n)), f5, f6, f7, f8] (S.set q3 (.lst (acc ++ [.int (cof [[a, b, c], [e, f, g], [i, j, k]] p n)]))) := by
  have ha := mk1 (h [a, b, c] (by simp) a (by simp))
  have hb := mk1 (h [a, b, c] (by simp) b (by simp))
  have hc := mk1 (h [a, b, c] (by simp) c (by simp))
  have he := mk1 (h [e, f, g] (by simp) e (by simp))
  have hf' := mk1 (h [e, f, g] (by simp) f (by simp))
  have hg := mk1 (h [e, f, g] (by simp) g (by simp))
  have hi := mk1 (h [i, j, k] (by simp) i (by simp))
  have hj := mk1 (h [i, j, k] (by simp) j (by simp))
  have hk := mk1 (h [i, j, k] (by simp) k (by simp))
  have fit : fits (acc.length + 1) = true := fits_le (by omega)
  rcases hp with rfl | rfl | rfl <;> rcases hn with rfl | rfl | rfl
  all_goals
    refine ⟨_, _, _, _, (gSeq_ok (gAsg_ok (sF_ok (lst_ok (lCons_ok (sBin_ok (sVar_ok rfl) (sBin_ok (sBin_ok (sVar_ok rfl) (sC_ok _) rfl rfl rfl) (sC_ok _) rfl rfl rfl) rfl rfl rfl) (lCons_ok (sBin_ok (sVar_ok rfl) (sBin_ok (sBin_ok (sVar_ok rfl) (sC_ok _) rfl rfl rfl) (sC_ok _) rfl rfl rfl) rfl rfl rfl) lNil_ok)) rfl rfl)) rfl)).trans ((gSeq_ok (gPar_ok (lCons_ok (sBin_ok (sBin_ok (sVar_ok rfl) (sC_ok _) rfl rfl rfl) (sC_ok _) rfl rfl rfl) (lCons_ok (sBin_ok (sBin_ok (sVar_ok rfl) (sC_ok _) rfl rfl rfl) (sC_ok _) rfl rfl rfl) lNil_ok)))).trans (gApp_ok rfl hq (sBin_ok (sBin_ok (sBin_ok (sVar_ok rfl) (sVar_ok rfl) rfl rfl rfl) (sBin_ok (sVar_ok rfl) (sVar_ok rfl) rfl rfl rfl) rfl rfl (oMulP_i _ _ ?_)) (sBin_ok (sBin_ok (sVar_ok rfl) (sVar_ok rfl) rfl rfl rfl) (sBin_ok (sVar_ok rfl) (sVar_ok rfl) rfl rfl rfl) rfl rfl (oMulP_i _ _ ?_)) rfl rfl rfl) hq fit))⟩
    all_goals first | exact ha _ | exact hb _ | exact hc _ | exact he _ | exact hf' _ | exact hg _ | exact hi _ | exact hj _ | exact hk _
theorem row_step {a b c e f g i j k : Int} (h : lim 1000 [[a, b, c], [e, f, g], [i, j, k]]) {p : Nat} (hp : p = 0 ∨ p = 1 ∨ p = 2) {q1 q3 : Nat} {e4 e5 e6 e7 e8 : Option Sv} {S : Store} (hq : S[q3]? = some (.lst [])) :
    ∃ f4 f5 f6 f7 f8, loop (tgN 4) bodyI (rng 0 3) [some (.d (.tup (tm [[a, b, c], [e, f, g], [i, j, k]]))), some (.o q1), some (.d (.int p)), some (.o q3), e4, e5, e6, e7, e8] S = .nx [some (.d (.tup (tm [[a, b, c], [e, f, g], [i, j, k]]))), some (.o q1), some (.d (.int p)), some (.o q3), f4, f5, f6, f7, f8] (S.set q3 (.lst (((List.range 3).map fun n => cof [[a, b, c], [e, f, g], [i, j, k]] p n).map .int))) := by
  rw [rng3]
  obtain ⟨f5, f6, f7, f8, s1⟩ := adj_step (q1 := q1) (e5 := e5) (e6 := e6) (e7 := e7) (e8 := e8) h hp (n := 0) (.inl rfl) hq (by simp)
  obtain ⟨g5, g6, g7, g8, s2⟩ := adj_step (q1 := q1) (e5 := f5) (e6 := f6) (e7 := f7) (e8 := f8) h hp (n := 1) (.inr (.inl rfl)) (acc := [.int (cof [[a, b, c], [e, f, g], [i, j, k]] p 0)]) (get_set (x := .lst [.int (cof [[a, b, c], [e, f, g], [i, j, k]] p 0)]) hq) (by simp)
  obtain ⟨h5, h6, h7, h8, s3⟩ := adj_step (q1 := q1) (e5 := g5) (e6 := g6) (e7 := g7) (e8 := g8) h hp (n := 2) (.inr (.inr rfl)) (acc := [.int (cof [[a, b, c], [e, f, g], [i, j, k]] p 0), .int (cof [[a, b, c], [e, f, g], [i, j, k]] p 1)]) (get_set (x := .lst [.int (cof [[a, b, c], [e, f, g], [i, j, k]] p 0), .int (cof [[a, b, c], [e, f, g], [i, j, k]] p 1)]) (get_set (x := .lst [.int (cof [[a, b, c], [e, f, g], [i, j, k]] p 0)]) hq)) (by simp)
  refine ⟨some (.d (.int 2)), h5, h6, h7, h8, (loop_c rfl s1).trans ((loop_c rfl s2).trans ((loop_c rfl s3).trans ?_))⟩
  rw [List.set_set, List.set_set]
  rfl
end K21
end

section
set_option Elab.async false
set_option linter.all false
set_option maxRecDepth 100000
set_option maxHeartbeats 4000000
namespace K21
open PySem PySem.Spec PyProof.Rows L2 EvL EvH K21M
def bodyO : SemS := (gSeq (gNew 3 (fLst lNil)) (gSeq (gFor (iRange1 (sC (.int 3))) (tgN 4) bodyI) (gApp 1 (sUn oTuple (sVar 3)))))
theorem out_step {a b c e f g i j k : Int} (h : lim 1000 [[a, b, c], [e, f, g], [i, j, k]]) {p : Nat} (hp : p = 0 ∨ p = 1 ∨ p = 2) {m : Store} {e3 e4 e5 e6 e7 e8 : Option Sv} {S : Store} {acc : List Dv} (ht : S.take m.length = m) (hq : S[m.length]? = some (.lst acc)) (hf : acc.length ≤ 2) :
    ∃ f3 f4 f5 f6 f7 f8 S', bodyO [some (.d (.tup (tm [[a, b, c], [e, f, g], [i, j, k]]))), some (.o m.length), some (.d (.int p)), e3, e4, e5, e6, e7, e8] S = .nx [some (.d (.tup (tm [[a, b, c], [e, f, g], [i, j, k]]))), some (.o m.length), some (.d (.int p)), f3, f4, f5, f6, f7, f8] S' ∧ S'.take m.length = m ∧ S'[m.length]? = some (.lst (acc ++ [trow ((List.range 3).map fun n => cof [[a, b, c], [e, f, g], [i, j, k]] p n)])) := by
  have hlt := (List.getElem?_eq_some_iff.mp hq).1
  obtain ⟨f4, f5, f6, f7, f8, s⟩ := row_step (q1 := m.length) (q3 := S.length) (e4 := e4) (e5 := e5) (e6 := e6) (e7 := e7) (e8 := e8) h hp (get_push S (.lst []))
  have hq2 : ((S ++ [So.lst []]).set S.length (.lst (((List.range 3).map fun n => cof [[a, b, c], [e, f, g], [i, j, k]] p n).map .int)))[m.length]? = some (.lst acc) := by
    rw [List.getElem?_set_ne (by omega)]
    exact get_keep hq
  have hq3 : ((S ++ [So.lst []]).set S.length (.lst (((List.range 3).map fun n => cof [[a, b, c], [e, f, g], [i, j, k]] p n).map .int)))[S.length]? = some (.lst (((List.range 3).map fun n => cof [[a, b, c], [e, f, g], [i, j, k]] p n).map .int)) := get_set (get_push _ _)
  refine ⟨_, _, _, _, _, _, _, (gSeq_ok (gNew_ok (lst_ok lNil_ok rfl rfl))).trans ((gSeq_ok ((gFor_ok (iRange1_ok (sC_ok _) (by decide) (by decide))).trans s)).trans (gApp_ok rfl hq2 (sUn_ok (sVar_ok rfl) (rv_lst hq3) rfl) hq2 (fits_le (by omega)))), ?_, get_set hq2⟩
  rw [List.take_set_of_le (by omega), List.take_set_of_le (by omega), List.take_append_of_le_length (by omega)]
  exact ht
theorem v_turned {d : Nat} {A : Mt} (is : IsM d A) (hd : 1 ≤ d ∧ d ≤ 3) (hl : lim 1000 A) (m : Store) : f_turned_lines [.d (.tup (tm A))] m = .ok (.d (.tup (tm (adj d A)))) m := by
  have : d = 1 ∨ d = 2 ∨ d = 3 := by omega
  rcases this with rfl | rfl | rfl
  · obtain ⟨a, rfl⟩ := is.one
    have t1 : sT (sBin oEq (sUn oLen (sVar 0)) (sC (.int 1))) (start0 9 [.d (.tup (tm [[a]]))]) m = .ok true m := sT_ok (sBin_ok (sUn_ok (sVar_ok rfl) rfl rfl) (sC_ok _) rfl rfl (oEq_int _ _))
    exact fin_d rfl (gSeq_rt ((gIf_t t1).trans (gRet_ok (tup_ok (lCons_ok (tup_ok (lCons_ok (sC_ok _) lNil_ok) rfl rfl) lNil_ok) rfl rfl))))
  · obtain ⟨a, b, c, e, rfl⟩ := is.two
    have t1 : sT (sBin oEq (sUn oLen (sVar 0)) (sC (.int 1))) (start0 9 [.d (.tup (tm [[a, b], [c, e]]))]) m = .ok false m := sT_ok (sBin_ok (sUn_ok (sVar_ok rfl) rfl rfl) (sC_ok _) rfl rfl (oEq_int _ _))
    have t2 : sT (sBin oEq (sUn oLen (sVar 0)) (sC (.int 2))) (start0 9 [.d (.tup (tm [[a, b], [c, e]]))]) m = .ok true m := sT_ok (sBin_ok (sUn_ok (sVar_ok rfl) rfl rfl) (sC_ok _) rfl rfl (oEq_int _ _))
    refine fin_d rfl ((gSeq_ok ((gIf_f t1).trans rfl)).trans (gSeq_rt ((gIf_t t2).trans (gRet_ok ?_))))
    exact tup_ok (lCons_ok (tup_ok (lCons_ok (sBin_ok (sBin_ok (sVar_ok rfl) (sC_ok _) rfl rfl rfl) (sC_ok _) rfl rfl rfl) (lCons_ok (sBin_ok (sC_ok _) (sBin_ok (sBin_ok (sVar_ok rfl) (sC_ok _) rfl rfl rfl) (sC_ok _) rfl rfl rfl) rfl rfl rfl) lNil_ok)) rfl rfl) (lCons_ok (tup_ok (lCons_ok (sBin_ok (sC_ok _) (sBin_ok (sBin_ok (sVar_ok rfl) (sC_ok _) rfl rfl rfl) (sC_ok _) rfl rfl rfl) rfl rfl rfl) (lCons_ok (sBin_ok (sBin_ok (sVar_ok rfl) (sC_ok _) rfl rfl rfl) (sC_ok _) rfl rfl rfl) lNil_ok)) rfl rfl) lNil_ok)) rfl rfl
  · obtain ⟨a, b, c, e, f, g, i, j, k, rfl⟩ := is.three
    have t1 : sT (sBin oEq (sUn oLen (sVar 0)) (sC (.int 1))) (start0 9 [.d (.tup (tm [[a, b, c], [e, f, g], [i, j, k]]))]) m = .ok false m := sT_ok (sBin_ok (sUn_ok (sVar_ok rfl) rfl rfl) (sC_ok _) rfl rfl (oEq_int _ _))
    have t2 : sT (sBin oEq (sUn oLen (sVar 0)) (sC (.int 2))) (start0 9 [.d (.tup (tm [[a, b, c], [e, f, g], [i, j, k]]))]) m = .ok false m := sT_ok (sBin_ok (sUn_ok (sVar_ok rfl) rfl rfl) (sC_ok _) rfl rfl (oEq_int _ _))
    obtain ⟨f3, f4, f5, f6, f7, f8, S1, s1, p1, q1⟩ := out_step (e3 := none) (e4 := none) (e5 := none) (e6 := none) (e7 := none) (e8 := none) hl (p := 0) (.inl rfl) (m := m) (S := m ++ [.lst []]) (by simp) (get_push _ _) (by simp)
    obtain ⟨g3, g4, g5, g6, g7, g8, S2, s2, p2, q2⟩ := out_step (e3 := f3) (e4 := f4) (e5 := f5) (e6 := f6) (e7 := f7) (e8 := f8) hl (p := 1) (.inr (.inl rfl)) (m := m) p1 q1 (by simp)
    obtain ⟨h3, h4, h5, h6, h7, h8, S3, s3, p3, q3⟩ := out_step (e3 := g3) (e4 := g4) (e5 := g5) (e6 := g6) (e7 := g7) (e8 := g8) hl (p := 2) (.inr (.inr rfl)) (m := m) p2 q2 (by simp)
    refine (fn_d (m1 := S3) (d := .tup (tm (adj 3 [[a, b, c], [e, f, g], [i, j, k]]))) rfl ?_).trans (by rw [p3])
    refine (gSeq_ok ((gIf_f t1).trans rfl)).trans ((gSeq_ok ((gIf_f t2).trans rfl)).trans ((gSeq_ok (gNew_ok (lst_ok lNil_ok rfl rfl))).trans ((gSeq_ok (e1 := [some (.d (.tup (tm [[a, b, c], [e, f, g], [i, j, k]]))), some (.o m.length), some (.d (.int 2)), h3, h4, h5, h6, h7, h8]) (m1 := S3) ((gFor_ok (iRange1_ok (sC_ok _) (by decide) (by decide))).trans ?_)).trans (gRet_ok (sUn_ok (sVar_ok rfl) (rv_lst q3) rfl)))))
    rw [rng3]
    exact (loop_c rfl s1).trans ((loop_c rfl s2).trans ((loop_c rfl s3).trans rfl))
end K21
end

section
set_option Elab.async false
set_option linter.all false
set_option maxRecDepth 100000
set_option maxHeartbeats 4000000
namespace K21
open PySem PySem.Spec PyProof.Rows L2 EvL EvH K21M
/-! the inverse -/
def invL (d : Nat) (A : Mt) : Mt := (adj d A).map fun r => r.map fun x => dt A * x
def invT (d : Nat) (A : Mt) (t : List Int) : List Int := (led (invL d A) t).map fun x => 0 - x
theorem cmp_rows {fi : SemF} {G : Tgt} {f : Sem1} {vs : List Nat} {en : En} {S S1 : Store} {A : Mt} (v : List Int → Dv) (hfi : fi en S = .ok (tm A) S1) (hl : A.length ≤ 1000)
    (hs : ∀ r acc, r ∈ A → ∃ en', G (.d (trow r)) (wipeE en vs) (S1 ++ [.lst acc]) = some en' ∧ f en' (S1 ++ [.lst acc]) = .ok (.d (v r)) (S1 ++ [.lst acc])) :
    fComp fi G bYes f vs en S = .ok (A.map v) S1 := by
  have e : A.map v = ((tm A).filter fun _ => true).map fun x => v (rowOf x) := by
    rw [filt]
    unfold tm
    rw [List.map_map]
    refine List.map_congr_left fun r _ => ?_
    show v r = v (rowOf (trow r))
    rw [rowOf_t]
  rw [e]
  refine comp_pure (fun _ => true) _ hfi (by simp [tm]; omega) fun d acc hd => ?_
  obtain ⟨r, hr, rfl⟩ := List.mem_map.mp hd
  obtain ⟨en', h1, h2⟩ := hs r acc hr
  exact ⟨en', h1, rfl, fun _ => by rw [rowOf_t]; exact h2⟩
theorem gt_lim {b : Int} {A : Mt} (h : lim b A) (hb : 0 ≤ b) (i j : Nat) : -b ≤ gt A i j ∧ gt A i j ≤ b := by
  unfold gt
  by_cases hi : i < A.length
  · rw [gd_lt hi]
    by_cases hj : j < A[i].length
    · have : A[i].getD j 0 = A[i][j] := by simp [List.getD_eq_getElem?_getD, hj]
      rw [this]
      exact h _ (List.getElem_mem _) _ (List.getElem_mem _)
    · have : A[i].getD j 0 = 0 := by simp [List.getD_eq_getElem?_getD, List.getElem?_eq_none (Nat.le_of_not_lt hj)]
      rw [this]; omega
  · rw [gd_ge (by omega)]
    simp; omega
theorem mul_lim {a b x y : Int} (hx : -a ≤ x ∧ x ≤ a) (hy : -b ≤ y ∧ y ≤ b) : -(a * b) ≤ x * y ∧ x * y ≤ a * b := by
  have h1 : x.natAbs ≤ a.natAbs := by omega
  have h2 : y.natAbs ≤ b.natAbs := by omega
  have h3 := Nat.mul_le_mul h1 h2
  have e1 : (x * y).natAbs = x.natAbs * y.natAbs := Int.natAbs_mul _ _
  have e2 : (a * b).natAbs = a.natAbs * b.natAbs := Int.natAbs_mul _ _
  have e3 : 0 ≤ a * b := Int.mul_nonneg (by omega) (by omega)
  omega
theorem cof_lim {A : Mt} (h : lim 1000 A) (p n : Nat) : -2000000 ≤ cof A p n ∧ cof A p n ≤ 2000000 := by
  unfold cof
  have h1 := mul_lim (gt_lim h (by decide) ((n + 1) % 3) ((p + 1) % 3)) (gt_lim h (by decide) ((n + 2) % 3) ((p + 2) % 3))
  have h2 := mul_lim (gt_lim h (by decide) ((n + 1) % 3) ((p + 2) % 3)) (gt_lim h (by decide) ((n + 2) % 3) ((p + 1) % 3))
  omega
theorem adj_is {d : Nat} (A : Mt) (hd : 1 ≤ d ∧ d ≤ 3) : IsM d (adj d A) := by
  have : d = 1 ∨ d = 2 ∨ d = 3 := by omega
  rcases this with rfl | rfl | rfl
  · exact ⟨rfl, by simp [adj]⟩
  · exact ⟨rfl, by simp [adj]⟩
  · refine ⟨rfl, fun r hr => ?_⟩
    obtain ⟨p, _, rfl⟩ := List.mem_map.mp hr
    rfl
theorem adj_lim {d : Nat} {A : Mt} (hd : 1 ≤ d ∧ d ≤ 3) (h : lim 1000 A) : lim 2000000 (adj d A) := by
  have : d = 1 ∨ d = 2 ∨ d = 3 := by omega
  intro r hr x hx
  have g := fun i j => gt_lim h (by decide) i j
  rcases this with rfl | rfl | rfl
  · simp [adj] at hr; subst hr; simp at hx; omega
  · have := g 0 0
    have := g 0 1
    have := g 1 0
    have := g 1 1
    simp [adj] at hr
    rcases hr with rfl | rfl <;> simp at hx <;> rcases hx with rfl | rfl <;> omega
  · obtain ⟨p, _, rfl⟩ := List.mem_map.mp hr
    obtain ⟨n, _, rfl⟩ := List.mem_map.mp hx
    exact cof_lim h p n
theorem inv_is {d : Nat} (A : Mt) (hd : 1 ≤ d ∧ d ≤ 3) : IsM d (invL d A) := by
  have h := adj_is A hd
  refine ⟨by simp [invL, h.len], fun r hr => ?_⟩
  obtain ⟨q, hq, rfl⟩ := List.mem_map.mp hr
  simp [h.row q hq]
theorem inv_lim {d : Nat} {A : Mt} (hd : 1 ≤ d ∧ d ≤ 3) (h : lim 1000 A) (hdt : dt A = 1 ∨ dt A = -1) : lim 2000000 (invL d A) := by
  intro r hr x hx
  obtain ⟨q, hq, rfl⟩ := List.mem_map.mp hr
  obtain ⟨y, hy, rfl⟩ := List.mem_map.mp hx
  have := adj_lim hd h q hq y hy
  rcases hdt with e | e <;> rw [e] <;> omega
theorem v_inv_in {d : Nat} {A : Mt} {t : List Int} (g : Gd d A t) (hd : 1 ≤ d ∧ d ≤ 3) (m : Store) : f_inverse_in [.d (mvD A t)] m = .ok (.d (mvD (invL d A) (invT d A t))) m := by
  have r1 := v_det g.is hd g.lm m
  have r2 := v_turned g.is hd g.lm m
  have ai := adj_is A hd
  have ii := inv_is A hd
  have r3 := v_led (t := t) (b := 2000000) (by rw [ii.len]; omega) (fun r hr => by rw [ii.row r hr]; omega) (by decide) (inv_lim hd g.lm g.det) m
  have mk : ∀ y, mulOk (dt A) y = true := mkB (b := 1) (by decide) (by rcases g.det with e | e <;> rw [e] <;> decide)
  have e1 : tm (invL d A) = (adj d A).map fun r => trow (r.map fun x => dt A * x) := by simp [tm, invL]
  have e2 : (invT d A t).map Dv.int = (led (invL d A) t).map fun x => Dv.int (0 - x) := by simp [invT]
  have c1 : fComp (iSeq (sCall f_turned_lines (lCons (sBin oIx (sVar 0) (sC (.int 0))) lNil))) (tgN 3) bYes (sUn oTuple (sF (fComp (iSeq (sVar 3)) (tgN 4) bYes (sBin oMulP (sVar 1) (sVar 4)) [4]))) [3] [some (.d (mvD A t)), some (.d (.int (dt A))), none, none, none] m = .ok (tm (invL d A)) m := by
    rw [e1]
    refine cmp_rows _ (iSeq_t (sCall_ok (lCons_ok (sBin_ok (sVar_ok rfl) (sC_ok _) rfl rfl rfl) lNil_ok) r2)) (by rw [ai.len]; omega) fun r acc hr => ⟨_, rfl, ?_⟩
    refine sUn_ok (u := .lst ((r.map fun x => dt A * x).map .int)) (sF_ok ?_) rfl rfl
    have e3 : ((r.map fun x => dt A * x).map Dv.int) = r.map fun x => Dv.int (dt A * x) := by simp
    rw [e3]
    exact cmp_ints _ (iSeq_t (sVar_ok rfl)) (by rw [ai.row r hr]; omega) fun x acc hx => ⟨_, rfl, sBin_ok (sVar_ok rfl) (sVar_ok rfl) rfl rfl (oMulP_i _ _ (mk _))⟩
  have c2 : fComp (iSeq (sCall f_led_by_lines (lCons (sVar 2) (lCons (sBin oIx (sVar 0) (sC (.int 1))) lNil)))) (tgN 4) bYes (sBin oSub (sC (.int 0)) (sVar 4)) [4] [some (.d (mvD A t)), some (.d (.int (dt A))), some (.d (.tup (tm (invL d A)))), none, none] m = .ok ((invT d A t).map .int) m := by
    rw [e2]
    refine cmp_ints _ (iSeq_t (sCall_ok (lCons_ok (sVar_ok rfl) (lCons_ok (sBin_ok (sVar_ok rfl) (sC_ok _) rfl rfl rfl) lNil_ok)) r3)) (by simp [led, ii.len]; omega) fun x acc hx => ⟨_, rfl, sBin_ok (sC_ok _) (sVar_ok rfl) rfl rfl rfl⟩
  refine fin_d rfl ((gSeq_ok (gSet_ok (sCall_ok (lCons_ok (sBin_ok (sVar_ok rfl) (sC_ok _) rfl rfl rfl) lNil_ok) r1))).trans ((gSeq_ok (gSet_ok (x := .d (.tup (tm (invL d A)))) (sUn_ok (sF_ok c1) rfl rfl))).trans (gRet_ok ?_)))
  exact tup_ok (lCons_ok (sVar_ok rfl) (lCons_ok (sUn_ok (sF_ok c2) rfl rfl) lNil_ok)) rfl rfl
theorem v_inverse {d : Nat} {A : Mt} {t : List Int} (g : Gd d A t) (hd : 1 ≤ d ∧ d ≤ 3) (m : Store) : f_inverse_move [.d (mvD A t)] m = (if (fars (invL d A ++ [invT d A t])).any id then Out.e great else Out.d (mvD (invL d A) (invT d A t))).rs m := by
  have r1 := v_inv_in g hd m
  have ii := inv_is A hd
  have fl : (fars (invL d A ++ [invT d A t])).length ≤ 1000 := by
    rw [fars_len (n := d + 1) (d := d) (by simp [ii.len]) (fun r hr => by
      rcases List.mem_append.mp hr with z | z
      · exact ii.row r z
      · simp at z; subst z; simp [invT, led, ii.len])]
    exact far_fit hd.2
  have r2 := v_let_move (A := invL d A) (t := invT d A t) fl (by rw [ii.len]; omega) m
  have ar := lCons_ok (sCall_ok (lCons_ok (sCall_ok (lCons_ok (sVar_ok (i := 0) (en := start0 1 [.d (mvD A t)]) rfl) lNil_ok) (g.need hd m)) lNil_ok) r1) lNil_ok
  exact fin_out rfl (gRet_out (by
    cases ea : (fars (invL d A ++ [invT d A t])).any id with
    | true =>
      rw [ea] at r2
      exact sCall_ex2 ar r2
    | false =>
      rw [ea] at r2
      exact sCall_ok ar r2))
end K21
end

section
set_option Elab.async false
set_option linter.all false
set_option maxRecDepth 100000
set_option maxHeartbeats 4000000
namespace K21
open PySem PySem.Spec PyProof.Rows L2 EvL EvH K21M
/-! identities -/
theorem dd {x : Int} (h : x = 1 ∨ x = -1) : x * x = 1 := by rcases h with rfl | rfl <;> rfl
theorem lin2 (D x y a b : Int) : D * x * a + (D * y * b + 0) = D * (x * a + y * b) := by grind
theorem lin3 (D x y z a b c : Int) : D * x * a + (D * y * b + (D * z * c + 0)) = D * (x * a + y * b + z * c) := by grind
theorem lin2' (D x y a b : Int) : a * (D * x) + (b * (D * y) + 0) = D * (a * x + b * y) := by grind
theorem lin3' (D x y z a b c : Int) : a * (D * x) + (b * (D * y) + (c * (D * z) + 0)) = D * (a * x + b * y + c * z) := by grind

theorem mul_inv1 {d : Nat} {A : Mt} (is : IsM d A) (hd : 1 ≤ d ∧ d ≤ 3) (hdt : dt A = 1 ∨ dt A = -1) : mul d (invL d A) A = idn d := by
  have : d = 1 ∨ d = 2 ∨ d = 3 := by omega
  rcases this with rfl | rfl | rfl
  · obtain ⟨a, rfl⟩ := is.one
    have h := dd hdt
    simp [dt] at h
    simp [invL, adj, dt, mul, trn, dot, idn, h]
  · obtain ⟨a, b, c, e, rfl⟩ := is.two
    have h := dd hdt
    generalize hD : dt [[a, b], [c, e]] = D at h hdt
    have hD' : a * e - b * c = D := hD
    have hi : invL 2 [[a, b], [c, e]] = [[D * (e), D * (0 - b)], [D * (0 - c), D * (a)]] := by rw [← hD]; rfl
    have s00 : (e) * a + (0 - b) * c = D := by rw [← hD']; try grind
    have e00 : D * (e) * a + (D * (0 - b) * c + 0) = 1 := by rw [lin2, s00, h]
    have s01 : (e) * b + (0 - b) * e = 0 := by grind
    have e01 : D * (e) * b + (D * (0 - b) * e + 0) = 0 := by rw [lin2, s01, Int.mul_zero]
    have s10 : (0 - c) * a + (a) * c = 0 := by grind
    have e10 : D * (0 - c) * a + (D * (a) * c + 0) = 0 := by rw [lin2, s10, Int.mul_zero]
    have s11 : (0 - c) * b + (a) * e = D := by rw [← hD']; try grind
    have e11 : D * (0 - c) * b + (D * (a) * e + 0) = 1 := by rw [lin2, s11, h]
    rw [hi]
    show [[D * (e) * a + (D * (0 - b) * c + 0), D * (e) * b + (D * (0 - b) * e + 0)], [D * (0 - c) * a + (D * (a) * c + 0), D * (0 - c) * b + (D * (a) * e + 0)]] = _
    rw [e00, e01, e10, e11]
    rfl
  · obtain ⟨a, b, c, e, f, g, i, j, k, rfl⟩ := is.three
    have h := dd hdt
    generalize hD : dt [[a, b, c], [e, f, g], [i, j, k]] = D at h hdt
    have hD' : a * (f * k - g * j) + b * (g * i - e * k) + c * (e * j - f * i) = D := hD
    have hi : invL 3 [[a, b, c], [e, f, g], [i, j, k]] = [[D * (f * k - g * j), D * (j * c - k * b), D * (b * g - c * f)], [D * (g * i - e * k), D * (k * a - i * c), D * (c * e - a * g)], [D * (e * j - f * i), D * (i * b - j * a), D * (a * f - b * e)]] := by rw [← hD]; rfl
    have s00 : (f * k - g * j) * a + (j * c - k * b) * e + (b * g - c * f) * i = D := by rw [← hD']; try grind
    have e00 : D * (f * k - g * j) * a + (D * (j * c - k * b) * e + (D * (b * g - c * f) * i + 0)) = 1 := by rw [lin3, s00, h]
    have s01 : (f * k - g * j) * b + (j * c - k * b) * f + (b * g - c * f) * j = 0 := by grind
    have e01 : D * (f * k - g * j) * b + (D * (j * c - k * b) * f + (D * (b * g - c * f) * j + 0)) = 0 := by rw [lin3, s01, Int.mul_zero]
    have s02 : (f * k - g * j) * c + (j * c - k * b) * g + (b * g - c * f) * k = 0 := by grind
    have e02 : D * (f * k - g * j) * c + (D * (j * c - k * b) * g + (D * (b * g - c * f) * k + 0)) = 0 := by rw [lin3, s02, Int.mul_zero]
    have s10 : (g * i - e * k) * a + (k * a - i * c) * e + (c * e - a * g) * i = 0 := by grind
    have e10 : D * (g * i - e * k) * a + (D * (k * a - i * c) * e + (D * (c * e - a * g) * i + 0)) = 0 := by rw [lin3, s10, Int.mul_zero]
    have s11 : (g * i - e * k) * b + (k * a - i * c) * f + (c * e - a * g) * j = D := by rw [← hD']; try grind
    have e11 : D * (g * i - e * k) * b + (D * (k * a - i * c) * f + (D * (c * e - a * g) * j + 0)) = 1 := by rw [lin3, s11, h]
    have s12 : (g * i - e * k) * c + (k * a - i * c) * g + (c * e - a * g) * k = 0 := by grind
    have e12 : D * (g * i - e * k) * c + (D * (k * a - i * c) * g + (D * (c * e - a * g) * k + 0)) = 0 := by rw [lin3, s12, Int.mul_zero]
    have s20 : (e * j - f * i) * a + (i * b - j * a) * e + (a * f - b * e) * i = 0 := by grind
    have e20 : D * (e * j - f * i) * a + (D * (i * b - j * a) * e + (D * (a * f - b * e) * i + 0)) = 0 := by rw [lin3, s20, Int.mul_zero]
    have s21 : (e * j - f * i) * b + (i * b - j * a) * f + (a * f - b * e) * j = 0 := by grind
    have e21 : D * (e * j - f * i) * b + (D * (i * b - j * a) * f + (D * (a * f - b * e) * j + 0)) = 0 := by rw [lin3, s21, Int.mul_zero]
    have s22 : (e * j - f * i) * c + (i * b - j * a) * g + (a * f - b * e) * k = D := by rw [← hD']; try grind
    have e22 : D * (e * j - f * i) * c + (D * (i * b - j * a) * g + (D * (a * f - b * e) * k + 0)) = 1 := by rw [lin3, s22, h]
    rw [hi]
    show [[D * (f * k - g * j) * a + (D * (j * c - k * b) * e + (D * (b * g - c * f) * i + 0)), D * (f * k - g * j) * b + (D * (j * c - k * b) * f + (D * (b * g - c * f) * j + 0)), D * (f * k - g * j) * c + (D * (j * c - k * b) * g + (D * (b * g - c * f) * k + 0))], [D * (g * i - e * k) * a + (D * (k * a - i * c) * e + (D * (c * e - a * g) * i + 0)), D * (g * i - e * k) * b + (D * (k * a - i * c) * f + (D * (c * e - a * g) * j + 0)), D * (g * i - e * k) * c + (D * (k * a - i * c) * g + (D * (c * e - a * g) * k + 0))], [D * (e * j - f * i) * a + (D * (i * b - j * a) * e + (D * (a * f - b * e) * i + 0)), D * (e * j - f * i) * b + (D * (i * b - j * a) * f + (D * (a * f - b * e) * j + 0)), D * (e * j - f * i) * c + (D * (i * b - j * a) * g + (D * (a * f - b * e) * k + 0))]] = _
    rw [e00, e01, e02, e10, e11, e12, e20, e21, e22]
    rfl
theorem mul_inv2 {d : Nat} {A : Mt} (is : IsM d A) (hd : 1 ≤ d ∧ d ≤ 3) (hdt : dt A = 1 ∨ dt A = -1) : mul d A (invL d A) = idn d := by
  have : d = 1 ∨ d = 2 ∨ d = 3 := by omega
  rcases this with rfl | rfl | rfl
  · obtain ⟨a, rfl⟩ := is.one
    have h := dd hdt
    simp [dt] at h
    simp [invL, adj, dt, mul, trn, dot, idn, h]
  · obtain ⟨a, b, c, e, rfl⟩ := is.two
    have h := dd hdt
    generalize hD : dt [[a, b], [c, e]] = D at h hdt
    have hD' : a * e - b * c = D := hD
    have hi : invL 2 [[a, b], [c, e]] = [[D * (e), D * (0 - b)], [D * (0 - c), D * (a)]] := by rw [← hD]; rfl
    have s00 : a * (e) + b * (0 - c) = D := by rw [← hD']; try grind
    have e00 : a * (D * (e)) + (b * (D * (0 - c)) + 0) = 1 := by rw [lin2', s00, h]
    have s01 : a * (0 - b) + b * (a) = 0 := by grind
    have e01 : a * (D * (0 - b)) + (b * (D * (a)) + 0) = 0 := by rw [lin2', s01, Int.mul_zero]
    have s10 : c * (e) + e * (0 - c) = 0 := by grind
    have e10 : c * (D * (e)) + (e * (D * (0 - c)) + 0) = 0 := by rw [lin2', s10, Int.mul_zero]
    have s11 : c * (0 - b) + e * (a) = D := by rw [← hD']; try grind
    have e11 : c * (D * (0 - b)) + (e * (D * (a)) + 0) = 1 := by rw [lin2', s11, h]
    rw [hi]
    show [[a * (D * (e)) + (b * (D * (0 - c)) + 0), a * (D * (0 - b)) + (b * (D * (a)) + 0)], [c * (D * (e)) + (e * (D * (0 - c)) + 0), c * (D * (0 - b)) + (e * (D * (a)) + 0)]] = _
    rw [e00, e01, e10, e11]
    rfl
  · obtain ⟨a, b, c, e, f, g, i, j, k, rfl⟩ := is.three
    have h := dd hdt
    generalize hD : dt [[a, b, c], [e, f, g], [i, j, k]] = D at h hdt
    have hD' : a * (f * k - g * j) + b * (g * i - e * k) + c * (e * j - f * i) = D := hD
    have hi : invL 3 [[a, b, c], [e, f, g], [i, j, k]] = [[D * (f * k - g * j), D * (j * c - k * b), D * (b * g - c * f)], [D * (g * i - e * k), D * (k * a - i * c), D * (c * e - a * g)], [D * (e * j - f * i), D * (i * b - j * a), D * (a * f - b * e)]] := by rw [← hD]; rfl
    have s00 : a * (f * k - g * j) + b * (g * i - e * k) + c * (e * j - f * i) = D := by rw [← hD']; try grind
    have e00 : a * (D * (f * k - g * j)) + (b * (D * (g * i - e * k)) + (c * (D * (e * j - f * i)) + 0)) = 1 := by rw [lin3', s00, h]
    have s01 : a * (j * c - k * b) + b * (k * a - i * c) + c * (i * b - j * a) = 0 := by grind
    have e01 : a * (D * (j * c - k * b)) + (b * (D * (k * a - i * c)) + (c * (D * (i * b - j * a)) + 0)) = 0 := by rw [lin3', s01, Int.mul_zero]
    have s02 : a * (b * g - c * f) + b * (c * e - a * g) + c * (a * f - b * e) = 0 := by grind
    have e02 : a * (D * (b * g - c * f)) + (b * (D * (c * e - a * g)) + (c * (D * (a * f - b * e)) + 0)) = 0 := by rw [lin3', s02, Int.mul_zero]
    have s10 : e * (f * k - g * j) + f * (g * i - e * k) + g * (e * j - f * i) = 0 := by grind
    have e10 : e * (D * (f * k - g * j)) + (f * (D * (g * i - e * k)) + (g * (D * (e * j - f * i)) + 0)) = 0 := by rw [lin3', s10, Int.mul_zero]
    have s11 : e * (j * c - k * b) + f * (k * a - i * c) + g * (i * b - j * a) = D := by rw [← hD']; try grind
    have e11 : e * (D * (j * c - k * b)) + (f * (D * (k * a - i * c)) + (g * (D * (i * b - j * a)) + 0)) = 1 := by rw [lin3', s11, h]
    have s12 : e * (b * g - c * f) + f * (c * e - a * g) + g * (a * f - b * e) = 0 := by grind
    have e12 : e * (D * (b * g - c * f)) + (f * (D * (c * e - a * g)) + (g * (D * (a * f - b * e)) + 0)) = 0 := by rw [lin3', s12, Int.mul_zero]
    have s20 : i * (f * k - g * j) + j * (g * i - e * k) + k * (e * j - f * i) = 0 := by grind
    have e20 : i * (D * (f * k - g * j)) + (j * (D * (g * i - e * k)) + (k * (D * (e * j - f * i)) + 0)) = 0 := by rw [lin3', s20, Int.mul_zero]
    have s21 : i * (j * c - k * b) + j * (k * a - i * c) + k * (i * b - j * a) = 0 := by grind
    have e21 : i * (D * (j * c - k * b)) + (j * (D * (k * a - i * c)) + (k * (D * (i * b - j * a)) + 0)) = 0 := by rw [lin3', s21, Int.mul_zero]
    have s22 : i * (b * g - c * f) + j * (c * e - a * g) + k * (a * f - b * e) = D := by rw [← hD']; try grind
    have e22 : i * (D * (b * g - c * f)) + (j * (D * (c * e - a * g)) + (k * (D * (a * f - b * e)) + 0)) = 1 := by rw [lin3', s22, h]
    rw [hi]
    show [[a * (D * (f * k - g * j)) + (b * (D * (g * i - e * k)) + (c * (D * (e * j - f * i)) + 0)), a * (D * (j * c - k * b)) + (b * (D * (k * a - i * c)) + (c * (D * (i * b - j * a)) + 0)), a * (D * (b * g - c * f)) + (b * (D * (c * e - a * g)) + (c * (D * (a * f - b * e)) + 0))], [e * (D * (f * k - g * j)) + (f * (D * (g * i - e * k)) + (g * (D * (e * j - f * i)) + 0)), e * (D * (j * c - k * b)) + (f * (D * (k * a - i * c)) + (g * (D * (i * b - j * a)) + 0)), e * (D * (b * g - c * f)) + (f * (D * (c * e - a * g)) + (g * (D * (a * f - b * e)) + 0))], [i * (D * (f * k - g * j)) + (j * (D * (g * i - e * k)) + (k * (D * (e * j - f * i)) + 0)), i * (D * (j * c - k * b)) + (j * (D * (k * a - i * c)) + (k * (D * (i * b - j * a)) + 0)), i * (D * (b * g - c * f)) + (j * (D * (c * e - a * g)) + (k * (D * (a * f - b * e)) + 0))]] = _
    rw [e00, e01, e02, e10, e11, e12, e20, e21, e22]
    rfl
theorem det_lin (D p q r s t u v w x : Int) : D * p * (D * t * (D * x) - D * u * (D * w)) + D * q * (D * u * (D * v) - D * s * (D * x)) + D * r * (D * s * (D * w) - D * t * (D * v)) = D * D * (D * (p * (t * x - u * w) + q * (u * v - s * x) + r * (s * w - t * v))) := by grind
theorem dt_inv {d : Nat} {A : Mt} (is : IsM d A) (hd : 1 ≤ d ∧ d ≤ 3) (hdt : dt A = 1 ∨ dt A = -1) : dt (invL d A) = dt A := by
  have : d = 1 ∨ d = 2 ∨ d = 3 := by omega
  rcases this with rfl | rfl | rfl
  · obtain ⟨a, rfl⟩ := is.one
    simp [invL, adj, dt]
  · obtain ⟨a, b, c, e, rfl⟩ := is.two
    have h := dd hdt
    generalize hD : dt [[a, b], [c, e]] = D at h hdt
    have hD' : a * e - b * c = D := hD
    have hi : invL 2 [[a, b], [c, e]] = [[D * (e), D * (0 - b)], [D * (0 - c), D * (a)]] := by rw [← hD]; rfl
    rw [hi]
    show D * (e) * (D * (a)) - D * (0 - b) * (D * (0 - c)) = D
    have q : D * (e) * (D * (a)) - D * (0 - b) * (D * (0 - c)) = (D * D) * (a * e - b * c) := by grind
    rw [q, h, hD', Int.one_mul]
  · obtain ⟨a, b, c, e, f, g, i, j, k, rfl⟩ := is.three
    have h := dd hdt
    generalize hD : dt [[a, b, c], [e, f, g], [i, j, k]] = D at h hdt
    have hD' : a * (f * k - g * j) + b * (g * i - e * k) + c * (e * j - f * i) = D := hD
    have hi : invL 3 [[a, b, c], [e, f, g], [i, j, k]] = [[D * (f * k - g * j), D * (j * c - k * b), D * (b * g - c * f)], [D * (g * i - e * k), D * (k * a - i * c), D * (c * e - a * g)], [D * (e * j - f * i), D * (i * b - j * a), D * (a * f - b * e)]] := by rw [← hD]; rfl
    rw [hi]
    show D * (f * k - g * j) * (D * (k * a - i * c) * (D * (a * f - b * e)) - D * (c * e - a * g) * (D * (i * b - j * a))) + D * (j * c - k * b) * (D * (c * e - a * g) * (D * (e * j - f * i)) - D * (g * i - e * k) * (D * (a * f - b * e))) + D * (b * g - c * f) * (D * (g * i - e * k) * (D * (i * b - j * a)) - D * (k * a - i * c) * (D * (e * j - f * i))) = D
    have m1 : (k * a - i * c) * (a * f - b * e) - (c * e - a * g) * (i * b - j * a) = a * D := by rw [← hD']; grind
    have m2 : (c * e - a * g) * (e * j - f * i) - (g * i - e * k) * (a * f - b * e) = e * D := by rw [← hD']; grind
    have m3 : (g * i - e * k) * (i * b - j * a) - (k * a - i * c) * (e * j - f * i) = i * D := by rw [← hD']; grind
    have m4 : (f * k - g * j) * (a * D) + (j * c - k * b) * (e * D) + (b * g - c * f) * (i * D) = D * D := by
      have q : (f * k - g * j) * (a * D) + (j * c - k * b) * (e * D) + (b * g - c * f) * (i * D) = ((f * k - g * j) * a + (j * c - k * b) * e + (b * g - c * f) * i) * D := by rw [Int.add_mul, Int.add_mul, Int.mul_assoc, Int.mul_assoc, Int.mul_assoc]
      have q2 : (f * k - g * j) * a + (j * c - k * b) * e + (b * g - c * f) * i = D := by rw [← hD']; grind
      rw [q, q2]
    rw [det_lin, m1, m2, m3, m4, h, Int.one_mul, Int.mul_one]
def zer (d : Nat) : List Int := List.replicate d 0
theorem zip_zero (l : List Int) : List.zipWith (fun x y => x + y) l (l.map fun x => 0 - x) = zer l.length := by
  induction l with
  | nil => rfl
  | cons x l ih =>
    show (x + (0 - x)) :: List.zipWith (fun x y => x + y) l (l.map fun x => 0 - x) = zer (l.length + 1)
    rw [ih]
    have : x + (0 - x) = 0 := by omega
    rw [this]
    rfl
theorem mvd_inv1 {d : Nat} {A : Mt} {t : List Int} (hd : 1 ≤ d ∧ d ≤ 3) : mvd (invL d A) (invT d A t) t = zer d := by
  unfold mvd invT
  rw [zip_zero]
  simp [led, (inv_is A hd).len]
theorem mvd_inv2 {d : Nat} {A : Mt} {t : List Int} (is : IsM d A) (ht : t.length = d) (hd : 1 ≤ d ∧ d ≤ 3) (hdt : dt A = 1 ∨ dt A = -1) : mvd A t (invT d A t) = zer d := by
  have : d = 1 ∨ d = 2 ∨ d = 3 := by omega
  rcases this with rfl | rfl | rfl
  · obtain ⟨a, rfl⟩ := is.one
    obtain ⟨x, rfl⟩ := len1 ht
    have hdt' : a = 1 ∨ a = -1 := hdt
    rcases hdt' with rfl | rfl <;> simp [mvd, led, invT, invL, adj, dt, dot, zer] <;> omega
  · obtain ⟨a, b, c, e, rfl⟩ := is.two
    obtain ⟨x, y, rfl⟩ := len2 ht
    have h := dd hdt
    generalize hD : dt [[a, b], [c, e]] = D at h hdt
    have hD' : a * e - b * c = D := hD
    have hi : invL 2 [[a, b], [c, e]] = [[D * (e), D * (0 - b)], [D * (0 - c), D * (a)]] := by rw [← hD]; rfl
    have s00 : a * (e) + b * (0 - c) = D := by rw [← hD']; try grind
    have s01 : a * (0 - b) + b * (a) = 0 := by grind
    have e0 : a * (0 - (D * (e) * x + (D * (0 - b) * y + 0))) + (b * (0 - (D * (0 - c) * x + (D * (a) * y + 0))) + 0) + x = 0 := by
      have q : a * (0 - (D * (e) * x + (D * (0 - b) * y + 0))) + (b * (0 - (D * (0 - c) * x + (D * (a) * y + 0))) + 0) + x = x - D * ((a * (e) + b * (0 - c)) * x + (a * (0 - b) + b * (a)) * y) := by grind
      rw [q, s00, s01]
      have z : x - D * (D * x + 0 * y) = x - (D * D) * x := by grind
      rw [z, h]; omega
    have s10 : c * (e) + e * (0 - c) = 0 := by grind
    have s11 : c * (0 - b) + e * (a) = D := by rw [← hD']; try grind
    have e1 : c * (0 - (D * (e) * x + (D * (0 - b) * y + 0))) + (e * (0 - (D * (0 - c) * x + (D * (a) * y + 0))) + 0) + y = 0 := by
      have q : c * (0 - (D * (e) * x + (D * (0 - b) * y + 0))) + (e * (0 - (D * (0 - c) * x + (D * (a) * y + 0))) + 0) + y = y - D * ((c * (e) + e * (0 - c)) * x + (c * (0 - b) + e * (a)) * y) := by grind
      rw [q, s10, s11]
      have z : y - D * (0 * x + D * y) = y - (D * D) * y := by grind
      rw [z, h]; omega
    unfold invT
    rw [hi]
    show [a * (0 - (D * (e) * x + (D * (0 - b) * y + 0))) + (b * (0 - (D * (0 - c) * x + (D * (a) * y + 0))) + 0) + x, c * (0 - (D * (e) * x + (D * (0 - b) * y + 0))) + (e * (0 - (D * (0 - c) * x + (D * (a) * y + 0))) + 0) + y] = _
    rw [e0, e1]
    rfl
  · obtain ⟨a, b, c, e, f, g, i, j, k, rfl⟩ := is.three
    obtain ⟨x, y, z, rfl⟩ := len3 ht
    have h := dd hdt
    generalize hD : dt [[a, b, c], [e, f, g], [i, j, k]] = D at h hdt
    have hD' : a * (f * k - g * j) + b * (g * i - e * k) + c * (e * j - f * i) = D := hD
    have hi : invL 3 [[a, b, c], [e, f, g], [i, j, k]] = [[D * (f * k - g * j), D * (j * c - k * b), D * (b * g - c * f)], [D * (g * i - e * k), D * (k * a - i * c), D * (c * e - a * g)], [D * (e * j - f * i), D * (i * b - j * a), D * (a * f - b * e)]] := by rw [← hD]; rfl
    have s00 : a * (f * k - g * j) + b * (g * i - e * k) + c * (e * j - f * i) = D := by rw [← hD']; try grind
    have s01 : a * (j * c - k * b) + b * (k * a - i * c) + c * (i * b - j * a) = 0 := by grind
    have s02 : a * (b * g - c * f) + b * (c * e - a * g) + c * (a * f - b * e) = 0 := by grind
    have e0 : a * (0 - (D * (f * k - g * j) * x + (D * (j * c - k * b) * y + (D * (b * g - c * f) * z + 0)))) + (b * (0 - (D * (g * i - e * k) * x + (D * (k * a - i * c) * y + (D * (c * e - a * g) * z + 0)))) + (c * (0 - (D * (e * j - f * i) * x + (D * (i * b - j * a) * y + (D * (a * f - b * e) * z + 0)))) + 0)) + x = 0 := by
      have q : a * (0 - (D * (f * k - g * j) * x + (D * (j * c - k * b) * y + (D * (b * g - c * f) * z + 0)))) + (b * (0 - (D * (g * i - e * k) * x + (D * (k * a - i * c) * y + (D * (c * e - a * g) * z + 0)))) + (c * (0 - (D * (e * j - f * i) * x + (D * (i * b - j * a) * y + (D * (a * f - b * e) * z + 0)))) + 0)) + x = x - D * ((a * (f * k - g * j) + b * (g * i - e * k) + c * (e * j - f * i)) * x + (a * (j * c - k * b) + b * (k * a - i * c) + c * (i * b - j * a)) * y + (a * (b * g - c * f) + b * (c * e - a * g) + c * (a * f - b * e)) * z) := by grind
      rw [q, s00, s01, s02]
      have z : x - D * (D * x + 0 * y + 0 * z) = x - (D * D) * x := by grind
      rw [z, h]; omega
    have s10 : e * (f * k - g * j) + f * (g * i - e * k) + g * (e * j - f * i) = 0 := by grind
    have s11 : e * (j * c - k * b) + f * (k * a - i * c) + g * (i * b - j * a) = D := by rw [← hD']; try grind
    have s12 : e * (b * g - c * f) + f * (c * e - a * g) + g * (a * f - b * e) = 0 := by grind
    have e1 : e * (0 - (D * (f * k - g * j) * x + (D * (j * c - k * b) * y + (D * (b * g - c * f) * z + 0)))) + (f * (0 - (D * (g * i - e * k) * x + (D * (k * a - i * c) * y + (D * (c * e - a * g) * z + 0)))) + (g * (0 - (D * (e * j - f * i) * x + (D * (i * b - j * a) * y + (D * (a * f - b * e) * z + 0)))) + 0)) + y = 0 := by
      have q : e * (0 - (D * (f * k - g * j) * x + (D * (j * c - k * b) * y + (D * (b * g - c * f) * z + 0)))) + (f * (0 - (D * (g * i - e * k) * x + (D * (k * a - i * c) * y + (D * (c * e - a * g) * z + 0)))) + (g * (0 - (D * (e * j - f * i) * x + (D * (i * b - j * a) * y + (D * (a * f - b * e) * z + 0)))) + 0)) + y = y - D * ((e * (f * k - g * j) + f * (g * i - e * k) + g * (e * j - f * i)) * x + (e * (j * c - k * b) + f * (k * a - i * c) + g * (i * b - j * a)) * y + (e * (b * g - c * f) + f * (c * e - a * g) + g * (a * f - b * e)) * z) := by grind
      rw [q, s10, s11, s12]
      have z : y - D * (0 * x + D * y + 0 * z) = y - (D * D) * y := by grind
      rw [z, h]; omega
    have s20 : i * (f * k - g * j) + j * (g * i - e * k) + k * (e * j - f * i) = 0 := by grind
    have s21 : i * (j * c - k * b) + j * (k * a - i * c) + k * (i * b - j * a) = 0 := by grind
    have s22 : i * (b * g - c * f) + j * (c * e - a * g) + k * (a * f - b * e) = D := by rw [← hD']; try grind
    have e2 : i * (0 - (D * (f * k - g * j) * x + (D * (j * c - k * b) * y + (D * (b * g - c * f) * z + 0)))) + (j * (0 - (D * (g * i - e * k) * x + (D * (k * a - i * c) * y + (D * (c * e - a * g) * z + 0)))) + (k * (0 - (D * (e * j - f * i) * x + (D * (i * b - j * a) * y + (D * (a * f - b * e) * z + 0)))) + 0)) + z = 0 := by
      have q : i * (0 - (D * (f * k - g * j) * x + (D * (j * c - k * b) * y + (D * (b * g - c * f) * z + 0)))) + (j * (0 - (D * (g * i - e * k) * x + (D * (k * a - i * c) * y + (D * (c * e - a * g) * z + 0)))) + (k * (0 - (D * (e * j - f * i) * x + (D * (i * b - j * a) * y + (D * (a * f - b * e) * z + 0)))) + 0)) + z = z - D * ((i * (f * k - g * j) + j * (g * i - e * k) + k * (e * j - f * i)) * x + (i * (j * c - k * b) + j * (k * a - i * c) + k * (i * b - j * a)) * y + (i * (b * g - c * f) + j * (c * e - a * g) + k * (a * f - b * e)) * z) := by grind
      rw [q, s20, s21, s22]
      have z : z - D * (0 * x + 0 * y + D * z) = z - (D * D) * z := by grind
      rw [z, h]; omega
    unfold invT
    rw [hi]
    show [a * (0 - (D * (f * k - g * j) * x + (D * (j * c - k * b) * y + (D * (b * g - c * f) * z + 0)))) + (b * (0 - (D * (g * i - e * k) * x + (D * (k * a - i * c) * y + (D * (c * e - a * g) * z + 0)))) + (c * (0 - (D * (e * j - f * i) * x + (D * (i * b - j * a) * y + (D * (a * f - b * e) * z + 0)))) + 0)) + x, e * (0 - (D * (f * k - g * j) * x + (D * (j * c - k * b) * y + (D * (b * g - c * f) * z + 0)))) + (f * (0 - (D * (g * i - e * k) * x + (D * (k * a - i * c) * y + (D * (c * e - a * g) * z + 0)))) + (g * (0 - (D * (e * j - f * i) * x + (D * (i * b - j * a) * y + (D * (a * f - b * e) * z + 0)))) + 0)) + y, i * (0 - (D * (f * k - g * j) * x + (D * (j * c - k * b) * y + (D * (b * g - c * f) * z + 0)))) + (j * (0 - (D * (g * i - e * k) * x + (D * (k * a - i * c) * y + (D * (c * e - a * g) * z + 0)))) + (k * (0 - (D * (e * j - f * i) * x + (D * (i * b - j * a) * y + (D * (a * f - b * e) * z + 0)))) + 0)) + z] = _
    rw [e0, e1, e2]
    rfl
end K21
end

section
set_option Elab.async false
set_option linter.all false
set_option maxRecDepth 100000
set_option maxHeartbeats 4000000
namespace K21
open PySem PySem.Spec PyProof.Rows L2 EvL EvH K21M
/-! greatest, lines by places, the plain move -/
def mx (l : List Int) : Int := (maxI l).getD 0
theorem mx_some {l : List Int} (h : l ≠ []) : maxI l = some (mx l) := by
  cases l with
  | nil => exact absurd rfl h
  | cons x l => rfl
theorem mx_le {l : List Int} (h : l ≠ []) (b : Int) : mx l ≤ b ↔ ∀ y ∈ l, y ≤ b := by
  obtain ⟨h1, h2⟩ := maxI_ok (mx_some h)
  exact ⟨fun z y hy => Int.le_trans (h2 y hy) z, fun z => z _ h1⟩
theorem oMax_ints {l : List Int} (h : l ≠ []) : oMax (.lst (l.map .int)) = some (.int (mx l)) := by
  show (intsD (l.map .int)).bind _ = _
  rw [intsD_map]
  show (maxI l).map Dv.int = _
  rw [mx_some h]
  rfl
theorem oAbs_ab (x : Int) : oAbs (.int x) = some (.int (ab x)) := rfl
def most (A : Mt) : Int := mx (A.map fun r => mx (r.map ab))
theorem most_le {A : Mt} (hA : A ≠ []) (hr : ∀ r ∈ A, r ≠ []) : (most A ≤ 1000) ↔ (fars A).any id = false := by
  unfold most
  rw [mx_le (by simpa using hA)]
  have e : (fars A).any id = false ↔ ∀ r ∈ A, ∀ x ∈ r, ab x ≤ 1000 := by
    rw [List.any_eq_false]
    constructor
    · intro h r hr x hx
      have := h (far x) (by unfold fars; rw [List.mem_flatMap]; exact ⟨r, hr, List.mem_map.mpr ⟨x, hx, rfl⟩⟩)
      simp [far] at this
      omega
    · intro h b hb
      unfold fars at hb
      rw [List.mem_flatMap] at hb
      obtain ⟨r, hr, hb⟩ := hb
      obtain ⟨x, hx, rfl⟩ := List.mem_map.mp hb
      have := h r hr x hx
      simp [far]
      omega
  rw [e]
  constructor
  · intro h r hrA x hx
    have := h _ (List.mem_map.mpr ⟨r, hrA, rfl⟩)
    rw [mx_le (by simpa using hr r hrA)] at this
    exact this _ (List.mem_map.mpr ⟨x, hx, rfl⟩)
  · intro h y hy
    obtain ⟨r, hrA, rfl⟩ := List.mem_map.mp hy
    rw [mx_le (by simpa using hr r hrA)]
    intro z hz
    obtain ⟨x, hx, rfl⟩ := List.mem_map.mp hz
    exact h r hrA x hx
def nsd (d : Nat) : List Int := (List.range d).map fun i : Nat => (i : Int)
theorem rng_nsd (d : Nat) : rng 0 d = (nsd d).map .int := by rw [rng_nat]; simp [nsd]
theorem nsd_mem {d : Nat} {k : Int} (h : k ∈ nsd d) : 0 ≤ k ∧ k < d := by
  obtain ⟨i, hi, rfl⟩ := List.mem_map.mp h
  have : i < d := by simpa using hi
  omega
theorem nsd_len (d : Nat) : (nsd d).length = d := by simp [nsd]
theorem iR_ok {f : Sem1} {en : En} {m : Store} {d : Nat} (h : f en m = .ok (.d (.int d)) m) (hd : d ≤ 1000) : iRange1 f en m = .ok ((nsd d).map .int) m := by
  rw [← rng_nsd]
  exact iRange1_ok h (by omega) (by omega)
theorem oIx_t {xs : List Dv} {k : Int} {d : Dv} (h0 : 0 ≤ k) (h : xs[k.toNat]? = some d) : oIx (.tup xs) (.int k) = some d := oIx_l h0 h
theorem ixM {f : Sem1} {en : En} {m : Store} {B : Mt} {d p q : Nat} {k i : Int} (is : IsM d B) (h : f en m = .ok (.d (.tup (tm B))) m) (hp : en[p]? = some (some (.d (.int k)))) (hq : en[q]? = some (some (.d (.int i)))) (hk : 0 ≤ k ∧ k < d) (hi : 0 ≤ i ∧ i < d) : sBin oIx (sBin oIx f (sVar p)) (sVar q) en m = .ok (.d (.int (gt B k.toNat i.toNat))) m := by
  have k1 : k.toNat < B.length := by rw [is.len]; omega
  have k2 : i.toNat < B[k.toNat].length := by rw [is.row _ (List.getElem_mem _)]; omega
  have e1 : oIx (.tup (tm B)) (.int k) = some (trow B[k.toNat]) := oIx_t hk.1 (by simp [tm, k1])
  have e2 : oIx (trow B[k.toNat]) (.int i) = some (.int (gt B k.toNat i.toNat)) := oIx_t hi.1 (by
    unfold gt
    rw [gd_lt k1]
    simp [List.getD_eq_getElem?_getD, k2])
  exact sBin_ok (sBin_ok h (sVar_ok hp) rfl rfl e1) (sVar_ok hq) rfl rfl e2
theorem mul_gt {d : Nat} {A B : Mt} (ia : IsM d A) (ib : IsM d B) (hd : 1 ≤ d ∧ d ≤ 3) : mul d B A = (nsd d).map fun k => (nsd d).map fun j => ((nsd d).map fun i => gt B k.toNat i.toNat * gt A i.toNat j.toNat).sum := by
  have : d = 1 ∨ d = 2 ∨ d = 3 := by omega
  rcases this with rfl | rfl | rfl
  · obtain ⟨a, rfl⟩ := ia.one
    obtain ⟨b, rfl⟩ := ib.one
    rfl
  · obtain ⟨a, b, c, e, rfl⟩ := ia.two
    obtain ⟨a', b', c', e', rfl⟩ := ib.two
    rfl
  · obtain ⟨a, b, c, e, f, g, i, j, k, rfl⟩ := ia.three
    obtain ⟨a', b', c', e', f', g', i', j', k', rfl⟩ := ib.three
    rfl
/-- plain -/
theorem idn_nsd (d : Nat) : tm (idn d) = (nsd d).map fun k => trow ((nsd d).map fun j => if k = j then 1 else 0) := by
  unfold tm idn nsd
  rw [List.map_map, List.map_map]
  refine List.map_congr_left fun k _ => ?_
  show trow _ = trow _
  congr 1
  rw [List.map_map]
  refine List.map_congr_left fun j _ => ?_
  show (if k = j then (1 : Int) else 0) = if ((k : Nat) : Int) = (j : Nat) then 1 else 0
  by_cases h : k = j
  · simp [h]
  · have : ¬ (k : Int) = (j : Int) := by omega
    simp [h, this]
theorem zer_trow (d : Nat) : trow (zer d) = .tup (List.replicate d (.int 0)) := by simp [trow, zer]
theorem oInt_bl (b : Bool) : oInt (.bl b) = some (.int (if b then 1 else 0)) := rfl
theorem v_plain_in {d : Nat} (hd : 1 ≤ d ∧ d ≤ 3) (m : Store) : f_plain_in [.d (.int d)] m = .ok (.d (mvD (idn d) (zer d))) m := by
  have c : fComp (iRange1 (sVar 0)) (tgN 1) bYes (sUn oTuple (sF (fComp (iRange1 (sVar 0)) (tgN 2) bYes (sUn oInt (sBin oEq (sVar 2) (sVar 1))) [2]))) [1] (start0 3 [.d (.int d)]) m = .ok (tm (idn d)) m := by
    rw [idn_nsd]
    refine cmp_ints _ (iR_ok (sVar_ok rfl) (by omega)) (by rw [nsd_len]; omega) fun k acc hk => ⟨_, rfl, ?_⟩
    refine sUn_ok (u := .lst (((nsd d).map fun j => if k = j then (1 : Int) else 0).map .int)) (sF_ok ?_) rfl rfl
    have e3 : (((nsd d).map fun j => if k = j then (1 : Int) else 0).map Dv.int) = (nsd d).map fun j => Dv.int (if k = j then 1 else 0) := by simp
    rw [e3]
    refine cmp_ints _ (iR_ok (sVar_ok rfl) (by omega)) (by rw [nsd_len]; omega) fun j acc hj => ⟨_, rfl, ?_⟩
    refine sUn_ok (sBin_ok (sVar_ok rfl) (sVar_ok rfl) rfl rfl (oEq_int j k)) rfl ((oInt_bl _).trans ?_)
    by_cases h : k = j
    · subst h; simp
    · have : ¬ j = k := fun z => h z.symm
      simp [h, this]
  refine fin_d rfl (gRet_ok (tup_ok (lCons_ok (sUn_ok (sF_ok c) rfl rfl) (lCons_ok (sBin_ok (tup_ok (lCons_ok (sC_ok _) lNil_ok) rfl rfl) (sVar_ok rfl) rfl rfl (rep_t (by omega))) lNil_ok)) (l := [.tup (tm (idn d)), trow (zer d)]) ?_ rfl))
  rw [zer_trow]
  rfl
theorem v_plain {d : Nat} (hd : 1 ≤ d ∧ d ≤ 3) (m : Store) : f_plain_move [.d (.int d)] m = .ok (.d (mvD (idn d) (zer d))) m := by
  have e : sCall f_is_from (lCons (sVar 0) (lCons (sC (.int 1)) (lCons (sC (.int 3)) lNil))) (start0 1 [.d (.int d)]) m = .ok (.d (.bl true)) m := by
    have q := v_is_from (d := .int d) (lo := 1) (hi := 3) rfl m
    have z : inR 1 3 (.int d) = true := by simp [inR]; omega
    rw [z] at q
    exact sCall_ok (lCons_ok (sVar_ok rfl) (lCons_ok (sC_ok _) (lCons_ok (sC_ok _) lNil_ok))) q
  exact fin_d rfl ((gSeq_ok ((gIf_f (bNot_ok (sT_ok e))).trans rfl)).trans (gRet_ok (sCall_ok (lCons_ok (sVar_ok rfl) lNil_ok) (v_plain_in hd m))))
end K21
end

section
set_option Elab.async false
set_option linter.all false
set_option maxRecDepth 100000
set_option maxHeartbeats 4000000
namespace K21
open PySem PySem.Spec PyProof.Rows L2 EvL EvH K21M
/-! parts of two_right -/
theorem fars_lim {A : Mt} (h : (fars A).any id = false) : lim 1000 A := by
  rw [List.any_eq_false] at h
  intro r hr x hx
  have := h (far x) (by unfold fars; rw [List.mem_flatMap]; exact ⟨r, hr, List.mem_map.mpr ⟨x, hx, rfl⟩⟩)
  have q : ab x ≤ 1000 := by simpa [far] using this
  unfold ab at q
  split at q <;> omega
theorem lim_fars {A : Mt} (h : lim 1000 A) : (fars A).any id = false := by
  rw [List.any_eq_false]
  intro b hb
  unfold fars at hb
  rw [List.mem_flatMap] at hb
  obtain ⟨r, hr, hb⟩ := hb
  obtain ⟨x, hx, rfl⟩ := List.mem_map.mp hb
  have := h r hr x hx
  have q : ab x ≤ 1000 := by
    unfold ab
    split <;> omega
  simp [far]
  omega
theorem nc_of {d : Nat} {M : Mt} {u : List Int} (is : IsM d M) (hd : 1 ≤ d ∧ d ≤ 3) (hu : u.length = d) (h : lim 1000 (M ++ [u])) : Nc (mvD M u) := by
  refine Nc.pair (Li.tup (by simp [tm, is.len]; omega) (row_ro is (by omega) (b := 1000) (fun r hr => h r (by simp [hr])) (by decide))) (Li.tup (by simp [hu]; omega) fun x hx => ?_)
  obtain ⟨i, hi, rfl⟩ := List.mem_map.mp hx
  have := h u (by simp) i hi
  exact Ro.of (El.int (by omega))
def grD : Dv := .tup [.str "great", .int 1000]
theorem grD_ok : showOk grD = true := (Sm.tup (n := 2) (w := 41) (p := 0) (fun x hx => by
  simp at hx
  rcases hx with rfl | rfl
  · exact (Sm.str (z := "great") (by decide +kernel)).mono (by decide) (by decide)
  · exact Sm.int (by decide)) (by simp)).ok (by decide) (by decide)
theorem lst_show {x : Dv} (h : Nc x) : showOk (.lst [x]) = true := (Sm.lst (n := 1) (fun y hy => by
  simp at hy
  subst hy
  exact h.1) (by simp)).ok (by decide) (by decide)
/-- the greatest of a row's absolutes -/
theorem mx_row {i : Nat} {en : En} {m : Store} {r : List Int} (hr : r ≠ []) (hl : r.length ≤ 1000) (h : en[i]? = some (some (.d (trow r)))) (hi : i ≠ 16) (hn : en.length = 17) : sUn oMax (sF (fComp (iSeq (sVar i)) (tgN 16) bYes (sUn oAbs (sVar 16)) [16])) en m = .ok (.d (.int (mx (r.map ab)))) m := by
  refine sUn_ok (u := .lst ((r.map ab).map .int)) (sF_ok ?_) rfl (oMax_ints (by simpa using hr))
  rw [List.map_map]
  refine cmp_ints _ (iSeq_t (sVar_ok h)) hl fun y acc hy => ⟨_, rfl, ?_⟩
  exact sUn_ok (sVar_ok (List.getElem?_set_self (by simp [wipeE, hn]))) rfl (oAbs_ab y)
theorem dt_one {A : Mt} {t : List Int} (g : Gd 1 A t) : (fars (invL 1 A ++ [invT 1 A t])).any id = false := by
  obtain ⟨is, lm, det, len, sm⟩ := g
  obtain ⟨a, rfl⟩ := is.one
  obtain ⟨x, rfl⟩ := len1 len
  have hx := sm x (by simp)
  have ha : a = 1 ∨ a = -1 := det
  refine lim_fars fun r hr y hy => ?_
  rcases ha with rfl | rfl <;> simp [invL, invT, adj, led, dot, dt] at hr <;> rcases hr with rfl | rfl <;> simp at hy <;> omega
theorem gd_inv {d : Nat} {A : Mt} {t : List Int} (g : Gd d A t) (hd : 1 ≤ d ∧ d ≤ 3) (h : (fars (invL d A ++ [invT d A t])).any id = false) : Gd d (invL d A) (invT d A t) := by
  have l := fars_lim h
  refine ⟨inv_is A hd, fun r hr => l r (by simp [hr]), by rw [dt_inv g.is hd g.det]; exact g.det, by simp [invT, led, (inv_is A hd).len], fun x hx => l _ (by simp) x hx⟩
theorem plain_far {d : Nat} (hd : 1 ≤ d ∧ d ≤ 3) : lim 1000 (idn d ++ [zer d]) := by
  intro r hr x hx
  rcases List.mem_append.mp hr with z | z
  · have := (idn_ok d hd).2.2 r z x hx
    omega
  · simp at z
    subst z
    have : x = 0 := List.eq_of_mem_replicate hx
    omega
theorem nc_plain {d : Nat} (hd : 1 ≤ d ∧ d ≤ 3) : Nc (mvD (idn d) (zer d)) := nc_of (idn_ok d hd).1 hd (by simp [zer]) (plain_far hd)
end K21
end

section
set_option Elab.async false
set_option linter.all false
set_option maxRecDepth 100000
set_option maxHeartbeats 4000000
namespace K21
open PySem PySem.Spec PyProof.Rows L2 EvL EvH K21M
/-! two_right -/
theorem oLe_ok (x y : Int) : oLe (.int x) (.int y) = some (.bl (decide (x ≤ y))) := rfl
abbrev enT (j : Nat) (v w x : Dv) (o4 o5 o6 o7 o8 o9 o10 o11 : Option Sv) : En := [some (.o j), some (.d v), some (.d w), some (.d x), o4, o5, o6, o7, o8, o9, o10, o11, none, none, none, none, none]
section
variable {d j : Nat} {A B : Mt} {t s x : List Int} {m : Store} {o5 o6 o7 o8 o9 o10 o11 : Option Sv}
theorem tw_lines (ha : Mv d A t (mvD A t)) (hb : Mv d B s (mvD B s)) (hd : 1 ≤ d ∧ d ≤ 3) :
    fComp (iRange1 (sVar 4)) (tgN 12) bYes (sUn oTuple (sF (fComp (iRange1 (sVar 4)) (tgN 13) bYes (sUn oSum (sF (fComp (iRange1 (sVar 4)) (tgN 14) bYes (sBin oMulP (sBin oIx (sBin oIx (sBin oIx (sVar 2) (sC (.int 0))) (sVar 12)) (sVar 14)) (sBin oIx (sBin oIx (sBin oIx (sVar 1) (sC (.int 0))) (sVar 14)) (sVar 13))) [14]))) [13]))) [12] (enT j (mvD A t) (mvD B s) (trow x) (some (.d (.int d))) none none none none none none none) m = .ok (tm (mul d B A)) m := by
  have ia := ha.tu.is
  have ib := hb.tu.is
  have e1 : tm (mul d B A) = (nsd d).map fun k => trow ((nsd d).map fun j => ((nsd d).map fun i => gt B k.toNat i.toNat * gt A i.toNat j.toNat).sum) := by
    rw [mul_gt ia ib hd]
    unfold tm
    rw [List.map_map]
    rfl
  rw [e1]
  refine cmp_ints _ (iR_ok (sVar_ok rfl) (by omega)) (by rw [nsd_len]; omega) fun k acc hk => ⟨_, rfl, ?_⟩
  refine sUn_ok (u := .lst (((nsd d).map fun j => ((nsd d).map fun i => gt B k.toNat i.toNat * gt A i.toNat j.toNat).sum).map .int)) (sF_ok ?_) rfl rfl
  rw [List.map_map]
  refine cmp_ints _ (iR_ok (sVar_ok rfl) (by omega)) (by rw [nsd_len]; omega) fun c acc hc => ⟨_, rfl, ?_⟩
  refine sUn_ok (u := .lst (((nsd d).map fun i => gt B k.toNat i.toNat * gt A i.toNat c.toNat).map .int)) (sF_ok ?_) rfl (oSum_ints _)
  rw [List.map_map]
  refine cmp_ints _ (iR_ok (sVar_ok rfl) (by omega)) (by rw [nsd_len]; omega) fun i acc hi => ⟨_, rfl, ?_⟩
  have hk := nsd_mem hk
  have hc := nsd_mem hc
  have hi := nsd_mem hi
  exact sBin_ok (ixM ib (sBin_ok (sVar_ok rfl) (sC_ok _) rfl rfl rfl) rfl rfl hk hi) (ixM ia (sBin_ok (sVar_ok rfl) (sC_ok _) rfl rfl rfl) rfl rfl hi hc) rfl rfl (oMulP_i _ _ (mkB (b := 64) (by decide) (gt_lim hb.tu.lm (by decide) _ _) _))
theorem tw_plain (hd : 1 ≤ d ∧ d ≤ 3) : sTup (lCons (sUn oTuple (sF (fComp (iRange1 (sVar 4)) (tgN 12) bYes (sUn oTuple (sF (fComp (iRange1 (sVar 4)) (tgN 13) bYes (sUn oInt (sBin oEq (sVar 12) (sVar 13))) [13]))) [12]))) (lCons (sBin oMulP (sTup (lCons (sC (.int 0)) lNil)) (sVar 4)) lNil)) (enT j (mvD A t) (mvD B s) (trow x) (some (.d (.int d))) o5 o6 o7 o8 o9 o10 none) m = .ok (.d (mvD (idn d) (zer d))) m := by
  have c : fComp (iRange1 (sVar 4)) (tgN 12) bYes (sUn oTuple (sF (fComp (iRange1 (sVar 4)) (tgN 13) bYes (sUn oInt (sBin oEq (sVar 12) (sVar 13))) [13]))) [12] (enT j (mvD A t) (mvD B s) (trow x) (some (.d (.int d))) o5 o6 o7 o8 o9 o10 none) m = .ok (tm (idn d)) m := by
    rw [idn_nsd]
    refine cmp_ints _ (iR_ok (sVar_ok rfl) (by omega)) (by rw [nsd_len]; omega) fun k acc hk => ⟨_, rfl, ?_⟩
    refine sUn_ok (u := .lst (((nsd d).map fun j => if k = j then (1 : Int) else 0).map .int)) (sF_ok ?_) rfl rfl
    rw [List.map_map]
    refine cmp_ints _ (iR_ok (sVar_ok rfl) (by omega)) (by rw [nsd_len]; omega) fun c acc hc => ⟨_, rfl, ?_⟩
    refine sUn_ok (sBin_ok (sVar_ok rfl) (sVar_ok rfl) rfl rfl (oEq_int k c)) rfl ((oInt_bl _).trans ?_)
    by_cases h : k = c
    · subst h; simp
    · simp [h]
  refine tup_ok (lCons_ok (sUn_ok (sF_ok c) rfl rfl) (lCons_ok (sBin_ok (tup_ok (lCons_ok (sC_ok _) lNil_ok) rfl rfl) (sVar_ok rfl) rfl rfl (rep_t (by omega))) lNil_ok)) (l := [.tup (tm (idn d)), trow (zer d)]) ?_ rfl
  rw [zer_trow]
  rfl
theorem tw_most {M : Mt} {u : List Int} (is : IsM d M) (hu : u.length = d) (hd : 1 ≤ d ∧ d ≤ 3) : sUn oMax (sF (fComp (iSeq (sBin oAddP (sVar 5) (sTup (lCons (sBin oIx (sVar 6) (sC (.int 1))) lNil)))) (tgN 15) bYes (sUn oMax (sF (fComp (iSeq (sVar 15)) (tgN 16) bYes (sUn oAbs (sVar 16)) [16]))) [15])) (enT j (mvD A t) (mvD B s) (trow x) (some (.d (.int d))) (some (.d (.tup (tm M)))) (some (.d (mvD M u))) none none none none none) m = .ok (.d (.int (most (M ++ [u])))) m := by
  have e : tm (M ++ [u]) = tm M ++ [trow u] := by simp [tm]
  have rl : ∀ r ∈ M ++ [u], r.length = d := fun r hr => by
    rcases List.mem_append.mp hr with z | z
    · exact is.row r z
    · simp at z; subst z; exact hu
  have sq : iSeq (sBin oAddP (sVar 5) (sTup (lCons (sBin oIx (sVar 6) (sC (.int 1))) lNil))) (enT j (mvD A t) (mvD B s) (trow x) (some (.d (.int d))) (some (.d (.tup (tm M)))) (some (.d (mvD M u))) none none none none none) m = .ok (tm (M ++ [u])) m := by
    rw [e]
    exact iSeq_t (sBin_ok (sVar_ok rfl) (tup_ok (lCons_ok (sBin_ok (sVar_ok rfl) (sC_ok _) rfl rfl rfl) lNil_ok) rfl rfl) rfl rfl (cat_t (by simp [tm, is.len]; omega)))
  refine sUn_ok (u := .lst (((M ++ [u]).map fun r => mx (r.map ab)).map .int)) (sF_ok ?_) rfl (oMax_ints (by simp))
  rw [List.map_map]
  refine cmp_rows _ sq (by simp [is.len]; omega) fun r acc hr => ⟨_, rfl, ?_⟩
  exact mx_row (fun z => by have := rl r hr; rw [z] at this; simp at this; omega) (by rw [rl r hr]; omega) rfl (by decide) rfl
theorem tw_like {f8 f7 : Sem1} {en : En} {F : Bool} {k : Int} {b : Dv} {fb : Sem1} (h8 : f8 en m = .ok (.d (if F then grD else .lst [b])) m) (h7 : f7 en m = .ok (.d (.int k)) m) (hk : k ≤ 1000 ↔ F = false) (hb : fb en m = .ok (.d b) m) (hs : F = false → Nc b) :
    bNot (sT (sCall f__law_like (lCons f8 (lCons (sIf (sT (sBin oLe f7 (sC (.int 1000)))) (sF (fLst (lCons fb lNil))) (sTup (lCons (sC (.str "great")) (lCons (sC (.int 1000)) lNil)))) lNil)))) en m = .ok false m := by
  have t : sT (sBin oLe f7 (sC (.int 1000))) en m = .ok (decide (k ≤ 1000)) m := sT_ok (sBin_ok h7 (sC_ok _) rfl rfl (oLe_ok _ _))
  cases F with
  | true =>
    have : decide (k ≤ 1000) = false := decide_eq_false fun z => by have := hk.mp z; cases this
    rw [this] at t
    exact bNot_ok (sT_ok (like_call h8 ((if_ok t).trans ((if_neg Bool.false_ne_true).trans (tup_ok (lCons_ok (sC_ok _) (lCons_ok (sC_ok _) lNil_ok)) rfl rfl))) rfl rfl grD_ok))
  | false =>
    rw [decide_eq_true (hk.mpr rfl)] at t
    exact bNot_ok (sT_ok (like_call h8 ((if_ok t).trans ((if_pos rfl).trans (sF_ok (lst_ok (lCons_ok hb lNil_ok) rfl rfl)))) rfl rfl (lst_show (hs rfl))))
end
end K21
end

section
set_option Elab.async false
set_option linter.all false
set_option maxRecDepth 100000
set_option maxHeartbeats 4000000
namespace K21
open PySem PySem.Spec PyProof.Rows L2 EvL EvH K21M
theorem gif_skip {t : SemB} {r : Sem1} {en : En} {m : Store} (h : t en m = .ok false m) : gIf t (gRet r) gNext en m = .nx en m := (gIf_f h).trans rfl
theorem told_if (F : Bool) (b : Dv) : told (if F = true then Out.e great else Out.d b) = some (if F = true then grD else .lst [b]) := by
  cases F with
  | true => exact told_great
  | false => rfl
theorem eq_gr (en : En) (m : Store) {i : Nat} (h : en[i]? = some (some (.d grD))) : sBin oEq (sVar i) (sTup (lCons (sC (.str "great")) (lCons (sC (.int 1000)) lNil))) en m = .ok (.d (.bl true)) m := by
  have e : oEq grD grD = some (.bl true) := by
    have hg := grD_ok
    unfold showOk at hg
    simp only [Bool.and_eq_true] at hg
    have hg := hg.1.1.1.1
    have he : PyData.eqv (cv grD) (cv grD) = true := by
      unfold good at hg
      rw [Bool.and_eq_true] at hg
      exact SeqAt.eqv_refl _ (SeqAt.canLay_of_shaped hg.2)
    unfold oEq
    rw [hg]
    simp [he]
  exact sBin_ok (sVar_ok h) (tup_ok (lCons_ok (sC_ok _) (lCons_ok (sC_ok _) lNil_ok)) rfl rfl) rfl rfl e
theorem isl_gr (en : En) (m : Store) (h : en[10]? = some (some (.d grD))) : bNot (sT (sUn (oIs "list") (sVar 10))) en m = .ok true m := by
  have : sUn (oIs "list") (sVar 10) en m = .ok (.d (.bl false)) m := sUn_ok (sVar_ok h) rfl rfl
  exact bNot_ok (b := false) (sT_ok this)
theorem isl_l (en : En) (m : Store) {l : List Dv} (h : en[10]? = some (some (.d (.lst l)))) : bNot (sT (sUn (oIs "list") (sVar 10))) en m = .ok false m := by
  have : sUn (oIs "list") (sVar 10) en m = .ok (.d (.bl true)) m := sUn_ok (sVar_ok h) rfl rfl
  exact bNot_ok (b := true) (sT_ok this)
theorem deep_gt (en : En) (m : Store) {d : Nat} (h : en[4]? = some (some (.d (.int d)))) (hd : 1 < d) : sBin oGt (sVar 4) (sC (.int 1)) en m = .ok (.d (.bl true)) m := by
  refine sBin_ok (sVar_ok h) (sC_ok _) rfl rfl ((oGt_ok _ _).trans ?_)
  have : decide ((1 : Int) < (d : Int)) = true := decide_eq_true (by omega)
  simp [this]
theorem v_two {d j : Nat} {A B : Mt} {t s x : List Int} {v w : Dv} (ha : Mv d A t v) (hb : Mv d B s w) (hd : 1 ≤ d ∧ d ≤ 3) (hx : x.length = d) (hxs : ∀ i ∈ x, -1000 ≤ i ∧ i ≤ 1000) (m : Store) : f__law_two_right [.o j, .d v, .d w, .d (trow x)] m = .ok (.d (.bl true)) m := by
  obtain ⟨ga, ea⟩ := ha.gd
  obtain ⟨gb, eb⟩ := hb.gd
  subst ea
  subst eb
  have mi := mul_is (A := A) gb.is
  have ul : (mvd B s t).length = d := mvd_len gb.is gb.len
  have yl : (mvd A t x).length = d := mvd_len ga.is ga.len
  -- told
  have k8 : ∀ en : En, en[1]? = some (some (.d (mvD A t))) → en[2]? = some (some (.d (mvD B s))) → sCall f__law_heard (lCons (sC (.fn 0)) (lCons (sTup (lCons (sVar 1) (lCons (sVar 2) lNil))) lNil)) en m = .ok (.d (if (fars (mul d B A ++ [mvd B s t])).any id = true then grD else .lst [mvD (mul d B A) (mvd B s t)])) m := fun en h1 h2 => by
    have c := v_composed ga gb hd hd m
    rw [if_pos rfl] at c
    exact sCall_ok (lCons_ok (sC_ok _) (lCons_ok (tup_ok (lCons_ok (sVar_ok h1) (lCons_ok (sVar_ok h2) lNil_ok)) rfl rfl) lNil_ok)) (heard2 (n := 0) (by decide) c (told_if _ _))
  have k9 : ∀ en : En, en[1]? = some (some (.d (mvD A t))) → en[3]? = some (some (.d (trow x))) → sCall f__law_heard (lCons (sC (.fn 1)) (lCons (sTup (lCons (sVar 1) (lCons (sVar 3) lNil))) lNil)) en m = .ok (.d (if (fars [mvd A t x]).any id = true then grD else .lst [trow (mvd A t x)])) m := fun en h1 h2 => by
    have c := point_any ha hd (x := x) (by omega) hxs m
    rw [if_pos hx] at c
    exact sCall_ok (lCons_ok (sC_ok _) (lCons_ok (tup_ok (lCons_ok (sVar_ok h1) (lCons_ok (sVar_ok h2) lNil_ok)) rfl rfl) lNil_ok)) (heard2 (n := 1) (by decide) c (told_if _ _))
  have k10 : ∀ en : En, en[1]? = some (some (.d (mvD A t))) → sCall f__law_heard (lCons (sC (.fn 2)) (lCons (sTup (lCons (sVar 1) lNil)) lNil)) en m = .ok (.d (if (fars (invL d A ++ [invT d A t])).any id = true then grD else .lst [mvD (invL d A) (invT d A t)])) m := fun en h1 => by
    have c := v_inverse ga hd m
    exact sCall_ok (lCons_ok (sC_ok _) (lCons_ok (tup_ok (lCons_ok (sVar_ok h1) lNil_ok) rfl rfl) lNil_ok)) (heard1 (n := 2) (by decide) c (told_if _ _))
  have m1 := v_law_moved (A := B) (t := s) (p := t) (b := 64) (by rw [gb.is.len]; omega) (fun r hr => by rw [gb.is.row r hr]; omega) (by decide) hb.tu.lm m
  have m2 := v_law_moved (A := A) (t := t) (p := x) (b := 64) (by rw [ga.is.len]; omega) (fun r hr => by rw [ga.is.row r hr]; omega) (by decide) ha.tu.lm m
  have sg := v_sign ha hd m
  have dl := v_law_det ga.is hd ga.lm (Src.tup A m)
  have hM1 : (most (mul d B A ++ [mvd B s t]) ≤ 1000) ↔ (fars (mul d B A ++ [mvd B s t])).any id = false := most_le (by simp) (fun r hr => by
    have : r.length = d := by
      rcases List.mem_append.mp hr with z | z
      · exact mi.row r z
      · simp at z; subst z; exact ul
    intro z; rw [z] at this; simp at this; omega)
  have hM2 : (mx ((mvd A t x).map ab) ≤ 1000) ↔ (fars [mvd A t x]).any id = false := most_le (A := [mvd A t x]) (by simp) (fun r hr => by
    simp at hr
    subst hr
    intro z; rw [z] at yl; simp at yl; omega)
  have ynz : mvd A t x ≠ [] := fun z => by rw [z] at yl; simp at yl; omega
  -- what is heard of the back
  refine fin_d rfl ((gSeq_ok (gSet_ok (x := .d (.int d)) (sUn_ok (sVar_ok rfl) rfl ((oLen_t _).trans (by rw [List.length_map, hx]))))).trans ?_)
  refine (gSeq_ok (gSet_ok (x := .d (.tup (tm (mul d B A)))) (sUn_ok (sF_ok (tw_lines ha hb hd)) rfl rfl))).trans ?_
  refine (gSeq_ok (gSet_ok (x := .d (mvD (mul d B A) (mvd B s t))) (tup_ok (lCons_ok (sVar_ok rfl) (lCons_ok (sCall_ok (lCons_ok (sBin_ok (sVar_ok rfl) (sC_ok _) rfl rfl rfl) (lCons_ok (sBin_ok (sVar_ok rfl) (sC_ok _) rfl rfl rfl) (lCons_ok (sBin_ok (sVar_ok rfl) (sC_ok _) rfl rfl rfl) lNil_ok))) m1) lNil_ok)) rfl rfl))).trans ?_
  refine (gSeq_ok (gSet_ok (tw_most mi ul hd))).trans ?_
  refine (gSeq_ok (gSet_ok (k8 _ rfl rfl))).trans ?_
  refine (gSeq_ok (gif_skip (tw_like (k := most (mul d B A ++ [mvd B s t])) (b := mvD (mul d B A) (mvd B s t)) (F := (fars (mul d B A ++ [mvd B s t])).any id) (sVar_ok rfl) (sVar_ok rfl) hM1 (sVar_ok rfl) (fun h => nc_of mi hd ul (fars_lim h))))).trans ?_
  refine (gSeq_ok (gSet_ok (x := .d (trow (mvd A t x))) (sCall_ok (lCons_ok (sVar_ok rfl) (lCons_ok (sBin_ok (sVar_ok rfl) (sC_ok _) rfl rfl rfl) (lCons_ok (sBin_ok (sVar_ok rfl) (sC_ok _) rfl rfl rfl) lNil_ok))) m2))).trans ?_
  refine (gSeq_ok (gif_skip (tw_like (k := mx ((mvd A t x).map ab)) (b := trow (mvd A t x)) (F := (fars [mvd A t x]).any id) (k9 _ rfl rfl) (mx_row ynz (by omega) rfl (by decide) rfl) hM2 (sVar_ok rfl) (fun h => Nc.tup (by simp [yl]; omega) fun z hz => by
    obtain ⟨i, hi, rfl⟩ := List.mem_map.mp hz
    have := fars_lim h _ (by simp) i hi
    exact Li.int (by omega))))).trans ?_
  refine (gSeq_ok (gif_skip (bNot_ok (sT_ok (like_call (d := .int (dt A)) (sCall_ok (lCons_ok (sVar_ok rfl) lNil_ok) sg) (sCall_ok (lCons_ok (sBin_ok (sVar_ok rfl) (sC_ok _) rfl rfl rfl) lNil_ok) dl) rfl rfl ((Sm.int (by rcases ga.det with e | e <;> rw [e] <;> decide)).ok (by decide) (by decide))))))).trans ?_
  refine (gSeq_ok (gSet_ok (k10 _ rfl))).trans ?_
  cases F3 : (fars (invL d A ++ [invT d A t])).any id with
  | true =>
    have d1 : 1 < d := by
      by_cases h : d = 1
      · subst h
        rw [dt_one ga] at F3
        cases F3
      · omega
    exact gSeq_rt ((gIf_t (isl_gr _ m rfl)).trans (gRet_ok ((sAnd_t (eq_gr _ m rfl)).trans (deep_gt _ m rfl d1))))
  | false =>
    have gi := gd_inv ga hd F3
    have c1 := v_composed ga gi hd hd m
    have c2 := v_composed gi ga hd hd m
    rw [if_pos rfl, mul_inv1 ga.is hd ga.det, mvd_inv1 hd, lim_fars (plain_far hd)] at c1
    rw [if_pos rfl, mul_inv2 ga.is hd ga.det, mvd_inv2 ga.is ga.len hd ga.det, lim_fars (plain_far hd)] at c2
    have pl := v_plain hd m
    refine (gSeq_ok (gif_skip (isl_l _ m rfl))).trans ?_
    refine (gSeq_ok (gSet_ok (tw_plain hd))).trans (gRet_ok ?_)
    have P3 : showOk (.lst [mvD (idn d) (zer d), mvD (idn d) (zer d), mvD (idn d) (zer d)]) = true := (Sm.lst (n := 3) (fun y hy => by
      simp at hy
      subst hy
      exact (nc_plain hd).1) (by simp)).ok (by decide) (by decide)
    refine like_call (sF_ok (lst_ok (lCons_ok (sCall_ok (lCons_ok (sVar_ok rfl) (lCons_ok (sBin_ok (sVar_ok rfl) (sC_ok _) rfl rfl rfl) lNil_ok)) c1) (lCons_ok (sCall_ok (lCons_ok (sBin_ok (sVar_ok rfl) (sC_ok _) rfl rfl rfl) (lCons_ok (sVar_ok rfl) lNil_ok)) c2) (lCons_ok (sCall_ok (lCons_ok (sVar_ok rfl) lNil_ok) pl) lNil_ok))) rfl rfl)) (sBin_ok (sF_ok (lst_ok (lCons_ok (sVar_ok rfl) lNil_ok) rfl rfl)) (sC_ok _) rfl rfl rfl) rfl rfl P3
end K21
end

section
set_option Elab.async false
set_option linter.all false
set_option maxRecDepth 100000
set_option maxHeartbeats 4000000
namespace K21
open PySem PySem.Spec PyProof.Rows L2 EvL EvH K21M
/-! one turn's parts -/
theorem rep_l {x : Dv} {d : Nat} (h : d ≤ 1000) : oMulP (.lst [x]) (.int d) = some (.lst (List.replicate d x)) := by
  rw [oMulP_l _ _ (by omega) (by omega) (by simp)]
  simp
def xs8 (d : Nat) : List Dv := [.non, .tup [], .tup (List.replicate d (.int 1001)), .lst (List.replicate d (.int 0)), .tup (List.replicate d (.bl true)), .tup (List.replicate 4 (.int 0)), .int 5, .str "1"]
structure Odd (x : Dv) : Prop where
  ty : ty x = true
  tu : ∀ xs, x = .tup xs → tys xs = true ∧ xs.length ≤ 4
  sm : Sm 344 2 x
  no : isAny x = false
theorem sm_rep {n : Nat} {x : Dv} (h : El x) (hn : n ≤ 4) : Sm 344 2 (.tup (List.replicate n x)) := (Sm.tup (n := 4) (fun y hy => by rw [List.eq_of_mem_replicate hy]; exact h.1) (by simp; omega)).mono (by decide) (by decide)
theorem sm_repl {n : Nat} {x : Dv} (h : El x) (hn : n ≤ 4) : Sm 344 2 (.lst (List.replicate n x)) := (Sm.lst (n := 4) (fun y hy => by rw [List.eq_of_mem_replicate hy]; exact h.1) (by simp; omega)).mono (by decide) (by decide)
theorem odd_ok {d : Nat} (hd : 1 ≤ d ∧ d ≤ 3) : ∀ x ∈ xs8 d, Odd x := by
  have : d = 1 ∨ d = 2 ∨ d = 3 := by omega
  intro x hx
  simp only [xs8, List.mem_cons, List.not_mem_nil, or_false] at hx
  rcases hx with rfl | rfl | rfl | rfl | rfl | rfl | rfl | rfl
  · exact ⟨rfl, fun _ h => (by cases h), El.non.1.mono (by decide) (by decide), rfl⟩
  · exact ⟨rfl, fun _ h => (by cases h; exact ⟨rfl, by decide⟩), sm_rep (n := 0) (x := .non) El.non (by omega), rfl⟩
  · have s := sm_rep (n := d) (x := .int 1001) (El.int (by decide)) (by omega)
    rcases this with rfl | rfl | rfl <;> exact ⟨rfl, fun _ h => (by cases h; exact ⟨rfl, by decide⟩), s, rfl⟩
  · have s := sm_repl (n := d) (x := .int 0) (El.int (by decide)) (by omega)
    exact ⟨rfl, fun _ h => (by cases h), s, rfl⟩
  · have s := sm_rep (n := d) (x := .bl true) (El.bl true) (by omega)
    rcases this with rfl | rfl | rfl <;> exact ⟨rfl, fun _ h => (by cases h; exact ⟨rfl, by decide⟩), s, rfl⟩
  · exact ⟨rfl, fun _ h => (by cases h; exact ⟨rfl, by decide⟩), sm_rep (El.int (by decide)) (by omega), rfl⟩
  · exact ⟨rfl, fun _ h => (by cases h), (El.int (i := 5) (by decide)).1.mono (by decide) (by decide), rfl⟩
  · exact ⟨rfl, fun _ h => (by cases h), El.one.1.mono (by decide) (by decide), rfl⟩
def unD : Dv := .tup [.str "unlike", .int 0]
theorem unD_ok : showOk unD = true := (Sm.tup (n := 2) (w := 41) (p := 0) (fun x hx => by
  simp at hx
  rcases hx with rfl | rfl
  · exact (Sm.str (z := "unlike") (by decide +kernel)).mono (by decide) (by decide)
  · exact Sm.int (by decide)) (by simp)).ok (by decide) (by decide)
theorem point_show {x : Dv} (h : Sm 344 2 x) : showOk (.tup [.str "point", x]) = true := (Sm.tup (n := 2) (w := 344) (p := 2) (fun y hy => by
  simp at hy
  rcases hy with rfl | rfl
  · exact (Sm.str (z := "point") (by decide +kernel)).mono (by decide) (by decide)
  · exact h) (by simp)).ok (by decide) (by decide)
/-- the neighbour's size -/
theorem nextd {d : Nat} (hd : 1 ≤ d ∧ d ≤ 3) : ∃ e : Nat, (1 ≤ e ∧ e ≤ 3) ∧ e ≠ d ∧ ∀ (en : En) (m : Store), en[3]? = some (some (.d (.int d))) → sBin oAddP (sBin oMod (sVar 3) (sC (.int 3))) (sC (.int 1)) en m = .ok (.d (.int e)) m := by
  have : d = 1 ∨ d = 2 ∨ d = 3 := by omega
  rcases this with rfl | rfl | rfl
  · exact ⟨2, by omega, by omega, fun en m h => sBin_ok (sBin_ok (sVar_ok h) (sC_ok _) rfl rfl rfl) (sC_ok _) rfl rfl rfl⟩
  · exact ⟨3, by omega, by omega, fun en m h => sBin_ok (sBin_ok (sVar_ok h) (sC_ok _) rfl rfl rfl) (sC_ok _) rfl rfl rfl⟩
  · exact ⟨1, by omega, by omega, fun en m h => sBin_ok (sBin_ok (sVar_ok h) (sC_ok _) rfl rfl rfl) (sC_ok _) rfl rfl rfl⟩
def mkMv : Sem1 := sCall f__law_some_move (lCons (sVar 2) (lCons (sVar 3) (lCons (sCall f__law_of (lCons (sVar 2) (lCons (sF (fLst (lCons (sC (.int 3)) (lCons (sC (.int 1000)) lNil)))) lNil))) lNil)))
theorem mkMv_ok {en : En} {S : Store} {j d : Nat} {b : Int} (h : Dr S j b) (hb : b + 44 < 1000000) (hd : 1 ≤ d ∧ d ≤ 3) (h2 : en[2]? = some (some (.o j))) (h3 : en[3]? = some (some (.d (.int d)))) : ∃ (A : Mt) (t : List Int) (v : Dv) (S' : Store), mkMv en S = .ok (.d v) S' ∧ Mv d A t v ∧ Dr S' j (b + 44) := by
  obtain ⟨k, x, S1, hx, e1, a3, a4⟩ := of_ok (xs := [.int 3, .int 1000]) h (by omega) (by simp) (by simp)
  obtain ⟨r, rfl, hr⟩ : ∃ r : Int, x = .int r ∧ 1 ≤ r ∧ r ≤ 1000 := by
    have := List.mem_of_getElem? hx
    simp at this
    rcases this with rfl | rfl
    · exact ⟨3, rfl, by omega⟩
    · exact ⟨1000, rfl, by omega⟩
  obtain ⟨A, t, v, S2, e2, mv, _, b4⟩ := some_move_ok (d := d) (r := r) a4 hd (by omega) hr
  exact ⟨A, t, v, S2, sCall_ok (lCons_ok (sVar_ok h2) (lCons_ok (sVar_ok h3) (lCons_ok (sCall_ok (lCons_ok (sVar_ok h2) (lCons_ok (sF_ok (lst_ok (lCons_ok (sC_ok _) (lCons_ok (sC_ok _) lNil_ok)) rfl rfl)) lNil_ok)) e1) lNil_ok))) e2, mv, b4.mono (by omega)⟩
end K21
end

section
set_option Elab.async false
set_option linter.all false
set_option maxRecDepth 100000
set_option maxHeartbeats 4000000
namespace K21
open PySem PySem.Spec PyProof.Rows L2 EvL EvH K21M
/-! one turn -/
theorem gif_skip2 {t : SemB} {r : Sem1} {en : En} {m m1 : Store} (h : t en m = .ok false m1) : gIf t (gRet r) gNext en m = .nx en m1 := (gIf_f h).trans rfl
def bodyL : SemS := (gSeq (gSet 2 (sCall f__law_begun (lCons (sVar 0) (lCons (sVar 1) lNil)))) (gSeq (gSet 3 (sBin oAddP (sC (.int 1)) (sCall f__law_draw (lCons (sVar 2) (lCons (sC (.int 3)) lNil))))) (gSeq (gPar 4 5 (lCons (sCall f__law_some_move (lCons (sVar 2) (lCons (sVar 3) (lCons (sCall f__law_of (lCons (sVar 2) (lCons (sF (fLst (lCons (sC (.int 3)) (lCons (sC (.int 1000)) lNil)))) lNil))) lNil)))) (lCons (sCall f__law_some_move (lCons (sVar 2) (lCons (sVar 3) (lCons (sCall f__law_of (lCons (sVar 2) (lCons (sF (fLst (lCons (sC (.int 3)) (lCons (sC (.int 1000)) lNil)))) lNil))) lNil)))) lNil))) (gSeq (gSet 6 (sUn oTuple (sF (fComp (iRange1 (sVar 3)) (tgN 13) bYes (sBin oSub (sCall f__law_draw (lCons (sVar 2) (lCons (sC (.int 2001)) lNil))) (sC (.int 1000))) [13])))) (gSeq (gIf (bOr (bNot (sT (sCall f__law_two_right (lCons (sVar 2) (lCons (sVar 4) (lCons (sVar 5) (lCons (sVar 6) lNil))))))) (bNot (sT (sCall f__law_two_right (lCons (sVar 2) (lCons (sVar 5) (lCons (sVar 4) (lCons (sBin oMulP (sTup (lCons (sC (.int 0)) lNil)) (sVar 3)) lNil)))))))) (gRet (sC (.bl false))) gNext) (gSeq (gFor (iRange1 (sC (.int 5))) (tgN 7) (gIf (bNot (sT (sCall f__law_judged_right (lCons (sCall f__law_bent (lCons (sVar 2) (lCons (sVar 4) lNil))) lNil)))) (gRet (sC (.bl false))) gNext)) (gSeq (gFor (iSeq (sTup (lCons (sC .non) (lCons (sTup lNil) (lCons (sBin oMulP (sTup (lCons (sC (.int 1001)) lNil)) (sVar 3)) (lCons (sBin oMulP (sF (fLst (lCons (sC (.int 0)) lNil))) (sVar 3)) (lCons (sBin oMulP (sTup (lCons (sC (.bl true)) lNil)) (sVar 3)) (lCons (sBin oMulP (sTup (lCons (sC (.int 0)) lNil)) (sC (.int 4))) (lCons (sC (.int 5)) (lCons (sC (.str "1")) lNil)))))))))) (tgN 8) (gIf (bNot (sT (sCall f__law_like (lCons (sCall f__law_heard (lCons (sC (.fn 1)) (lCons (sTup (lCons (sVar 4) (lCons (sVar 8) lNil))) lNil))) (lCons (sTup (lCons (sC (.str "point")) (lCons (sVar 8) lNil))) lNil))))) (gRet (sC (.bl false))) gNext)) (gSeq (gIf (bNot (sT (sCall f__law_like (lCons (sCall f__law_heard (lCons (sC (.fn 1)) (lCons (sTup (lCons (sVar 4) (lCons (sBin oMulP (sTup (lCons (sC (.int 0)) lNil)) (sBin oAddP (sBin oMod (sVar 3) (sC (.int 3))) (sC (.int 1)))) lNil))) lNil))) (lCons (sTup (lCons (sC (.str "unlike")) (lCons (sC (.int 0)) lNil))) lNil))))) (gRet (sC (.bl false))) gNext) (gSeq (gSet 9 (sCall f__law_some_move (lCons (sVar 2) (lCons (sBin oAddP (sBin oMod (sVar 3) (sC (.int 3))) (sC (.int 1))) (lCons (sC (.int 2)) lNil))))) (gIf (bNot (sT (sCall f__law_like (lCons (sCall f__law_heard (lCons (sC (.fn 0)) (lCons (sTup (lCons (sVar 4) (lCons (sVar 9) lNil))) lNil))) (lCons (sTup (lCons (sC (.str "unlike")) (lCons (sC (.int 0)) lNil))) lNil))))) (gRet (sC (.bl false))) gNext))))))))))
abbrev enL (ns : List Int) (o1 o2 o3 o4 o5 o6 o7 o8 o9 : Option Sv) : En := [some (.d (.scr ns)), o1, o2, o3, o4, o5, o6, o7, o8, o9, none, none, none, none]
theorem turn_true {ns : List Int} {k : Nat} (hn : ns.length ≤ 63) (hk : k ≤ 3) (m : Store) (o2 o3 o4 o5 o6 o7 o8 o9 : Option Sv) : ∃ p2 p3 p4 p5 p6 p7 p8 p9 S, bodyL (enL ns (some (.d (.int k))) o2 o3 o4 o5 o6 o7 o8 o9) m = .nx (enL ns (some (.d (.int k))) p2 p3 p4 p5 p6 p7 p8 p9) S := by
  obtain ⟨x, e1, dr1⟩ := begun_ok (m := m) hn hk
  obtain ⟨r, S2, e2, r1, r2, _, dr2⟩ := draw_at (en := enL ns (some (.d (.int k))) (some (.o m.length)) o3 o4 o5 o6 o7 o8 o9) (i := 2) (f := sC (.int 3)) (span := 3) dr1 (by omega) (by omega) (by omega) rfl (fun _ => rfl)
  obtain ⟨d, hd, hd3⟩ : ∃ d : Nat, (1 + r = (d : Int)) ∧ (1 ≤ d ∧ d ≤ 3) := ⟨(1 + r).toNat, by omega, by omega⟩
  have e3 : sBin oAddP (sC (.int 1)) (sCall f__law_draw (lCons (sVar 2) (lCons (sC (.int 3)) lNil))) (enL ns (some (.d (.int k))) (some (.o m.length)) o3 o4 o5 o6 o7 o8 o9) (m ++ [x]) = .ok (.d (.int d)) S2 := by
    rw [← hd]
    exact sBin_ok (sC_ok _) e2 rfl rfl rfl
  obtain ⟨A, t, v, S3, e4, ha, dr3⟩ := mkMv_ok (en := enL ns (some (.d (.int k))) (some (.o m.length)) (some (.d (.int d))) o4 o5 o6 o7 o8 o9) dr2 (by omega) hd3 rfl rfl
  obtain ⟨B, s, w, S4, e5, hb, dr4⟩ := mkMv_ok (en := enL ns (some (.d (.int k))) (some (.o m.length)) (some (.d (.int d))) o4 o5 o6 o7 o8 o9) dr3 (by omega) hd3 rfl rfl
  obtain ⟨u, S5, e6, u1, u2, _, dr5⟩ := spot_draws (en := enL ns (some (.d (.int k))) (some (.o m.length)) (some (.d (.int d))) (some (.d v)) (some (.d w)) o6 o7 o8 o9) (i := 2) (c := 3) (q := 13) (n := d) (fs := sC (.int 2001)) (fo := sC (.int 1000)) (span := 2001) (off := 1000) dr4 (by omega) (by omega) (by omega) (by omega) rfl rfl (by decide) (fun _ _ => rfl) (fun _ _ => rfl)
  have t1 := v_two (j := m.length) ha hb hd3 u1 (fun i hi => by have := u2 i hi; omega) S5
  have t2 := v_two (j := m.length) hb ha hd3 (x := zer d) (by simp [zer]) (fun i hi => by have : i = 0 := List.eq_of_mem_replicate hi; omega) S5
  rw [zer_trow] at t2
  -- the five bent ones
  obtain ⟨en6, S6, e7, o7', rfl, dr6⟩ := loop_nx (G := tgN 7) (body := gIf (bNot (sT (sCall f__law_judged_right (lCons (sCall f__law_bent (lCons (sVar 2) (lCons (sVar 4) lNil))) lNil)))) (gRet (sC (.bl false))) gNext) (xs := rng 0 5)
    (fun i en S => ∃ o7', en = enL ns (some (.d (.int k))) (some (.o m.length)) (some (.d (.int d))) (some (.d v)) (some (.d w)) (some (.d (trow u))) o7' o8 o9 ∧ Dr S m.length (500 + 5 * i))
    (fun i y en S hy ⟨o7', hen, dr⟩ => by
      subst hen
      obtain ⟨rfl, hi⟩ := rng_get hy
      obtain ⟨z, S', eb, nz, _, drb⟩ := bent_ok ha hd3 dr (by omega)
      have jd := v_judged nz.2 nz.1 (by decide) (by decide) S'
      exact ⟨_, rfl, _, S', .inl (gif_skip2 (bNot_ok (sT_ok (sCall_ok (lCons_ok (sCall_ok (lCons_ok (sVar_ok rfl) (lCons_ok (sVar_ok rfl) lNil_ok)) eb) lNil_ok) jd)))), some (.d (.int (0 + i))), rfl, drb.mono (by omega)⟩)
    (en := enL ns (some (.d (.int k))) (some (.o m.length)) (some (.d (.int d))) (some (.d v)) (some (.d w)) (some (.d (trow u))) o7 o8 o9) (m := S5)
    ⟨o7, rfl, dr5.mono (by omega)⟩
  rw [rng_len] at dr6
  -- the odd points
  have e8 : iSeq (sTup (lCons (sC .non) (lCons (sTup lNil) (lCons (sBin oMulP (sTup (lCons (sC (.int 1001)) lNil)) (sVar 3)) (lCons (sBin oMulP (sF (fLst (lCons (sC (.int 0)) lNil))) (sVar 3)) (lCons (sBin oMulP (sTup (lCons (sC (.bl true)) lNil)) (sVar 3)) (lCons (sBin oMulP (sTup (lCons (sC (.int 0)) lNil)) (sC (.int 4))) (lCons (sC (.int 5)) (lCons (sC (.str "1")) lNil))))))))) (enL ns (some (.d (.int k))) (some (.o m.length)) (some (.d (.int d))) (some (.d v)) (some (.d w)) (some (.d (trow u))) o7' o8 o9) S6 = .ok (xs8 d) S6 := by
    have rd : ∀ y : Dv, oMulP (.tup [y]) (.int d) = some (.tup (List.replicate d y)) := fun y => rep_t (by omega)
    exact iSeq_t (tup_ok (lCons_ok (sC_ok _) (lCons_ok (tup_ok lNil_ok rfl rfl) (lCons_ok (sBin_ok (tup_ok (lCons_ok (sC_ok _) lNil_ok) rfl rfl) (sVar_ok rfl) rfl rfl (rd _)) (lCons_ok (sBin_ok (sF_ok (lst_ok (lCons_ok (sC_ok _) lNil_ok) rfl rfl)) (sVar_ok rfl) rfl rfl (rep_l (by omega))) (lCons_ok (sBin_ok (tup_ok (lCons_ok (sC_ok _) lNil_ok) rfl rfl) (sVar_ok rfl) rfl rfl (rd _)) (lCons_ok (sBin_ok (tup_ok (lCons_ok (sC_ok _) lNil_ok) rfl rfl) (sC_ok _) rfl rfl (rep_t (d := 4) (by decide))) (lCons_ok (sC_ok _) (lCons_ok (sC_ok _) lNil_ok)))))))) rfl rfl)
  obtain ⟨en7, S7, e9, o8', rfl, rfl⟩ := loop_nx (G := tgN 8) (body := gIf (bNot (sT (sCall f__law_like (lCons (sCall f__law_heard (lCons (sC (.fn 1)) (lCons (sTup (lCons (sVar 4) (lCons (sVar 8) lNil))) lNil))) (lCons (sTup (lCons (sC (.str "point")) (lCons (sVar 8) lNil))) lNil))))) (gRet (sC (.bl false))) gNext) (xs := xs8 d)
    (fun i en S => ∃ o8', en = enL ns (some (.d (.int k))) (some (.o m.length)) (some (.d (.int d))) (some (.d v)) (some (.d w)) (some (.d (trow u))) o7' o8' o9 ∧ S = S6)
    (fun i y en S hy ⟨o8', hen, hS⟩ => by
      subst hen
      subst hS
      have od := odd_ok hd3 y (List.mem_of_getElem? hy)
      have pb := point_bad ha hd3 od.ty od.tu od.sm (by decide) (by decide) od.no S
      exact ⟨_, rfl, _, S, .inl (gif_skip (bNot_ok (sT_ok (like_call (sCall_ok (lCons_ok (sC_ok _) (lCons_ok (tup_ok (lCons_ok (sVar_ok rfl) (lCons_ok (sVar_ok rfl) lNil_ok)) rfl rfl) lNil_ok)) (heard2 (n := 1) (by decide) pb (told_point y))) (tup_ok (lCons_ok (sC_ok _) (lCons_ok (sVar_ok rfl) lNil_ok)) rfl rfl) rfl rfl (point_show od.sm))))), some (.d y), rfl, rfl⟩)
    (en := enL ns (some (.d (.int k))) (some (.o m.length)) (some (.d (.int d))) (some (.d v)) (some (.d w)) (some (.d (trow u))) o7' o8 o9) (m := S6)
    ⟨o8, rfl, rfl⟩
  -- unlike ones
  obtain ⟨e, he, hed, en3⟩ := nextd hd3
  have pz := point_any ha hd3 (x := zer e) (by simp [zer]; omega) (fun i hi => by have : i = 0 := List.eq_of_mem_replicate hi; omega) S7
  rw [if_neg (by simp [zer]; exact hed), zer_trow] at pz
  obtain ⟨C, c, z, S8, e10, hc, _, dr8⟩ := some_move_ok (d := e) (r := 2) dr6 he (by omega) (by omega)
  obtain ⟨ga, ea⟩ := ha.gd
  obtain ⟨gc, ec⟩ := hc.gd
  have cz := v_composed ga gc hd3 he S8
  rw [if_neg hed, ← ea, ← ec] at cz
  refine ⟨some (.o m.length), some (.d (.int d)), some (.d v), some (.d w), some (.d (trow u)), o7', o8', some (.d z), S8, ?_⟩
  refine (gSeq_ok (gSet_ok (sCall_ok (lCons_ok (sVar_ok rfl) (lCons_ok (sVar_ok rfl) lNil_ok)) e1))).trans ?_
  refine (gSeq_ok (gSet_ok e3)).trans ?_
  refine (gSeq_ok (gPar_ok (lCons_ok e4 (lCons_ok e5 lNil_ok)))).trans ?_
  refine (gSeq_ok (gSet_ok (x := .d (trow u)) (sUn_ok (sF_ok e6) rfl rfl))).trans ?_
  refine (gSeq_ok (gif_skip ((bOr_f (bNot_ok (sT_ok (sCall_ok (lCons_ok (sVar_ok rfl) (lCons_ok (sVar_ok rfl) (lCons_ok (sVar_ok rfl) (lCons_ok (sVar_ok rfl) lNil_ok)))) t1)))).trans (bNot_ok (sT_ok (sCall_ok (lCons_ok (sVar_ok rfl) (lCons_ok (sVar_ok rfl) (lCons_ok (sVar_ok rfl) (lCons_ok (sBin_ok (tup_ok (lCons_ok (sC_ok _) lNil_ok) rfl rfl) (sVar_ok rfl) rfl rfl (rep_t (by omega))) lNil_ok)))) t2)))))).trans ?_
  refine (gSeq_ok ((gFor_ok (iRange1_ok (sC_ok _) (by decide) (by decide))).trans e7)).trans ?_
  refine (gSeq_ok ((gFor_ok e8).trans e9)).trans ?_
  refine (gSeq_ok (gif_skip (bNot_ok (sT_ok (like_call (sCall_ok (lCons_ok (sC_ok _) (lCons_ok (tup_ok (lCons_ok (sVar_ok rfl) (lCons_ok (sBin_ok (tup_ok (lCons_ok (sC_ok _) lNil_ok) rfl rfl) (en3 _ _ rfl) rfl rfl (rep_t (by omega))) lNil_ok)) rfl rfl) lNil_ok)) (heard2 (n := 1) (by decide) pz told_unlike)) (tup_ok (lCons_ok (sC_ok _) (lCons_ok (sC_ok _) lNil_ok)) rfl rfl) rfl rfl unD_ok))))).trans ?_
  refine (gSeq_ok (gSet_ok (sCall_ok (lCons_ok (sVar_ok rfl) (lCons_ok (en3 _ _ rfl) (lCons_ok (sC_ok _) lNil_ok))) e10))).trans ?_
  exact gif_skip (bNot_ok (sT_ok (like_call (sCall_ok (lCons_ok (sC_ok _) (lCons_ok (tup_ok (lCons_ok (sVar_ok rfl) (lCons_ok (sVar_ok rfl) lNil_ok)) rfl rfl) lNil_ok)) (heard2 (n := 0) (by decide) cz told_unlike)) (tup_ok (lCons_ok (sC_ok _) (lCons_ok (sC_ok _) lNil_ok)) rfl rfl) rfl rfl unD_ok)))
end K21
end

section
set_option Elab.async false
set_option linter.all false
set_option maxRecDepth 100000
set_option maxHeartbeats 4000000
namespace K21
open PySem PySem.Spec PyProof.Rows L2 EvL EvH K21M
/-! the last part, and the law -/
theorem fBin_ok {op : Dv → Dv → Option (List Dv)} {fa fb : Sem1} {en : En} {m m1 m2 : Store} {x y : Sv} {a b : Dv} {l : List Dv} (ha : fa en m = .ok x m1) (hb : fb en m1 = .ok y m2) (h1 : rv m2 x = some a) (h2 : rv m2 y = some b) (ho : op a b = some l) : fBin op fa fb en m = .ok l m2 := by simp [fBin, Rs.bind, ha, hb, h1, h2, ho]
theorem like_o {p q : Nat} {l : List Dv} {m : Store} (hp : m[p]? = some (.lst l)) (hq : m[q]? = some (.lst l)) (h : showOk (.lst l) = true) : f__law_like [.o p, .o q] m = .ok (.d (.bl true)) m := by
  have hg : good (.lst l) = true := by
    unfold showOk at h
    simp only [Bool.and_eq_true] at h
    exact h.1.1.1.1
  have he : PyData.eqv (cv (.lst l)) (cv (.lst l)) = true := by
    unfold good at hg
    rw [Bool.and_eq_true] at hg
    exact SeqAt.eqv_refl _ (SeqAt.canLay_of_shaped hg.2)
  have e1 : oEq (.lst l) (.lst l) = some (.bl true) := by unfold oEq; rw [hg]; simp [he]
  have e2 : oRepr (.lst l) = some (.str (cv (.lst l)).shown) := by unfold oRepr; rw [if_pos h]
  have e3 : ∀ z : Str, oEqS (.str z) (.str z) = some (.bl true) := fun z => by simp [oEqS]
  have h1 : sBin oEq (sVar 0) (sVar 1) [some (.o p), some (.o q)] m = .ok (.d (.bl true)) m := sBin_ok (sVar_ok rfl) (sVar_ok rfl) (rv_lst hp) (rv_lst hq) e1
  have h2 : sBin oEqS (sUn oRepr (sVar 0)) (sUn oRepr (sVar 1)) [some (.o p), some (.o q)] m = .ok (.d (.bl true)) m := sBin_ok (sUn_ok (sVar_ok rfl) (rv_lst hp) e2) (sUn_ok (sVar_ok rfl) (rv_lst hq) e2) rfl rfl (e3 _)
  have h3 : g__law_like [some (.o p), some (.o q)] m = .rt (.d (.bl true)) m := gRet_ok ((sAnd_t h1).trans h2)
  exact (fn_d (ns := 2) (np := 2) (ws := [.o p, .o q]) (g1 := g__law_like) rfl h3).trans (by rw [take_self])
def gA : Mt := [[1, 1000], [0, 1]]
def gT : List Int := [1000, -1000]
def gB : Mt := [[1, -1000], [0, 1]]
def gZ : List Int := [0, 0]
theorem isG : IsM 2 gA := ⟨rfl, by decide⟩
theorem g1 : Gd 2 gA gT := ⟨isG, by unfold lim; decide, by decide, rfl, by decide⟩
theorem g2 : Gd 2 gA gZ := ⟨isG, by unfold lim; decide, by decide, rfl, by decide⟩
theorem k1 {en : En} {m : Store} {f : Sem1} (hf : f en m = .ok (.d (mvD gA gT)) m) : sCall f_need_move (lCons f lNil) en m = .ok (.d (mvD gA gT)) m := sCall_ok (lCons_ok hf lNil_ok) (g1.need (by decide) m)
theorem k2 {en : En} {m : Store} {f : Sem1} (hf : f en m = .ok (.d (mvD gA gZ)) m) : sCall f_inverse_move (lCons f lNil) en m = .ok (.d (mvD gB gZ)) m := by
  have c := v_inverse g2 (by decide) m
  have e : (fars (invL 2 gA ++ [invT 2 gA gZ])).any id = false := by decide
  rw [e] at c
  exact sCall_ok (lCons_ok hf lNil_ok) c
theorem k3 {en : En} {m : Store} {f : Sem1} (hf : f en m = .ok (.d (mvD gA gT)) m) : sCall f__law_heard (lCons (sC (.fn 2)) (lCons (sTup (lCons f lNil)) lNil)) en m = .ok (.d grD) m := by
  have c := v_inverse g1 (by decide) m
  have e : (fars (invL 2 gA ++ [invT 2 gA gT])).any id = true := by decide
  rw [e] at c
  exact sCall_ok (lCons_ok (sC_ok _) (lCons_ok (tup_ok (lCons_ok hf lNil_ok) rfl rfl) lNil_ok)) (heard1 (n := 2) (o := .e great) (by decide) c told_great)
theorem k4 {en : En} {m : Store} {f : Sem1} (hf : f en m = .ok (.d (mvD gA gT)) m) : sCall f__law_heard (lCons (sC (.fn 0)) (lCons (sTup (lCons f (lCons f lNil))) lNil)) en m = .ok (.d grD) m := by
  have c := v_composed g1 g1 (by decide) (by decide) m
  have e : (fars (mul 2 gA gA ++ [mvd gA gT gT])).any id = true := by decide
  rw [if_pos rfl, e] at c
  exact sCall_ok (lCons_ok (sC_ok _) (lCons_ok (tup_ok (lCons_ok hf (lCons_ok hf lNil_ok)) rfl rfl) lNil_ok)) (heard2 (n := 0) (o := .e great) (by decide) c told_great)
theorem mv1 : Mv 1 [[-1]] [500] (mvD [[-1]] [500]) := ⟨rfl, ⟨⟨rfl, by decide⟩, by unfold lim; decide, by decide⟩, rfl, by decide⟩
theorem k5 {en : En} {m : Store} {f f2 : Sem1} (hf : f en m = .ok (.d (mvD [[-1]] [500])) m) (hf2 : f2 en m = .ok (.d (trow [-500])) m) : sCall f_moved_point (lCons f (lCons f2 lNil)) en m = .ok (.d (trow [1000])) m := by
  have c := point_any mv1 (by decide) (x := [-500]) (by decide) (by decide) m
  have e : (fars [mvd [[-1]] [500] [-500]]).any id = false := by decide
  rw [if_pos (show ([-500] : List Int).length = 1 from rfl), e] at c
  exact sCall_ok (lCons_ok hf (lCons_ok hf2 lNil_ok)) c
theorem k6 {en : En} {m : Store} {f f2 : Sem1} (hf : f en m = .ok (.d (mvD [[-1]] [500])) m) (hf2 : f2 en m = .ok (.d (trow [-501])) m) : sCall f__law_heard (lCons (sC (.fn 1)) (lCons (sTup (lCons f (lCons f2 lNil))) lNil)) en m = .ok (.d grD) m := by
  have c := point_any mv1 (by decide) (x := [-501]) (by decide) (by decide) m
  have e : (fars [mvd [[-1]] [500] [-501]]).any id = true := by decide
  rw [if_pos (show ([-501] : List Int).length = 1 from rfl), e] at c
  exact sCall_ok (lCons_ok (sC_ok _) (lCons_ok (tup_ok (lCons_ok hf (lCons_ok hf2 lNil_ok)) rfl rfl) lNil_ok)) (heard2 (n := 1) (o := .e great) (by decide) c told_great)
def xs6 : List Dv := [.int 0, .int 4, .non, .bl true, .str "2", .tup [.int 2]]
def num (x : Dv) : Dv := .tup [.str "number", x]
theorem sm_two : Sm 42 1 (.str "2") := (Sm.str (z := "2") (by decide +kernel)).mono (by decide) (by decide)
theorem six_ok : ∀ x ∈ xs6, ty x = true ∧ Sm 42 1 x ∧ inR 1 3 x = false := by
  intro x hx
  simp only [xs6, List.mem_cons, List.not_mem_nil, or_false] at hx
  rcases hx with rfl | rfl | rfl | rfl | rfl | rfl
  · exact ⟨rfl, (El.int (by decide)).1, rfl⟩
  · exact ⟨rfl, (El.int (by decide)).1, rfl⟩
  · exact ⟨rfl, El.non.1, rfl⟩
  · exact ⟨rfl, (El.bl true).1, rfl⟩
  · exact ⟨rfl, sm_two, rfl⟩
  · exact ⟨rfl, Sm.tup (n := 1) (w := 41) (p := 0) (fun x hx => by simp at hx; subst hx; exact Sm.int (by decide)) (by simp), rfl⟩
def L0 : List Dv := [mvD gA gT, mvD gB gZ, grD, grD]
def L1 : List Dv := [mvD gA gT, mvD gB gZ, grD, grD, trow [1000], grD]
theorem sm_ints {l : List Int} (hl : l.length ≤ 2) (h : ∀ x ∈ l, x.natAbs < 10 ^ 12) : Sm 84 1 (trow l) := Sm.tup (n := 2) (w := 41) (p := 0) (fun x hx => by
  obtain ⟨i, hi, rfl⟩ := List.mem_map.mp hx
  exact Sm.int (h i hi)) (by simpa using hl)
theorem sm_mvD {A : Mt} {t : List Int} (hA : A.length ≤ 2) (h : ∀ r ∈ A, r.length ≤ 2 ∧ ∀ x ∈ r, x.natAbs < 10 ^ 12) (hl : t.length ≤ 2) (ht : ∀ x ∈ t, x.natAbs < 10 ^ 12) : Sm 342 3 (mvD A t) := Sm.tup (n := 2) (w := 170) (p := 2) (fun x hx => by
  simp at hx
  rcases hx with rfl | rfl
  · exact Sm.tup (n := 2) (w := 84) (p := 1) (fun y hy => by
      obtain ⟨r, hr, rfl⟩ := List.mem_map.mp hy
      exact sm_ints (h r hr).1 (h r hr).2) (by simpa [tm] using hA)
  · exact (sm_ints hl ht).mono (by decide) (by decide)) (by simp)
theorem sm_gr : Sm 342 3 grD := (Sm.tup (n := 2) (w := 41) (p := 0) (fun x hx => by
  simp at hx
  rcases hx with rfl | rfl
  · exact (Sm.str (z := "great") (by decide +kernel)).mono (by decide) (by decide)
  · exact Sm.int (by decide)) (by simp)).mono (by decide) (by decide)
theorem last_ok : showOk (.lst (L1 ++ xs6.map num)) = true := (Sm.lst (n := 12) (w := 342) (p := 3) (fun x hx => by
  rcases List.mem_append.mp hx with z | z
  · simp only [L1, List.mem_cons, List.not_mem_nil, or_false] at z
    rcases z with rfl | rfl | rfl | rfl | rfl | rfl
    · exact sm_mvD (by decide) (by decide) (by decide) (by decide)
    · exact sm_mvD (by decide) (by decide) (by decide) (by decide)
    · exact sm_gr
    · exact sm_gr
    · exact (sm_ints (l := [1000]) (by decide) (by decide)).mono (by decide) (by decide)
    · exact sm_gr
  · obtain ⟨y, hy, rfl⟩ := List.mem_map.mp z
    exact (Sm.tup (n := 2) (w := 42) (p := 1) (fun x hx => by
      simp at hx
      rcases hx with rfl | rfl
      · exact (Sm.str (z := "number") (by decide +kernel)).mono (by decide) (by decide)
      · exact (six_ok _ hy).2.1) (by simp)).mono (by decide) (by decide)) (by decide)).ok (by decide) (by decide)
def bodyN : SemS := (gSeq (gApp 11 (sCall f__law_heard (lCons (sC (.fn 6)) (lCons (sTup (lCons (sVar 8) lNil)) lNil)))) (gApp 12 (sTup (lCons (sC (.str "number")) (lCons (sVar 8) lNil)))))
def gLast : SemS := (gSeq (gSet 10 (sTup (lCons (sTup (lCons (sTup (lCons (sC (.int 1)) (lCons (sC (.int 1000)) lNil))) (lCons (sTup (lCons (sC (.int 0)) (lCons (sC (.int 1)) lNil))) lNil))) (lCons (sTup (lCons (sC (.int 1000)) (lCons (sUn oNeg (sC (.int 1000))) lNil))) lNil)))) (gSeq (gNew 11 (fLst (lCons (sCall f_need_move (lCons (sVar 10) lNil)) (lCons (sCall f_inverse_move (lCons (sTup (lCons (sTup (lCons (sTup (lCons (sC (.int 1)) (lCons (sC (.int 1000)) lNil))) (lCons (sTup (lCons (sC (.int 0)) (lCons (sC (.int 1)) lNil))) lNil))) (lCons (sTup (lCons (sC (.int 0)) (lCons (sC (.int 0)) lNil))) lNil))) lNil)) (lCons (sCall f__law_heard (lCons (sC (.fn 2)) (lCons (sTup (lCons (sVar 10) lNil)) lNil))) (lCons (sCall f__law_heard (lCons (sC (.fn 0)) (lCons (sTup (lCons (sVar 10) (lCons (sVar 10) lNil))) lNil))) lNil)))))) (gSeq (gNew 12 (fLst (lCons (sVar 10) (lCons (sTup (lCons (sTup (lCons (sTup (lCons (sC (.int 1)) (lCons (sUn oNeg (sC (.int 1000))) lNil))) (lCons (sTup (lCons (sC (.int 0)) (lCons (sC (.int 1)) lNil))) lNil))) (lCons (sTup (lCons (sC (.int 0)) (lCons (sC (.int 0)) lNil))) lNil))) (lCons (sTup (lCons (sC (.str "great")) (lCons (sC (.int 1000)) lNil))) (lCons (sTup (lCons (sC (.str "great")) (lCons (sC (.int 1000)) lNil))) lNil)))))) (gSeq (gNew 11 (fBin oCatL (sVar 11) (sF (fLst (lCons (sCall f_moved_point (lCons (sTup (lCons (sTup (lCons (sTup (lCons (sUn oNeg (sC (.int 1))) lNil)) lNil)) (lCons (sTup (lCons (sC (.int 500)) lNil)) lNil))) (lCons (sTup (lCons (sUn oNeg (sC (.int 500))) lNil)) lNil))) (lCons (sCall f__law_heard (lCons (sC (.fn 1)) (lCons (sTup (lCons (sTup (lCons (sTup (lCons (sTup (lCons (sUn oNeg (sC (.int 1))) lNil)) lNil)) (lCons (sTup (lCons (sC (.int 500)) lNil)) lNil))) (lCons (sTup (lCons (sUn oNeg (sC (.int 501))) lNil)) lNil))) lNil))) lNil)))))) (gSeq (gNew 12 (fBin oCatL (sVar 12) (sF (fLst (lCons (sTup (lCons (sC (.int 1000)) lNil)) (lCons (sTup (lCons (sC (.str "great")) (lCons (sC (.int 1000)) lNil))) lNil)))))) (gSeq (gFor (iSeq (sTup (lCons (sC (.int 0)) (lCons (sC (.int 4)) (lCons (sC .non) (lCons (sC (.bl true)) (lCons (sC (.str "2")) (lCons (sTup (lCons (sC (.int 2)) lNil)) lNil)))))))) (tgN 8) (gSeq (gApp 11 (sCall f__law_heard (lCons (sC (.fn 6)) (lCons (sTup (lCons (sVar 8) lNil)) lNil)))) (gApp 12 (sTup (lCons (sC (.str "number")) (lCons (sVar 8) lNil)))))) (gRet (sCall f__law_like (lCons (sVar 11) (lCons (sVar 12) lNil))))))))))
theorem last_true {ns : List Int} {S : Store} {o1 o2 o3 o4 o5 o6 o7 o8 o9 : Option Sv} : ∃ S', gLast (enL ns o1 o2 o3 o4 o5 o6 o7 o8 o9) S = .rt (.d (.bl true)) S' := by
  have q11 : ((S ++ [So.lst L0]) ++ [So.lst L0])[S.length]? = some (.lst L0) := get_keep (get_push _ _)
  have q12 : (((S ++ [So.lst L0]) ++ [So.lst L0]) ++ [So.lst L1])[(S ++ [So.lst L0]).length]? = some (.lst L0) := get_keep (get_push _ _)
  obtain ⟨en', S', e, o8', rfl, h1, h2⟩ := loop_nx (G := tgN 8) (body := bodyN) (xs := xs6)
    (fun i en T => ∃ o8', en = [some (.d (.scr ns)), o1, o2, o3, o4, o5, o6, o7, o8', o9, some (.d (mvD gA gT)), some (.o ((S ++ [So.lst L0]) ++ [So.lst L0]).length), some (.o (((S ++ [So.lst L0]) ++ [So.lst L0]) ++ [So.lst L1]).length), none] ∧ T[((S ++ [So.lst L0]) ++ [So.lst L0]).length]? = some (.lst (L1 ++ (xs6.take i).map num)) ∧ T[(((S ++ [So.lst L0]) ++ [So.lst L0]) ++ [So.lst L1]).length]? = some (.lst (L1 ++ (xs6.take i).map num)))
    (fun i y en T hy ⟨o8', hen, h1, h2⟩ => by
      subst hen
      have ne : ((S ++ [So.lst L0]) ++ [So.lst L0]).length ≠ (((S ++ [So.lst L0]) ++ [So.lst L0]) ++ [So.lst L1]).length := by simp
      have hm := List.mem_of_getElem? hy
      have hi : i < 6 := (List.getElem?_eq_some_iff.mp hy).1
      obtain ⟨a1, a2, a3⟩ := six_ok y hm
      have pb := plain_bad a1 a2 (by decide) (by decide) a3 T
      have hd : sCall f__law_heard (lCons (sC (.fn 6)) (lCons (sTup (lCons (sVar 8) lNil)) lNil)) [some (.d (.scr ns)), o1, o2, o3, o4, o5, o6, o7, some (.d y), o9, some (.d (mvD gA gT)), some (.o ((S ++ [So.lst L0]) ++ [So.lst L0]).length), some (.o (((S ++ [So.lst L0]) ++ [So.lst L0]) ++ [So.lst L1]).length), none] T = .ok (.d (num y)) T := sCall_ok (lCons_ok (sC_ok _) (lCons_ok (tup_ok (lCons_ok (sVar_ok rfl) lNil_ok) rfl rfl) lNil_ok)) (heard1 (n := 6) (by decide) pb (told_number y))
      have ft : fits ((L1 ++ (xs6.take i).map num).length + 1) = true := fits_le (by simp [L1]; omega)
      have tk : (xs6.take (i + 1)).map num = (xs6.take i).map num ++ [num y] := by
        rw [List.take_add_one, hy, List.map_append]
        rfl
      have h2' : (T.set ((S ++ [So.lst L0]) ++ [So.lst L0]).length (.lst ((L1 ++ (xs6.take i).map num) ++ [num y])))[(((S ++ [So.lst L0]) ++ [So.lst L0]) ++ [So.lst L1]).length]? = some (.lst (L1 ++ (xs6.take i).map num)) := by
        rw [List.getElem?_set_ne ne]
        exact h2
      refine ⟨_, rfl, _, _, .inl ((gSeq_ok (gApp_ok rfl h1 hd h1 ft)).trans (gApp_ok rfl h2' (tup_ok (lCons_ok (sC_ok _) (lCons_ok (sVar_ok rfl) lNil_ok)) rfl rfl) h2' ft)), some (.d y), rfl, ?_, ?_⟩
      · rw [List.getElem?_set_ne (Ne.symm ne), get_set h1, tk, List.append_assoc]
      · rw [get_set h2', tk, List.append_assoc]
        rfl)
    (en := [some (.d (.scr ns)), o1, o2, o3, o4, o5, o6, o7, o8, o9, some (.d (mvD gA gT)), some (.o ((S ++ [So.lst L0]) ++ [So.lst L0]).length), some (.o (((S ++ [So.lst L0]) ++ [So.lst L0]) ++ [So.lst L1]).length), none]) (m := (((S ++ [So.lst L0]) ++ [So.lst L0]) ++ [So.lst L1]) ++ [So.lst L1])
    ⟨o8, rfl, by rw [get_keep (get_push _ _)]; simp, by rw [get_push]; simp⟩
  refine ⟨S', ?_⟩
  refine (gSeq_ok (gSet_ok (x := .d (mvD gA gT)) rfl)).trans ?_
  refine (gSeq_ok (gNew_ok (xs := L0) (lst_ok (lCons_ok (k1 (sVar_ok rfl)) (lCons_ok (k2 rfl) (lCons_ok (k3 (sVar_ok rfl)) (lCons_ok (k4 (sVar_ok rfl)) lNil_ok)))) rfl rfl))).trans ?_
  refine (gSeq_ok (gNew_ok (xs := L0) (lst_ok (m2 := S ++ [So.lst L0]) (l := L0) (ws := [.d (mvD gA gT), .d (mvD gB gZ), .d grD, .d grD]) (m1 := S ++ [So.lst L0]) rfl rfl rfl))).trans ?_
  refine (gSeq_ok (gNew_ok (xs := L1) (fBin_ok (a := .lst L0) (b := .lst [trow [1000], grD]) (sVar_ok rfl) (sF_ok (lst_ok (lCons_ok (k5 rfl rfl) (lCons_ok (k6 rfl rfl) lNil_ok)) rfl rfl)) (rv_lst q11) rfl rfl))).trans ?_
  refine (gSeq_ok (gNew_ok (xs := L1) (fBin_ok (a := .lst L0) (b := .lst [trow [1000], grD]) (m2 := ((S ++ [So.lst L0]) ++ [So.lst L0]) ++ [So.lst L1]) (y := .d (.lst [trow [1000], grD])) (sVar_ok rfl) rfl (rv_lst q12) rfl rfl))).trans ?_
  refine (gSeq_ok ((gFor_ok (m1 := (((S ++ [So.lst L0]) ++ [So.lst L0]) ++ [So.lst L1]) ++ [So.lst L1]) (xs := xs6) rfl).trans e)).trans ?_
  exact gRet_ok (sCall_ok (lCons_ok (sVar_ok rfl) (lCons_ok (sVar_ok rfl) lNil_ok)) (like_o h1 h2 last_ok))
theorem law_true (ns : List Int) (h : ns.length ≤ 63) : ∃ m, f_law [.d (.scr ns)] [] = .ok (.d (.bl true)) m := by
  have ex : ∃ n : Nat, n ≤ 4 ∧ iRange1 (sBin oAddP (sC (.int 2)) (sTwo (fun i j => if j < i then j else i) (sC (.int 2)) (sUn oLen (sVar 0)))) (enL ns none none none none none none none none none) [] = .ok (rng 0 n) [] := by
    have e1 : sUn oLen (sVar 0) (enL ns none none none none none none none none none) [] = .ok (.d (.int ns.length)) [] := sUn_ok (sVar_ok rfl) rfl (by simp [oLen])
    have e2 : sTwo (fun i j => if j < i then j else i) (sC (.int 2)) (sUn oLen (sVar 0)) (enL ns none none none none none none none none none) [] = .ok (.d (.int (if (ns.length : Int) < 2 then (ns.length : Int) else 2))) [] := sBin_ok (sC_ok _) e1 rfl rfl rfl
    refine ⟨2 + (if ns.length < 2 then ns.length else 2), by split <;> omega, iRange1_ok ?_ (by split <;> omega) (by split <;> omega)⟩
    have : (((2 + (if ns.length < 2 then ns.length else 2) : Nat)) : Int) = 2 + (if (ns.length : Int) < 2 then (ns.length : Int) else 2) := by split <;> split <;> omega
    rw [this]
    exact sBin_ok (sC_ok _) e2 rfl rfl rfl
  obtain ⟨n, hn, er⟩ := ex
  obtain ⟨en', S, e, o1, o2, o3, o4, o5, o6, o7, o8, o9, rfl⟩ := loop_nx (G := tgN 1) (body := bodyL) (xs := rng 0 n)
    (fun i en S => ∃ o1 o2 o3 o4 o5 o6 o7 o8 o9, en = enL ns o1 o2 o3 o4 o5 o6 o7 o8 o9)
    (fun i y en S hy ⟨o1, o2, o3, o4, o5, o6, o7, o8, o9, hen⟩ => by
      subst hen
      obtain ⟨rfl, hi⟩ := rng_get hy
      rw [Int.zero_add]
      obtain ⟨p2, p3, p4, p5, p6, p7, p8, p9, S', eb⟩ := turn_true (k := i) h (by omega) S o2 o3 o4 o5 o6 o7 o8 o9
      exact ⟨_, rfl, _, S', .inl eb, some (.d (.int i)), p2, p3, p4, p5, p6, p7, p8, p9, rfl⟩)
    (en := enL ns none none none none none none none none none) (m := []) ⟨none, none, none, none, none, none, none, none, none, rfl⟩
  obtain ⟨S', el⟩ := last_true (ns := ns) (S := S) (o1 := o1) (o2 := o2) (o3 := o3) (o4 := o4) (o5 := o5) (o6 := o6) (o7 := o7) (o8 := o8) (o9 := o9)
  exact ⟨_, fn_d rfl ((gSeq_ok ((gFor_ok er).trans e)).trans el)⟩
end K21
end

section

end

section
set_option Elab.async false
open PySem PySem.W PyProof.Rows
set_option maxRecDepth 100000 in
set_option maxHeartbeats 0 in
theorem PySem.Challenge.cw_gridbodies_k21_whole_moves_holds : PySem.Challenge.rw_gridbodies_k21_whole_moves.Holds := by
  w_on; o_law; k_head; (case hw => w_witness2)
  k_fill
  refine EvL.walkG (l := PySem.Challenge.rw_gridbodies_k21_whole_moves) (n := 63) (k := 10) (x := "script") (g := K21.f_law) rfl (by decide) rfl ⟨rfl, by decide, by decide⟩ (fun w h Y => PySem.W.km_in_of Y) ?F K21.law_true
  case F =>
    intro w mg h KX G
    refine' K21.head_mk ?b_abs ?b_all ?b_any ?b_bool ?b_enumerate ?b_int ?b_isinstance ?b_len ?b_list ?b_max ?b_min ?b_range ?b_repr ?b_sum ?b_tuple ?b_zip ?c_DEEPS ?c_MOST_NUMBER ?c_MOST_PLACE ?e_BadNumber ?e_BadPoint ?e_BadBody ?e_BadMove ?e_TooGreat ?e_Unlike ?x_0_0 ?x_0_1 ?x_0_2 ?x_0_3 ?x_0_4 ?x_0_5 ?x_1_0 ?x_1_1 ?x_1_2 ?x_1_3 ?x_1_4 ?x_1_5 ?x_2_0 ?x_2_1 ?x_2_2 ?x_2_3 ?x_2_4 ?x_2_5 ?x_3_0 ?x_3_1 ?x_3_2 ?x_3_3 ?x_3_4 ?x_3_5 ?x_4_0 ?x_4_1 ?x_4_2 ?x_4_3 ?x_4_4 ?x_4_5 ?x_5_0 ?x_5_1 ?x_5_2 ?x_5_3 ?x_5_4 ?x_5_5 ?f_composed ?f_moved_point ?f_inverse_move ?f_need_move ?f_move_sign ?f_moved_body ?f_plain_move ?d_is_integer ?d_is_from ?d_determinant_in ?d_lines_fault ?d_is_point ?d_move_fault ?d_need_move ?d_let_rows ?d_let_move ?d_times_lines ?d_plus_point ?d_led_by_lines ?d_moved_point_in ?d_composed_in ?d_composed ?d_is_any_point ?d_moved_point ?d_turned_lines ?d_inverse_in ?d_inverse_move ?d_move_sign ?d_checked_moved ?d_need_body ?d_moved_body ?d_plain_in ?d_plain_move ?d__law_begun ?d__law_draw ?d__law_of ?d__law_shuffled ?d__law_some_turn ?d__law_some_move ?d__law_moved ?d__law_called ?d__law_heard ?d__law_like ?d__law_det ?d__law_two_right ?d__law_is_from ?d__law_is_spot ?d__law_fault ?d__law_judged_right ?d__law_bent ?d_law
    case b_abs => exact PySem.W.mg_none_of KX G (by k_is)
    case b_all => exact PySem.W.mg_none_of KX G (by k_is)
    case b_any => exact PySem.W.mg_none_of KX G (by k_is)
    case b_bool => exact PySem.W.mg_none_of KX G (by k_is)
    case b_enumerate => exact PySem.W.mg_none_of KX G (by k_is)
    case b_int => exact PySem.W.mg_none_of KX G (by k_is)
    case b_isinstance => exact PySem.W.mg_none_of KX G (by k_is)
    case b_len => exact PySem.W.mg_none_of KX G (by k_is)
    case b_list => exact PySem.W.mg_none_of KX G (by k_is)
    case b_max => exact PySem.W.mg_none_of KX G (by k_is)
    case b_min => exact PySem.W.mg_none_of KX G (by k_is)
    case b_range => exact PySem.W.mg_none_of KX G (by k_is)
    case b_repr => exact PySem.W.mg_none_of KX G (by k_is)
    case b_sum => exact PySem.W.mg_none_of KX G (by k_is)
    case b_tuple => exact PySem.W.mg_none_of KX G (by k_is)
    case b_zip => exact PySem.W.mg_none_of KX G (by k_is)
    case c_DEEPS => refine' EvL.conT_mk KX G ?h1 ?h2 ?h3 ?h4 ?h5 ?h6; (case h1 => k_is); (case h2 => k_is); (case h3 => rfl); (case h4 => rfl); (case h5 => decide); (case h6 => exact (.cons ⟨_, rfl⟩ (.cons ⟨_, rfl⟩ (.cons ⟨_, rfl⟩ (.nil)))))
    case c_MOST_NUMBER => exact ⟨_, PySem.W.mg_of KX G (by k_is)⟩
    case c_MOST_PLACE => exact ⟨_, PySem.W.mg_of KX G (by k_is)⟩
    case e_BadNumber => refine' EvL.er1_mk KX G ?aC ?xL ?sa ?noN ?iC ?tC ?kC ?exC ?veC ?tyC ?op ?lI ?cI ?lc ?hv ?lcell ?sp ?ga ?gg ?hdC ?hbm ?su ?hfile ?hln ?hbn ?top ?okf ?hp; (case aC => k_is); (case xL => k_is); (case sa => k_is); (case noN => k_is); (case iC => k_is); (case tC => k_is); (case kC => k_is); (case exC => k_is); (case veC => k_is); (case tyC => k_is); (case op => k_is); (case lI => k_is); (case cI => k_is); (case lc => k_is); (case hv => rfl); (case lcell => k_is); (case sp => k_is); (case ga => k_is); (case gg => k_is); (case hdC => k_is); (case hbm => decide +kernel); (case su => first | k_is | kernel_rfl); (case hfile => first | rfl | decide +kernel); (case hln => rfl); (case hbn => exact fun a b => rfl); (case top => first | rfl | decide +kernel); (case okf => first | rfl | decide +kernel); (case hp => decide)
    case e_BadPoint => refine' EvL.er1_mk KX G ?aC ?xL ?sa ?noN ?iC ?tC ?kC ?exC ?veC ?tyC ?op ?lI ?cI ?lc ?hv ?lcell ?sp ?ga ?gg ?hdC ?hbm ?su ?hfile ?hln ?hbn ?top ?okf ?hp; (case aC => k_is); (case xL => k_is); (case sa => k_is); (case noN => k_is); (case iC => k_is); (case tC => k_is); (case kC => k_is); (case exC => k_is); (case veC => k_is); (case tyC => k_is); (case op => k_is); (case lI => k_is); (case cI => k_is); (case lc => k_is); (case hv => rfl); (case lcell => k_is); (case sp => k_is); (case ga => k_is); (case gg => k_is); (case hdC => k_is); (case hbm => decide +kernel); (case su => first | k_is | kernel_rfl); (case hfile => first | rfl | decide +kernel); (case hln => rfl); (case hbn => exact fun a b => rfl); (case top => first | rfl | decide +kernel); (case okf => first | rfl | decide +kernel); (case hp => decide)
    case e_BadBody => refine' EvL.er1_mk KX G ?aC ?xL ?sa ?noN ?iC ?tC ?kC ?exC ?veC ?tyC ?op ?lI ?cI ?lc ?hv ?lcell ?sp ?ga ?gg ?hdC ?hbm ?su ?hfile ?hln ?hbn ?top ?okf ?hp; (case aC => k_is); (case xL => k_is); (case sa => k_is); (case noN => k_is); (case iC => k_is); (case tC => k_is); (case kC => k_is); (case exC => k_is); (case veC => k_is); (case tyC => k_is); (case op => k_is); (case lI => k_is); (case cI => k_is); (case lc => k_is); (case hv => rfl); (case lcell => k_is); (case sp => k_is); (case ga => k_is); (case gg => k_is); (case hdC => k_is); (case hbm => decide +kernel); (case su => first | k_is | kernel_rfl); (case hfile => first | rfl | decide +kernel); (case hln => rfl); (case hbn => exact fun a b => rfl); (case top => first | rfl | decide +kernel); (case okf => first | rfl | decide +kernel); (case hp => decide)
    case e_BadMove => refine' EvL.er1_mk KX G ?aC ?xL ?sa ?noN ?iC ?tC ?kC ?exC ?veC ?tyC ?op ?lI ?cI ?lc ?hv ?lcell ?sp ?ga ?gg ?hdC ?hbm ?su ?hfile ?hln ?hbn ?top ?okf ?hp; (case aC => k_is); (case xL => k_is); (case sa => k_is); (case noN => k_is); (case iC => k_is); (case tC => k_is); (case kC => k_is); (case exC => k_is); (case veC => k_is); (case tyC => k_is); (case op => k_is); (case lI => k_is); (case cI => k_is); (case lc => k_is); (case hv => rfl); (case lcell => k_is); (case sp => k_is); (case ga => k_is); (case gg => k_is); (case hdC => k_is); (case hbm => decide +kernel); (case su => first | k_is | kernel_rfl); (case hfile => first | rfl | decide +kernel); (case hln => rfl); (case hbn => exact fun a b => rfl); (case top => first | rfl | decide +kernel); (case okf => first | rfl | decide +kernel); (case hp => decide)
    case e_TooGreat => refine' EvL.er1_mk KX G ?aC ?xL ?sa ?noN ?iC ?tC ?kC ?exC ?veC ?tyC ?op ?lI ?cI ?lc ?hv ?lcell ?sp ?ga ?gg ?hdC ?hbm ?su ?hfile ?hln ?hbn ?top ?okf ?hp; (case aC => k_is); (case xL => k_is); (case sa => k_is); (case noN => k_is); (case iC => k_is); (case tC => k_is); (case kC => k_is); (case exC => k_is); (case veC => k_is); (case tyC => k_is); (case op => k_is); (case lI => k_is); (case cI => k_is); (case lc => k_is); (case hv => rfl); (case lcell => k_is); (case sp => k_is); (case ga => k_is); (case gg => k_is); (case hdC => k_is); (case hbm => decide +kernel); (case su => first | k_is | kernel_rfl); (case hfile => first | rfl | decide +kernel); (case hln => rfl); (case hbn => exact fun a b => rfl); (case top => first | rfl | decide +kernel); (case okf => first | rfl | decide +kernel); (case hp => decide)
    case e_Unlike => refine' EvL.er0_mk KX G ?aC ?xq ?kC ?exC ?tyC; (case aC => k_is); (case xq => first | k_is | kernel_rfl); (case kC => k_is); (case exC => k_is); (case tyC => k_is)
    case x_0_0 => first | k_is | kernel_rfl
    case x_0_1 => first | k_is | kernel_rfl
    case x_0_2 => first | k_is | kernel_rfl
    case x_0_3 => first | k_is | kernel_rfl
    case x_0_4 => first | k_is | kernel_rfl
    case x_0_5 => first | k_is | kernel_rfl
    case x_1_0 => first | k_is | kernel_rfl
    case x_1_1 => first | k_is | kernel_rfl
    case x_1_2 => first | k_is | kernel_rfl
    case x_1_3 => first | k_is | kernel_rfl
    case x_1_4 => first | k_is | kernel_rfl
    case x_1_5 => first | k_is | kernel_rfl
    case x_2_0 => first | k_is | kernel_rfl
    case x_2_1 => first | k_is | kernel_rfl
    case x_2_2 => first | k_is | kernel_rfl
    case x_2_3 => first | k_is | kernel_rfl
    case x_2_4 => first | k_is | kernel_rfl
    case x_2_5 => first | k_is | kernel_rfl
    case x_3_0 => first | k_is | kernel_rfl
    case x_3_1 => first | k_is | kernel_rfl
    case x_3_2 => first | k_is | kernel_rfl
    case x_3_3 => first | k_is | kernel_rfl
    case x_3_4 => first | k_is | kernel_rfl
    case x_3_5 => first | k_is | kernel_rfl
    case x_4_0 => first | k_is | kernel_rfl
    case x_4_1 => first | k_is | kernel_rfl
    case x_4_2 => first | k_is | kernel_rfl
    case x_4_3 => first | k_is | kernel_rfl
    case x_4_4 => first | k_is | kernel_rfl
    case x_4_5 => first | k_is | kernel_rfl
    case x_5_0 => first | k_is | kernel_rfl
    case x_5_1 => first | k_is | kernel_rfl
    case x_5_2 => first | k_is | kernel_rfl
    case x_5_3 => first | k_is | kernel_rfl
    case x_5_4 => first | k_is | kernel_rfl
    case x_5_5 => first | k_is | kernel_rfl
    case f_composed => exact PySem.W.mg_of KX G (by k_is)
    case f_moved_point => exact PySem.W.mg_of KX G (by k_is)
    case f_inverse_move => exact PySem.W.mg_of KX G (by k_is)
    case f_need_move => exact PySem.W.mg_of KX G (by k_is)
    case f_move_sign => exact PySem.W.mg_of KX G (by k_is)
    case f_moved_body => exact PySem.W.mg_of KX G (by k_is)
    case f_plain_move => exact PySem.W.mg_of KX G (by k_is)
    case d_is_integer => refine' EvL.dt_mk KX G ?a ?l ?c ?k (fun _ _ _ _ _ _ us hl => match us, hl with | [_], _ => rfl) (fun _ _ _ _ _ _ us hl => match us, hl with | [_], _ => rfl); (case a => k_is); (case l => k_is); (case c => k_is); (case k => k_is)
    case d_is_from => refine' EvL.dt_mk KX G ?a ?l ?c ?k (fun _ _ _ _ _ _ us hl => match us, hl with | [_, _, _], _ => rfl) (fun _ _ _ _ _ _ us hl => match us, hl with | [_, _, _], _ => rfl); (case a => k_is); (case l => k_is); (case c => k_is); (case k => k_is)
    case d_determinant_in => refine' EvL.dt_mk KX G ?a ?l ?c ?k (fun _ _ _ _ _ _ us hl => match us, hl with | [_], _ => rfl) (fun _ _ _ _ _ _ us hl => match us, hl with | [_], _ => rfl); (case a => k_is); (case l => k_is); (case c => k_is); (case k => k_is)
    case d_lines_fault => refine' EvL.dt_mk KX G ?a ?l ?c ?k (fun _ _ _ _ _ _ us hl => match us, hl with | [_], _ => rfl) (fun _ _ _ _ _ _ us hl => match us, hl with | [_], _ => rfl); (case a => k_is); (case l => k_is); (case c => k_is); (case k => k_is)
    case d_is_point => refine' EvL.dt_mk KX G ?a ?l ?c ?k (fun _ _ _ _ _ _ us hl => match us, hl with | [_, _], _ => rfl) (fun _ _ _ _ _ _ us hl => match us, hl with | [_, _], _ => rfl); (case a => k_is); (case l => k_is); (case c => k_is); (case k => k_is)
    case d_move_fault => refine' EvL.dt_mk KX G ?a ?l ?c ?k (fun _ _ _ _ _ _ us hl => match us, hl with | [_], _ => rfl) (fun _ _ _ _ _ _ us hl => match us, hl with | [_], _ => rfl); (case a => k_is); (case l => k_is); (case c => k_is); (case k => k_is)
    case d_need_move => refine' EvL.dt_mk KX G ?a ?l ?c ?k (fun _ _ _ _ _ _ us hl => match us, hl with | [_], _ => rfl) (fun _ _ _ _ _ _ us hl => match us, hl with | [_], _ => rfl); (case a => k_is); (case l => k_is); (case c => k_is); (case k => k_is)
    case d_let_rows => refine' EvL.dt_mk KX G ?a ?l ?c ?k (fun _ _ _ _ _ _ us hl => match us, hl with | [_], _ => rfl) (fun _ _ _ _ _ _ us hl => match us, hl with | [_], _ => rfl); (case a => k_is); (case l => k_is); (case c => k_is); (case k => k_is)
    case d_let_move => refine' EvL.dt_mk KX G ?a ?l ?c ?k (fun _ _ _ _ _ _ us hl => match us, hl with | [_], _ => rfl) (fun _ _ _ _ _ _ us hl => match us, hl with | [_], _ => rfl); (case a => k_is); (case l => k_is); (case c => k_is); (case k => k_is)
    case d_times_lines => refine' EvL.dt_mk KX G ?a ?l ?c ?k (fun _ _ _ _ _ _ us hl => match us, hl with | [_, _], _ => rfl) (fun _ _ _ _ _ _ us hl => match us, hl with | [_, _], _ => rfl); (case a => k_is); (case l => k_is); (case c => k_is); (case k => k_is)
    case d_plus_point => refine' EvL.dt_mk KX G ?a ?l ?c ?k (fun _ _ _ _ _ _ us hl => match us, hl with | [_, _], _ => rfl) (fun _ _ _ _ _ _ us hl => match us, hl with | [_, _], _ => rfl); (case a => k_is); (case l => k_is); (case c => k_is); (case k => k_is)
    case d_led_by_lines => refine' EvL.dt_mk KX G ?a ?l ?c ?k (fun _ _ _ _ _ _ us hl => match us, hl with | [_, _], _ => rfl) (fun _ _ _ _ _ _ us hl => match us, hl with | [_, _], _ => rfl); (case a => k_is); (case l => k_is); (case c => k_is); (case k => k_is)
    case d_moved_point_in => refine' EvL.dt_mk KX G ?a ?l ?c ?k (fun _ _ _ _ _ _ us hl => match us, hl with | [_, _], _ => rfl) (fun _ _ _ _ _ _ us hl => match us, hl with | [_, _], _ => rfl); (case a => k_is); (case l => k_is); (case c => k_is); (case k => k_is)
    case d_composed_in => refine' EvL.dt_mk KX G ?a ?l ?c ?k (fun _ _ _ _ _ _ us hl => match us, hl with | [_, _], _ => rfl) (fun _ _ _ _ _ _ us hl => match us, hl with | [_, _], _ => rfl); (case a => k_is); (case l => k_is); (case c => k_is); (case k => k_is)
    case d_composed => refine' EvL.dt_mk KX G ?a ?l ?c ?k (fun _ _ _ _ _ _ us hl => match us, hl with | [_, _], _ => rfl) (fun _ _ _ _ _ _ us hl => match us, hl with | [_, _], _ => rfl); (case a => k_is); (case l => k_is); (case c => k_is); (case k => k_is)
    case d_is_any_point => refine' EvL.dt_mk KX G ?a ?l ?c ?k (fun _ _ _ _ _ _ us hl => match us, hl with | [_], _ => rfl) (fun _ _ _ _ _ _ us hl => match us, hl with | [_], _ => rfl); (case a => k_is); (case l => k_is); (case c => k_is); (case k => k_is)
    case d_moved_point => refine' EvL.dt_mk KX G ?a ?l ?c ?k (fun _ _ _ _ _ _ us hl => match us, hl with | [_, _], _ => rfl) (fun _ _ _ _ _ _ us hl => match us, hl with | [_, _], _ => rfl); (case a => k_is); (case l => k_is); (case c => k_is); (case k => k_is)
    case d_turned_lines => refine' EvL.dt_mk KX G ?a ?l ?c ?k (fun _ _ _ _ _ _ us hl => match us, hl with | [_], _ => rfl) (fun _ _ _ _ _ _ us hl => match us, hl with | [_], _ => rfl); (case a => k_is); (case l => k_is); (case c => k_is); (case k => k_is)
    case d_inverse_in => refine' EvL.dt_mk KX G ?a ?l ?c ?k (fun _ _ _ _ _ _ us hl => match us, hl with | [_], _ => rfl) (fun _ _ _ _ _ _ us hl => match us, hl with | [_], _ => rfl); (case a => k_is); (case l => k_is); (case c => k_is); (case k => k_is)
    case d_inverse_move => refine' EvL.dt_mk KX G ?a ?l ?c ?k (fun _ _ _ _ _ _ us hl => match us, hl with | [_], _ => rfl) (fun _ _ _ _ _ _ us hl => match us, hl with | [_], _ => rfl); (case a => k_is); (case l => k_is); (case c => k_is); (case k => k_is)
    case d_move_sign => refine' EvL.dt_mk KX G ?a ?l ?c ?k (fun _ _ _ _ _ _ us hl => match us, hl with | [_], _ => rfl) (fun _ _ _ _ _ _ us hl => match us, hl with | [_], _ => rfl); (case a => k_is); (case l => k_is); (case c => k_is); (case k => k_is)
    case d_checked_moved => refine' EvL.dt_mk KX G ?a ?l ?c ?k (fun _ _ _ _ _ _ us hl => match us, hl with | [_, _], _ => rfl) (fun _ _ _ _ _ _ us hl => match us, hl with | [_, _], _ => rfl); (case a => k_is); (case l => k_is); (case c => k_is); (case k => k_is)
    case d_need_body => refine' EvL.dt_mk KX G ?a ?l ?c ?k (fun _ _ _ _ _ _ us hl => match us, hl with | [_], _ => rfl) (fun _ _ _ _ _ _ us hl => match us, hl with | [_], _ => rfl); (case a => k_is); (case l => k_is); (case c => k_is); (case k => k_is)
    case d_moved_body => refine' EvL.dt_mk KX G ?a ?l ?c ?k (fun _ _ _ _ _ _ us hl => match us, hl with | [_, _], _ => rfl) (fun _ _ _ _ _ _ us hl => match us, hl with | [_, _], _ => rfl); (case a => k_is); (case l => k_is); (case c => k_is); (case k => k_is)
    case d_plain_in => refine' EvL.dt_mk KX G ?a ?l ?c ?k (fun _ _ _ _ _ _ us hl => match us, hl with | [_], _ => rfl) (fun _ _ _ _ _ _ us hl => match us, hl with | [_], _ => rfl); (case a => k_is); (case l => k_is); (case c => k_is); (case k => k_is)
    case d_plain_move => refine' EvL.dt_mk KX G ?a ?l ?c ?k (fun _ _ _ _ _ _ us hl => match us, hl with | [_], _ => rfl) (fun _ _ _ _ _ _ us hl => match us, hl with | [_], _ => rfl); (case a => k_is); (case l => k_is); (case c => k_is); (case k => k_is)
    case d__law_begun => refine' EvL.dt_mk KX G ?a ?l ?c ?k (fun _ _ _ _ _ _ us hl => match us, hl with | [_, _], _ => rfl) (fun _ _ _ _ _ _ us hl => match us, hl with | [_, _], _ => rfl); (case a => k_is); (case l => k_is); (case c => k_is); (case k => k_is)
    case d__law_draw => refine' EvL.dt_mk KX G ?a ?l ?c ?k (fun _ _ _ _ _ _ us hl => match us, hl with | [_, _], _ => rfl) (fun _ _ _ _ _ _ us hl => match us, hl with | [_, _], _ => rfl); (case a => k_is); (case l => k_is); (case c => k_is); (case k => k_is)
    case d__law_of => refine' EvL.dt_mk KX G ?a ?l ?c ?k (fun _ _ _ _ _ _ us hl => match us, hl with | [_, _], _ => rfl) (fun _ _ _ _ _ _ us hl => match us, hl with | [_, _], _ => rfl); (case a => k_is); (case l => k_is); (case c => k_is); (case k => k_is)
    case d__law_shuffled => refine' EvL.dt_mk KX G ?a ?l ?c ?k (fun _ _ _ _ _ _ us hl => match us, hl with | [_, _], _ => rfl) (fun _ _ _ _ _ _ us hl => match us, hl with | [_, _], _ => rfl); (case a => k_is); (case l => k_is); (case c => k_is); (case k => k_is)
    case d__law_some_turn => refine' EvL.dt_mk KX G ?a ?l ?c ?k (fun _ _ _ _ _ _ us hl => match us, hl with | [_, _], _ => rfl) (fun _ _ _ _ _ _ us hl => match us, hl with | [_, _], _ => rfl); (case a => k_is); (case l => k_is); (case c => k_is); (case k => k_is)
    case d__law_some_move => refine' EvL.dt_mk KX G ?a ?l ?c ?k (fun _ _ _ _ _ _ us hl => match us, hl with | [_, _, _], _ => rfl) (fun _ _ _ _ _ _ us hl => match us, hl with | [_, _, _], _ => rfl); (case a => k_is); (case l => k_is); (case c => k_is); (case k => k_is)
    case d__law_moved => refine' EvL.dt_mk KX G ?a ?l ?c ?k (fun _ _ _ _ _ _ us hl => match us, hl with | [_, _, _], _ => rfl) (fun _ _ _ _ _ _ us hl => match us, hl with | [_, _, _], _ => rfl); (case a => k_is); (case l => k_is); (case c => k_is); (case k => k_is)
    case d__law_called => refine' EvL.dt_mk KX G ?a ?l ?c ?k (fun _ _ _ _ _ _ us hl => match us, hl with | [_, _], _ => rfl) (fun _ _ _ _ _ _ us hl => match us, hl with | [_, _], _ => rfl); (case a => k_is); (case l => k_is); (case c => k_is); (case k => k_is)
    case d__law_heard => refine' EvL.dt_mk KX G ?a ?l ?c ?k (fun _ _ _ _ _ _ us hl => match us, hl with | [_, _], _ => rfl) (fun _ _ _ _ _ _ us hl => match us, hl with | [_, _], _ => rfl); (case a => k_is); (case l => k_is); (case c => k_is); (case k => k_is)
    case d__law_like => refine' EvL.dt_mk KX G ?a ?l ?c ?k (fun _ _ _ _ _ _ us hl => match us, hl with | [_, _], _ => rfl) (fun _ _ _ _ _ _ us hl => match us, hl with | [_, _], _ => rfl); (case a => k_is); (case l => k_is); (case c => k_is); (case k => k_is)
    case d__law_det => refine' EvL.dt_mk KX G ?a ?l ?c ?k (fun _ _ _ _ _ _ us hl => match us, hl with | [_], _ => rfl) (fun _ _ _ _ _ _ us hl => match us, hl with | [_], _ => rfl); (case a => k_is); (case l => k_is); (case c => k_is); (case k => k_is)
    case d__law_two_right => refine' EvL.dt_mk KX G ?a ?l ?c ?k (fun _ _ _ _ _ _ us hl => match us, hl with | [_, _, _, _], _ => rfl) (fun _ _ _ _ _ _ us hl => match us, hl with | [_, _, _, _], _ => rfl); (case a => k_is); (case l => k_is); (case c => k_is); (case k => k_is)
    case d__law_is_from => refine' EvL.dt_mk KX G ?a ?l ?c ?k (fun _ _ _ _ _ _ us hl => match us, hl with | [_, _, _], _ => rfl) (fun _ _ _ _ _ _ us hl => match us, hl with | [_, _, _], _ => rfl); (case a => k_is); (case l => k_is); (case c => k_is); (case k => k_is)
    case d__law_is_spot => refine' EvL.dt_mk KX G ?a ?l ?c ?k (fun _ _ _ _ _ _ us hl => match us, hl with | [_, _], _ => rfl) (fun _ _ _ _ _ _ us hl => match us, hl with | [_, _], _ => rfl); (case a => k_is); (case l => k_is); (case c => k_is); (case k => k_is)
    case d__law_fault => refine' EvL.dt_mk KX G ?a ?l ?c ?k (fun _ _ _ _ _ _ us hl => match us, hl with | [_], _ => rfl) (fun _ _ _ _ _ _ us hl => match us, hl with | [_], _ => rfl); (case a => k_is); (case l => k_is); (case c => k_is); (case k => k_is)
    case d__law_judged_right => refine' EvL.dt_mk KX G ?a ?l ?c ?k (fun _ _ _ _ _ _ us hl => match us, hl with | [_], _ => rfl) (fun _ _ _ _ _ _ us hl => match us, hl with | [_], _ => rfl); (case a => k_is); (case l => k_is); (case c => k_is); (case k => k_is)
    case d__law_bent => refine' EvL.dt_mk KX G ?a ?l ?c ?k (fun _ _ _ _ _ _ us hl => match us, hl with | [_, _], _ => rfl) (fun _ _ _ _ _ _ us hl => match us, hl with | [_, _], _ => rfl); (case a => k_is); (case l => k_is); (case c => k_is); (case k => k_is)
    case d_law => refine' EvL.dt_mk KX G ?a ?l ?c ?k (fun _ _ _ _ _ _ us hl => match us, hl with | [_], _ => rfl) (fun _ _ _ _ _ _ us hl => match us, hl with | [_], _ => rfl); (case a => k_is); (case l => k_is); (case c => k_is); (case k => k_is)
#print axioms PySem.Challenge.cw_gridbodies_k21_whole_moves_holds
end
