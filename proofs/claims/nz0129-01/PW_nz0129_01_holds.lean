import PyProof.Rows.All
import Wide.All
import OpenK.AllK
import Wide.FinOn
import PySem.Challenge.RW_nz0129_01
open PySem PySem.W PySem.Calls PyProof.Rows
set_option Elab.async false
set_option maxRecDepth 100000
set_option maxHeartbeats 4000000
set_option linter.all false
section
set_option tactic.hygienic false
namespace Mine
noncomputable section
theorem nle {n' n m k : Nat} (h : n' + 1 = n) (hn : k ≤ n) (hm : Nat.ble (m + 1) k = true:=by rfl) : m ≤ n':=Nat.le_of_succ_le_succ (Nat.le_trans (Nat.le_of_ble_eq_true hm) (Nat.le_trans hn (Nat.le_of_eq h.symm)))
theorem ule {n m k : Nat} (hn : k ≤ n) (hm : Nat.ble m k = true:=by rfl) : m ≤ n:=Nat.le_trans (Nat.le_of_ble_eq_true hm) hn
inductive V where
  | none
  | bool (b : Bool)
  | int (i : Int)
  | str (s : Str)
  | tup (xs : List V)
  | list (xs : List V)
  | dict (es : List (Int × V))
  | sdict (es : List (Str × V))
  | obj (C : Addr) (fs : List (Str × V))
  | raw (v : Value)
  | rng (a b : Int)
  | known (o : Obj)

inductive MO where
  | list (xs : List V)
  | glist (xs : List V)
  | dict (es : List (Int × V))
  | inst (C : Addr) (fs : List (Str × V))

noncomputable abbrev Sto:=List (Addr × MO)
noncomputable abbrev Led:=List (Addr × Obj)

noncomputable abbrev tupO (vs : List Value) (n : Nat) : Obj:={ cls:=.type "tuple",dict:=none,data:=.seq vs.toArray n,slots:=#[] }
noncomputable abbrev lstO (vs : List Value) (n : Nat) : Obj:={ cls:=.type "list",dict:=none,data:=.seq vs.toArray n,slots:=#[] }

section rel
variable (prog : Program) (w : World) (P : Addr → Obj → Prop)
mutual
inductive VRel : Value → V → Prop
  | none : VRel .none .none
  | bool (b : Bool) : VRel (.bool b) (.bool b)
  | int (i : Int) (t : Tok) : VRel (.int i t) (.int i)
  | str (x : Str) (t : Tok) : VRel (.str x t) (.str x)
  | raw (v : Value) : VRel v (.raw v)
  | tup {a : Addr} {vs : List Value} {n : Nat} {ds : List V} : P a (tupO vs n) → VRels vs ds → VRel (.ref a) (.tup ds)
  | list {a : Addr} {o : Obj} {vs : List Value} {n : Nat} {ds : List V} : P a o → o.cls = .type "list" → o.data = .seq vs.toArray n → VRels vs ds → VRel (.ref a) (.list ds)
  | dict {a : Addr} {o : Obj} {kvs : List (Int × Value)} {ds : List (Int × V)} : P a o → (a == sysModules) = false → o.IsDictOf (intKind prog w) kvs → KRels kvs ds → VRel (.ref a) (.dict ds)
  | sdict {a : Addr} {o : Obj} {kvs : List (Str × Value)} {ds : List (Str × V)} : P a o → (a == sysModules) = false → o.IsDictOf (strKind prog w) kvs → SRels kvs ds → VRel (.ref a) (.sdict ds)
  | obj {a dx C : Addr} {es : List DictEntry} {n : Nat} {fs : List (Str × V)} : P a (instObj C dx) → P dx (dictOf es n) → FRels es fs → (fs.map (·.1)).Nodup → VRel (.ref a) (.obj C fs)
  | rng {r : Addr} {a b : Int} {t u v : Tok} : P r { cls:=.type "range",dict:=none,data:=.fields #[.int a t,.int b u,.int 1 v],slots:=#[] } → VRel (.ref r) (.rng a b)
  | known {a : Addr} {o : Obj} : P a o → VRel (.ref a) (.known o)
inductive VRels : List Value → List V → Prop
  | nil : VRels [] []
  | cons {v : Value} {d : V} {vs : List Value} {ds : List V} : VRel v d → VRels vs ds → VRels (v :: vs) (d :: ds)
inductive KRels : List (Int × Value) → List (Int × V) → Prop
  | nil : KRels [] []
  | cons {k : Int} {v : Value} {d : V} {vs : List (Int × Value)} {ds : List (Int × V)} : VRel v d → KRels vs ds → KRels ((k,v) :: vs) ((k,d) :: ds)
inductive SRels : List (Str × Value) → List (Str × V) → Prop
  | nil : SRels [] []
  | cons {k : Str} {v : Value} {d : V} {vs : List (Str × Value)} {ds : List (Str × V)} : VRel v d → SRels vs ds → SRels ((k,v) :: vs) ((k,d) :: ds)
inductive FRels : List DictEntry → List (Str × V) → Prop
  | nil : FRels [] []
  | cons {k : Str} {t : Tok} {h : Int} {v : Value} {d : V} {vs : List DictEntry} {ds : List (Str × V)} : VRel v d → FRels vs ds → FRels (⟨h,.str k t,v⟩ :: vs) ((k,d) :: ds)
end

inductive TupI (P : Addr → Obj → Prop) (R : List Value → List V → Prop) (v : Value) (ds : List V) : Prop
  | mk (a : Addr) (vs : List Value) (n : Nat) (e : v = .ref a) (p : P a (tupO vs n)) (r : R vs ds) : TupI P R v ds
inductive ListI (P : Addr → Obj → Prop) (R : List Value → List V → Prop) (v : Value) (ds : List V) : Prop
  | mk (a : Addr) (o : Obj) (vs : List Value) (n : Nat) (e : v = .ref a) (p : P a o) (h1 : o.cls = .type "list") (h2 : o.data = .seq vs.toArray n) (r : R vs ds) : ListI P R v ds
inductive DictI {α : Type} (P : Addr → Obj → Prop) (G : Obj → List (α × Value) → Prop) (R : List (α × Value) → List (α × V) → Prop) (v : Value) (ds : List (α × V)) : Prop
  | mk (a : Addr) (o : Obj) (kvs : List (α × Value)) (e : v = .ref a) (p : P a o) (h1 : (a == sysModules) = false) (h2 : G o kvs) (r : R kvs ds) : DictI P G R v ds
inductive ObjI (P : Addr → Obj → Prop) (R : List DictEntry → List (Str × V) → Prop) (v : Value) (C : Addr) (fs : List (Str × V)) : Prop
  | mk (a dx : Addr) (es : List DictEntry) (n : Nat) (e : v = .ref a) (p : P a (instObj C dx)) (p2 : P dx (dictOf es n)) (r : R es fs) (k : (fs.map (·.1)).Nodup) : ObjI P R v C fs
inductive RngI (P : Addr → Obj → Prop) (x : Value) (a b : Int) : Prop
  | mk (r : Addr) (t u v : Tok) (e : x = .ref r) (p : P r { cls:=.type "range",dict:=none,data:=.fields #[.int a t,.int b u,.int 1 v],slots:=#[] }) : RngI P x a b
inductive KnownI (P : Addr → Obj → Prop) (x : Value) (o : Obj) : Prop
  | mk (a : Addr) (e : x = .ref a) (p : P a o) : KnownI P x o
noncomputable def VRel.Inv (prog : Program) (w : World) (P : Addr → Obj → Prop) (v : Value) : V → Prop
  | .none => v = .none
  | .bool b => v = .bool b
  | .int i => ∃ t,v = .int i t
  | .str x => ∃ t,v = .str x t
  | .tup ds => TupI P (VRels prog w P) v ds
  | .list ds => ListI P (VRels prog w P) v ds
  | .dict ds => DictI P (fun o kvs => o.IsDictOf (intKind prog w) kvs) (KRels prog w P) v ds
  | .sdict ds => DictI P (fun o kvs => o.IsDictOf (strKind prog w) kvs) (SRels prog w P) v ds
  | .obj C fs => ObjI P (FRels prog w P) v C fs
  | .raw x => v = x
  | .rng a b => RngI P v a b
  | .known o => KnownI P v o

variable {prog w P} {P' : Addr → Obj → Prop}
theorem VRel.inv {v : Value} {d : V} (x : VRel prog w P v d) : VRel.Inv prog w P v d:=by
  cases x with
  | none => rfl
  | bool b => rfl
  | int i t => exact ⟨t,rfl⟩
  | str x t => exact ⟨t,rfl⟩
  | raw v => rfl
  | tup p r => exact ⟨_,_,_,rfl,p,r⟩
  | list p a b r => exact ⟨_,_,_,_,rfl,p,a,b,r⟩
  | dict p a b r => exact ⟨_,_,_,rfl,p,a,b,r⟩
  | sdict p a b r => exact ⟨_,_,_,rfl,p,a,b,r⟩
  | obj p q r k => exact ⟨_,_,_,_,rfl,p,q,r,k⟩
  | rng p => exact ⟨_,_,_,_,rfl,p⟩
  | known p => exact ⟨_,rfl,p⟩
theorem VRel.mono (h : ∀ a o,P a o → P' a o) {v : Value} {d : V} (x : VRel prog w P v d) : VRel prog w P' v d:=
  VRel.rec (motive_1:=fun v d Z => VRel prog w P' v d) (motive_2:=fun v d Z => VRels prog w P' v d) (motive_3:=fun v d Z => KRels prog w P' v d) (motive_4:=fun v d Z => SRels prog w P' v d) (motive_5:=fun v d Z => FRels prog w P' v d)
    .none .bool .int .str .raw (fun a Z r => .tup (h _ _ a) r) (fun a b c Z r => .list (h _ _ a) b c r) (fun a b c Z r => .dict (h _ _ a) b c r) (fun a b c Z r => .sdict (h _ _ a) b c r) (fun a b Z k r => .obj (h _ _ a) (h _ _ b) r k) (fun a => .rng (h _ _ a)) (fun a => .known (h _ _ a))
    .nil (fun Z Z a r => .cons a r) .nil (fun Z Z a r => .cons a r) .nil (fun Z Z a r => .cons a r) .nil (fun Z Z a r => .cons a r) x
theorem VRels.mono (h : ∀ a o,P a o → P' a o) {v : List Value} {d : List V} (x : VRels prog w P v d) : VRels prog w P' v d:=
  VRels.rec (motive_1:=fun v d Z => VRel prog w P' v d) (motive_2:=fun v d Z => VRels prog w P' v d) (motive_3:=fun v d Z => KRels prog w P' v d) (motive_4:=fun v d Z => SRels prog w P' v d) (motive_5:=fun v d Z => FRels prog w P' v d)
    .none .bool .int .str .raw (fun a Z r => .tup (h _ _ a) r) (fun a b c Z r => .list (h _ _ a) b c r) (fun a b c Z r => .dict (h _ _ a) b c r) (fun a b c Z r => .sdict (h _ _ a) b c r) (fun a b Z k r => .obj (h _ _ a) (h _ _ b) r k) (fun a => .rng (h _ _ a)) (fun a => .known (h _ _ a))
    .nil (fun Z Z a r => .cons a r) .nil (fun Z Z a r => .cons a r) .nil (fun Z Z a r => .cons a r) .nil (fun Z Z a r => .cons a r) x
theorem KRels.mono (h : ∀ a o,P a o → P' a o) {v : List (Int × Value)} {d : List (Int × V)} (x : KRels prog w P v d) : KRels prog w P' v d:=
  KRels.rec (motive_1:=fun v d Z => VRel prog w P' v d) (motive_2:=fun v d Z => VRels prog w P' v d) (motive_3:=fun v d Z => KRels prog w P' v d) (motive_4:=fun v d Z => SRels prog w P' v d) (motive_5:=fun v d Z => FRels prog w P' v d)
    .none .bool .int .str .raw (fun a Z r => .tup (h _ _ a) r) (fun a b c Z r => .list (h _ _ a) b c r) (fun a b c Z r => .dict (h _ _ a) b c r) (fun a b c Z r => .sdict (h _ _ a) b c r) (fun a b Z k r => .obj (h _ _ a) (h _ _ b) r k) (fun a => .rng (h _ _ a)) (fun a => .known (h _ _ a))
    .nil (fun Z Z a r => .cons a r) .nil (fun Z Z a r => .cons a r) .nil (fun Z Z a r => .cons a r) .nil (fun Z Z a r => .cons a r) x
theorem SRels.mono (h : ∀ a o,P a o → P' a o) {v : List (Str × Value)} {d : List (Str × V)} (x : SRels prog w P v d) : SRels prog w P' v d:=
  SRels.rec (motive_1:=fun v d Z => VRel prog w P' v d) (motive_2:=fun v d Z => VRels prog w P' v d) (motive_3:=fun v d Z => KRels prog w P' v d) (motive_4:=fun v d Z => SRels prog w P' v d) (motive_5:=fun v d Z => FRels prog w P' v d)
    .none .bool .int .str .raw (fun a Z r => .tup (h _ _ a) r) (fun a b c Z r => .list (h _ _ a) b c r) (fun a b c Z r => .dict (h _ _ a) b c r) (fun a b c Z r => .sdict (h _ _ a) b c r) (fun a b Z k r => .obj (h _ _ a) (h _ _ b) r k) (fun a => .rng (h _ _ a)) (fun a => .known (h _ _ a))
    .nil (fun Z Z a r => .cons a r) .nil (fun Z Z a r => .cons a r) .nil (fun Z Z a r => .cons a r) .nil (fun Z Z a r => .cons a r) x
theorem FRels.mono (h : ∀ a o,P a o → P' a o) {v : List DictEntry} {d : List (Str × V)} (x : FRels prog w P v d) : FRels prog w P' v d:=
  FRels.rec (motive_1:=fun v d Z => VRel prog w P' v d) (motive_2:=fun v d Z => VRels prog w P' v d) (motive_3:=fun v d Z => KRels prog w P' v d) (motive_4:=fun v d Z => SRels prog w P' v d) (motive_5:=fun v d Z => FRels prog w P' v d)
    .none .bool .int .str .raw (fun a Z r => .tup (h _ _ a) r) (fun a b c Z r => .list (h _ _ a) b c r) (fun a b c Z r => .dict (h _ _ a) b c r) (fun a b c Z r => .sdict (h _ _ a) b c r) (fun a b Z k r => .obj (h _ _ a) (h _ _ b) r k) (fun a => .rng (h _ _ a)) (fun a => .known (h _ _ a))
    .nil (fun Z Z a r => .cons a r) .nil (fun Z Z a r => .cons a r) .nil (fun Z Z a r => .cons a r) .nil (fun Z Z a r => .cons a r) x
end rel

inductive Slot where
  | own (o : Option V)
  | ro (d : V)
noncomputable abbrev Vars:=List (Str × Slot)

set_option genInjectivity false in
set_option genSizeOf false in
structure Cx where
  prog : Program
  w : World
  K : Frag
  p : Program
  loose : List Str
  mean : ExcName → Option Value
  mg : Str → Option Value
  mb : Str → Option Value
  base : Heap
  A₀ : Around
  A : Around
  h₀ : Heap
  outer : List Env
  fenv : Env
  env : Env
  rest : Led
  comp : Option (Str → Option Value)
  n : Nat
  gens : Array GenState
  os : OsState

structure Cx.Ok (c : Cx) : Prop where
  kb : c.K.In c.base
  T : Top c.p c.loose c.mean c.mg c.mb c.h₀
  B : Below c.A₀ c.base c.outer c.h₀
  fr : c.A.frames = some (c.fenv :: c.outer)
  ff : c.fenv.frame = some c.fenv.locals
  fk : c.fenv.scope.kind = .function
  ek : c.env.scope.kind = .function
  eg : c.env.globals = mainGlobals
  eb : c.env.builtins = builtinsNs
  hd : c.A.handled = none
  depth : c.A.depth + 2 * c.n ≤ 900
  units : c.A.units + 20 * c.n ≤ 9000
  same : c.comp = none → c.env = c.fenv
  cells : (c.env.cells.map (·.2)).Nodup

theorem Cx.Ok.K {c : Cx} (o : c.Ok) : c.K.In c.h₀:=o.kb.keeps o.B.stays

noncomputable def Cx.Knows (c : Cx) (fz : Led) (a : Addr) (o : Obj) : Prop:=(a,o) ∈ fz ∨ c.base.get? a = some o

noncomputable def Cx.VR (c : Cx) (fz : Led) : Value → V → Prop:=VRel c.prog c.w (c.Knows fz)
theorem Cx.VR.inv {c : Cx} {fz : Led} {v : Value} {d : V} (x : c.VR fz v d) : VRel.Inv c.prog c.w (c.Knows fz) v d:=VRel.inv x
theorem Cx.VR.mono {c : Cx} {fz fz' : Led} (h : ∀ p ∈ fz,p ∈ fz') {v : Value} {d : V} (x : c.VR fz v d) : c.VR fz' v d:=
  VRel.mono (fun Z Z q => q.imp (h _) id) x
inductive MRelB (prog : Program) (w : World) (base : Heap) (fz : Led) : Addr → MO → Addr → Obj → Prop
  | list {a : Addr} {vs : List Value} {n : Nat} {ds : List V} : VRels prog w (fun a o => (a,o) ∈ fz ∨ base.get? a = some o) vs ds → MRelB prog w base fz a (.list ds) a (lstO vs n)
  | glist {a : Addr} {o : Obj} {vs : List Value} {n : Nat} {ds : List V} : o.cls = .type "list" → o.data = .seq vs.toArray n → VRels prog w (fun a o => (a,o) ∈ fz ∨ base.get? a = some o) vs ds → MRelB prog w base fz a (.glist ds) a o
  | dict {a : Addr} {o : Obj} {kvs : List (Int × Value)} {ds : List (Int × V)} : (a == sysModules) = false → o.IsDictOf (intKind prog w) kvs → KRels prog w (fun a o => (a,o) ∈ fz ∨ base.get? a = some o) kvs ds → MRelB prog w base fz a (.dict ds) a o
  | inst {a dx C : Addr} {es : List DictEntry} {n : Nat} {fs : List (Str × V)} : (a,instObj C dx) ∈ fz → FRels prog w (fun a o => (a,o) ∈ fz ∨ base.get? a = some o) es fs → (fs.map (·.1)).Nodup → MRelB prog w base fz a (.inst C fs) dx (dictOf es n)
noncomputable abbrev MRel (c : Cx) (fz : Led) : Addr → MO → Addr → Obj → Prop:=MRelB c.prog c.w c.base fz

inductive MListI (R : List Value → List V → Prop) (x : Addr) (ds : List V) (a : Addr) (o : Obj) : Prop
  | mk (vs : List Value) (n : Nat) (e : x = a) (e2 : o = lstO vs n) (r : R vs ds) : MListI R x ds a o
inductive MGlistI (R : List Value → List V → Prop) (x : Addr) (ds : List V) (a : Addr) (o : Obj) : Prop
  | mk (vs : List Value) (n : Nat) (e : x = a) (h1 : o.cls = .type "list") (h2 : o.data = .seq vs.toArray n) (r : R vs ds) : MGlistI R x ds a o
inductive MDictI (G : Obj → List (Int × Value) → Prop) (R : List (Int × Value) → List (Int × V) → Prop) (x : Addr) (ds : List (Int × V)) (a : Addr) (o : Obj) : Prop
  | mk (kvs : List (Int × Value)) (e : x = a) (h1 : (x == sysModules) = false) (h2 : G o kvs) (r : R kvs ds) : MDictI G R x ds a o
inductive MInstI (fz : Led) (R : List DictEntry → List (Str × V) → Prop) (x C : Addr) (fs : List (Str × V)) (a : Addr) (o : Obj) : Prop
  | mk (es : List DictEntry) (n : Nat) (e : o = dictOf es n) (h1 : (x,instObj C a) ∈ fz) (r : R es fs) (k : (fs.map (·.1)).Nodup) : MInstI fz R x C fs a o
noncomputable def MRelB.Inv (prog : Program) (w : World) (base : Heap) (fz : Led) (x : Addr) (a : Addr) (o : Obj) : MO → Prop
  | .list ds => MListI (VRels prog w (fun a o => (a,o) ∈ fz ∨ base.get? a = some o)) x ds a o
  | .glist ds => MGlistI (VRels prog w (fun a o => (a,o) ∈ fz ∨ base.get? a = some o)) x ds a o
  | .dict ds => MDictI (fun o kvs => o.IsDictOf (intKind prog w) kvs) (KRels prog w (fun a o => (a,o) ∈ fz ∨ base.get? a = some o)) x ds a o
  | .inst C fs => MInstI fz (FRels prog w (fun a o => (a,o) ∈ fz ∨ base.get? a = some o)) x C fs a o
theorem MRelB.inv {prog : Program} {w : World} {base : Heap} {fz : Led} {x : Addr} {mo : MO} {a : Addr} {o : Obj} (r : MRelB prog w base fz x mo a o) : MRelB.Inv prog w base fz x a o mo:=by
  cases r with
  | list h3 => exact ⟨_,_,rfl,rfl,h3⟩
  | glist h1 h2 h3 => exact ⟨_,_,rfl,h1,h2,h3⟩
  | dict h1 h2 h3 => exact ⟨_,rfl,h1,h2,h3⟩
  | inst h1 h2 h3 => exact ⟨_,_,rfl,h1,h2,h3⟩
theorem MRelB.mono {prog : Program} {w : World} {base : Heap} {fz fz' : Led} (h : ∀ p ∈ fz,p ∈ fz') {x : Addr} {mo : MO} {a : Addr} {o : Obj} (r : MRelB prog w base fz x mo a o) : MRelB prog w base fz' x mo a o:=by
  have hk : ∀ a o,((a,o) ∈ fz ∨ base.get? a = some o) → ((a,o) ∈ fz' ∨ base.get? a = some o):=fun Z Z q => q.imp (h _) id
  cases r with
  | list h3 => exact .list (h3.mono hk)
  | glist h1 h2 h3 => exact .glist h1 h2 (h3.mono hk)
  | dict h1 h2 h3 => exact .dict h1 h2 (h3.mono hk)
  | inst h1 h2 h3 => exact .inst (h _ h1) (h2.mono hk) h3

inductive SRelB (prog : Program) (w : World) (base : Heap) (fz : Led) : Sto → Led → Prop
  | nil : SRelB prog w base fz [] []
  | cons {x : Addr} {mo : MO} {a : Addr} {o : Obj} {σ : Sto} {raw : Led} : MRelB prog w base fz x mo a o → SRelB prog w base fz σ raw → SRelB prog w base fz ((x,mo) :: σ) ((a,o) :: raw)
noncomputable abbrev SRel (c : Cx) (fz : Led) : Sto → Led → Prop:=SRelB c.prog c.w c.base fz

theorem SRelB.mono {prog : Program} {w : World} {base : Heap} {fz fz' : Led} (h : ∀ p ∈ fz,p ∈ fz') {σ : Sto} {raw : Led} (r : SRelB prog w base fz σ raw) : SRelB prog w base fz' σ raw:=by
  induction r with
  | nil => exact .nil
  | cons a _ ih => exact .cons (a.mono h) ih

inductive SRelB.At (prog : Program) (w : World) (base : Heap) (fz : Led) (σ₁ : Sto) (x : Addr) (mo : MO) (σ₂ : Sto) (raw : Led) : Prop
  | mk (r₁ : Led) (a : Addr) (o : Obj) (r₂ : Led) (e : raw = r₁ ++ (a,o) :: r₂) (h1 : SRelB prog w base fz σ₁ r₁) (h2 : MRelB prog w base fz x mo a o) (h3 : SRelB prog w base fz σ₂ r₂) : SRelB.At prog w base fz σ₁ x mo σ₂ raw
theorem SRelB.split {prog : Program} {w : World} {base : Heap} {fz : Led} {σ₁ : Sto} {x : Addr} {mo : MO} {σ₂ : Sto} {raw : Led} (h : SRelB prog w base fz (σ₁ ++ (x,mo) :: σ₂) raw) : SRelB.At prog w base fz σ₁ x mo σ₂ raw:=by
  induction σ₁ generalizing raw with
  | nil => cases h with | cons m r => exact ⟨[],_,_,_,rfl,.nil,m,r⟩
  | cons p σ₁ ih =>
    cases h with
    | cons m r =>
      obtain ⟨r₁,a,o,r₂,rfl,h1,h2,h3⟩:=ih r
      exact ⟨_ :: r₁,a,o,r₂,rfl,.cons m h1,h2,h3⟩
theorem SRelB.app {prog : Program} {w : World} {base : Heap} {fz : Led} {σ₂ : Sto} {r₂ : Led} (h : SRelB prog w base fz σ₂ r₂) {σ₁ : Sto} {r₁ : Led} (g : SRelB prog w base fz σ₁ r₁) : SRelB prog w base fz (σ₁ ++ σ₂) (r₁ ++ r₂):=by
  induction g with
  | nil => exact h
  | cons m _ ih => exact .cons m ih
theorem SRelB.join {prog : Program} {w : World} {base : Heap} {fz : Led} {x : Addr} {mo : MO} {a : Addr} {o : Obj} {σ₂ : Sto} {r₂ : Led} {σ₁ : Sto} {r₁ : Led} (g : SRelB prog w base fz σ₁ r₁) (m : MRelB prog w base fz x mo a o) (r : SRelB prog w base fz σ₂ r₂) :
    SRelB prog w base fz (σ₁ ++ (x,mo) :: σ₂) (r₁ ++ (a,o) :: r₂):=SRelB.app (.cons m r) g

noncomputable def keys (l : Led) : List Addr:=l.map (·.1)

inductive CellAt (cells : List (Str × Addr)) (L : Led) (x : Str) (v : Value) : Prop
  | mk (a : Addr) (o : Obj) (h1 : cells.lookup x = some a) (h2 : (a,o) ∈ L) (h3 : o.data = .cell (some v)) : CellAt cells L x v
inductive CellIn (cells : List (Str × Addr)) (L : Led) (x : Str) : Prop
  | mk (a : Addr) (o : Obj) (ov : Option Value) (h1 : cells.lookup x = some a) (h2 : (a,o) ∈ L) (h3 : o.data = .cell ov) : CellIn cells L x
noncomputable def LookK (m : Str → Option Value) (K : Frag) (cells : List (Str × Addr)) (L : Led) (x : Str) (v : Value) : Option NameKind → Prop
  | some .local => m x = some v
  | some .cell => CellAt cells L x v
  | some .free => (x == ("__classdict__" : Str)) = false ∧ CellAt cells L x v
  | some .globalImplicit => nsIn K mainGlobals x = some (some v) ∨ (nsIn K mainGlobals x = some none ∧ bootBuiltins x = some v ∧ x ≠ "__name__")
  | _ => False
noncomputable def Look (c : Cx) (m : Str → Option Value) (cl : Led) (x : Str) (v : Value) : Prop:=
  (x == ("__debug__" : Str)) = false ∧ LookK m c.K c.env.cells (cl ++ c.rest) x v (c.env.kindOf x)
theorem LookK.put {m m' : Str → Option Value} {K : Frag} {cells : List (Str × Addr)} {L L' : Led} {y : Str} {v : Value} {k : Option NameKind} (h : LookK m K cells L y v k)
    (hm : m y = some v → m' y = some v) (hc : ∀ a o,cells.lookup y = some a → o.data = .cell (some v) → (a,o) ∈ L → (a,o) ∈ L') : LookK m' K cells L' y v k:=by
  have key : CellAt cells L y v → CellAt cells L' y v:=fun ⟨a,o,h1,h2,h3⟩ => ⟨a,o,h1,hc a o h1 h3 h2,h3⟩
  cases k with
  | none => exact h
  | some k => cases k with
    | «local» => exact hm h
    | cell => exact key h
    | free => exact ⟨h.1,key h.2⟩
    | globalImplicit => exact h
    | _ => exact h

noncomputable def Own (c : Cx) (cl : Led) (x : Str) : Prop:=
  (x == ("__debug__" : Str)) = false ∧ (c.env.kindOf x = some .local ∨
    (c.comp = none ∧ c.env.kindOf x = some .cell ∧ CellIn c.env.cells cl x))

structure Rel (c : Cx) (ρ : Vars) (σ : Sto) (τ : List (Value × V)) (m : Str → Option Value) (raw cl fz : Led) : Prop where
  sto : SRel c fz σ raw
  own : ∀ x d,(x,Slot.own (some d)) ∈ ρ → ∃ v,Look c m cl x v ∧ c.VR fz v d
  ro : ∀ x d,(x,Slot.ro d) ∈ ρ → ∃ v,Look c m cl x v ∧ c.VR fz v d
  mine : ∀ x o,(x,Slot.own o) ∈ ρ → Own c cl x
  nodup : (ρ.map (·.1)).Nodup
  tmp : ∀ v d,(v,d) ∈ τ → c.VR fz v d

structure Lay (c : Cx) (m : Str → Option Value) (raw cl fz : Led) (h : Heap) : Prop where
  fr : Fr c.h₀ c.fenv.locals h (c.comp.getD m)
  nw : News c.h₀ c.fenv.locals h (raw ++ (cl ++ (c.rest ++ fz)))
  nd : (keys (raw ++ (cl ++ (c.rest ++ fz)))).Nodup
  cm : c.comp.isSome = true → ∃ o es ep,cl = [(c.env.locals,o)] ∧ o.data = .dict es ep ∧ StrKeys es ∧ ∀ name,nsFind es name = m name

inductive St' (c : Cx) (ρ : Vars) (σ : Sto) (τ : List (Value × V)) (h : Heap) (g : Array GenState) (os : OsState) : Prop
  | mk (ok : c.Ok) (hg : g = c.gens) (ho : os = c.os) (m : Str → Option Value) (raw cl fz : Led) (r : Rel c ρ σ τ m raw cl fz) (l : Lay c m raw cl fz h) : St' c ρ σ τ h g os
noncomputable def St (c : Cx) (ρ : Vars) (σ : Sto) (τ : List (Value × V)) (s : Shared) : Prop:=St' c ρ σ τ s.heap s.gens s.os

theorem Lay.ns {c : Cx} {m : Str → Option Value} {raw cl fz : Led} {h : Heap} (ok : c.Ok) (l : Lay c m raw cl fz h) : h.Ns c.env.locals m:=by
  cases hc : c.comp with
  | none =>
    have:=l.fr.ns
    rw [hc] at this
    rw [ok.same hc]
    exact this
  | some f =>
    obtain ⟨o,es,ep,rfl,hd,hk,hf⟩:=l.cm (by rw [hc]; rfl)
    exact ⟨o,es,ep,(l.nw (c.env.locals,o) (by simp)).1,hd,hk,hf⟩
end
end Mine
end
section
set_option tactic.hygienic false
namespace Mine
noncomputable section
section lay
variable {c : Cx} {m : Str → Option Value} {raw cl fz : Led} {h h' : Heap} {ρ : Vars} {σ : Sto} {τ : List (Value × V)} {s : Shared}

theorem mem_mid {α : Type} {a : α} {l r : List α} : a ∈ l ++ a :: r:=List.mem_append_right _ (.head _)
theorem keys_app (a b : Led) : keys (a ++ b) = keys a ++ keys b:=List.map_append
theorem keys_cons (p : Addr × Obj) (b : Led) : keys (p :: b) = p.1 :: keys b:=rfl

theorem keys_perm {l l' : Led} (nd : (keys l).Nodup) (p : l'.Perm l) : (keys l').Nodup:=(p.map Prod.fst).nodup_iff.mpr nd
theorem permM {r₁ r₂ X : Led} {x : Addr × Obj} : ((r₁ ++ x :: r₂) ++ X).Perm (x :: ((r₁ ++ r₂) ++ X)):=List.Perm.append_right X List.perm_middle
theorem permC {raw r₁ r₂ X : Led} {x : Addr × Obj} : (raw ++ ((r₁ ++ x :: r₂) ++ X)).Perm (x :: (raw ++ ((r₁ ++ r₂) ++ X))):=(List.Perm.append_left raw permM).trans List.perm_middle
theorem permZ {raw cl R fz : Led} {x : Addr × Obj} : (raw ++ (cl ++ (R ++ x :: fz))).Perm (x :: (raw ++ (cl ++ (R ++ fz)))):=
  (List.Perm.append_left raw ((List.Perm.append_left cl List.perm_middle).trans List.perm_middle)).trans List.perm_middle
theorem permP {raw cl p₁ p₂ R fz : Led} {x : Addr × Obj} : (raw ++ (cl ++ (((p₁ ++ x :: p₂) ++ R) ++ fz))).Perm (x :: (raw ++ (cl ++ (((p₁ ++ p₂) ++ R) ++ fz)))):=
  (List.Perm.append_left raw ((List.Perm.append_left cl (List.Perm.append_right fz permM)).trans List.perm_middle)).trans List.perm_middle
structure Stand (h₀ : Heap) (L : Addr) (h : Heap) (l : Led) : Prop where
  nw : News h₀ L h l
  nd : (keys l).Nodup
theorem Stand.perm {h₀ : Heap} {L : Addr} {l l' : Led} (z : Stand h₀ L h l) (p : l'.Perm l) : Stand h₀ L h l':=⟨fun q hq => z.nw q (p.mem_iff.mp hq),keys_perm z.nd p⟩
theorem Stand.sub {h₀ : Heap} {L : Addr} {l l' : Led} (z : Stand h₀ L h l) (p : l'.Sublist l) : Stand h₀ L h l':=⟨fun q hq => z.nw q (p.subset hq),(p.map _).nodup z.nd⟩
theorem Stand.fresh {h₀ : Heap} {L : Addr} {l : Led} (z : Stand h₀ L h l) : h.objs.size ∉ keys l:=fun q => by
  obtain ⟨p,hp,e⟩:=List.mem_map.mp q
  have:=Heap.lt_size (z.nw p hp).1
  rw [e] at this
  exact Nat.lt_irrefl _ this
theorem Stand.set {h₀ : Heap} {L a : Addr} {o o' : Obj} {M : Led} (z : Stand h₀ L h ((a,o) :: M)) (hs : Heap.SameBut a h h') (ho : h'.get? a = some o') : Stand h₀ L h' ((a,o') :: M):=
  ⟨news_set (pre:=[]) z.nw (fun p hp => nomatch hp) (fun p hp e => (List.nodup_cons.mp z.nd).1 (List.mem_map.mpr ⟨p,hp,e⟩)) hs ho,z.nd⟩
theorem Lay.stand (l : Lay c m raw cl fz h) : Stand c.h₀ c.fenv.locals h (raw ++ (cl ++ (c.rest ++ fz))):=⟨l.nw,l.nd⟩
theorem Lay.pushS (l : Lay c m raw cl fz h) (o : Obj) (hf : o.isFreed = false) : Stand c.h₀ c.fenv.locals (h.push o) ((h.objs.size,o) :: (raw ++ (cl ++ (c.rest ++ fz)))):=⟨l.nw.push l.fr o hf,List.nodup_cons.mpr ⟨l.stand.fresh,l.nd⟩⟩
theorem Lay.of {raw' fz' : Led} (l : Lay c m raw cl fz h) (fr : Fr c.h₀ c.fenv.locals h' (c.comp.getD m)) (z : Stand c.h₀ c.fenv.locals h' (raw' ++ (cl ++ (c.rest ++ fz')))) : Lay c m raw' cl fz' h':=⟨fr,z.nw,z.nd,l.cm⟩
theorem Lay.fresh (l : Lay c m raw cl fz h) : h.objs.size ∉ keys (raw ++ (cl ++ (c.rest ++ fz))):=l.stand.fresh

theorem Lay.grow (l : Lay c m raw cl fz h) (hk : ∀ b o,h.get? b = some o → h'.get? b = some o) : Lay c m raw cl fz h' :=
  ⟨l.fr.after hk,fun p hp => ⟨hk _ _ (l.nw p hp).1,(l.nw p hp).2⟩,l.nd,l.cm⟩

theorem Lay.push (l : Lay c m raw cl fz h) (o : Obj) (hf : o.isFreed = false:=by rfl) : Lay c m raw cl ((h.objs.size,o) :: fz) (h.push o):=l.of (l.fr.push o) ((l.pushS o hf).perm permZ)
theorem Lay.pushM (l : Lay c m raw cl fz h) (o : Obj) (hf : o.isFreed = false:=by rfl) : Lay c m ((h.objs.size,o) :: raw) cl fz (h.push o):=l.of (l.fr.push o) (l.pushS o hf)
theorem Lay.update {r₁ r₂ : Led} {a : Addr} {o o' : Obj} (l : Lay c m (r₁ ++ (a,o) :: r₂) cl fz h) (hs : Heap.SameBut a h h') (ho : h'.get? a = some o') : Lay c m (r₁ ++ (a,o') :: r₂) cl fz h' :=
  have z:=l.stand.perm permM.symm
  have y:=z.nw _ (.head _)
  l.of (l.fr.change hs y.2.1 y.2.2) ((z.set hs ho).perm permM)
theorem Lay.drop {r₁ r₂ : Led} {p : Addr × Obj} (l : Lay c m (r₁ ++ p :: r₂) cl fz h) : Lay c m (r₁ ++ r₂) cl fz h:=l.of l.fr ((l.stand.perm permM.symm).sub (List.sublist_cons_self _ _))
theorem Lay.freeze {r₁ r₂ : Led} {p : Addr × Obj} (l : Lay c m (r₁ ++ p :: r₂) cl fz h) : Lay c m (r₁ ++ r₂) cl (p :: fz) h:=l.of l.fr (l.stand.perm (permZ.trans permM.symm))
theorem Lay.knows (ok : c.Ok) (l : Lay c m raw cl fz h) : ∀ a o,c.Knows fz a o → h.get? a = some o:=fun a o q => q.elim
  (fun q => (l.nw (a,o) (List.mem_append_right _ (List.mem_append_right _ (List.mem_append_right _ q)))).1) fun q => l.fr.keep _ _ (ok.B.stays _ _ q)
end lay

section rel
variable {c : Cx} {m : Str → Option Value} {raw cl fz fz' : Led} {h h' : Heap} {ρ : Vars} {σ : Sto} {τ : List (Value × V)} {s : Shared}

theorem Rel.mono (r : Rel c ρ σ τ m raw cl fz) (hf : ∀ p ∈ fz,p ∈ fz') : Rel c ρ σ τ m raw cl fz' :=
  ⟨r.sto.mono hf,fun x d q => let ⟨v,a,b⟩:=r.own x d q; ⟨v,a,b.mono hf⟩,fun x d q => let ⟨v,a,b⟩:=r.ro x d q; ⟨v,a,b.mono hf⟩,r.mine,r.nodup,fun v d q => (r.tmp v d q).mono hf⟩
theorem Rel.held (r : Rel c ρ σ τ m raw cl fz) {v : Value} {d : V} (x : c.VR fz v d) : Rel c ρ σ ((v,d) :: τ) m raw cl fz:=
  ⟨r.sto,r.own,r.ro,r.mine,r.nodup,fun v' d' q => by
    rcases List.mem_cons.mp q with e | q
    · cases e; exact x
    · exact r.tmp _ _ q⟩
theorem Rel.sub {τ' : List (Value × V)} (r : Rel c ρ σ τ m raw cl fz) (h : ∀ p ∈ τ',p ∈ τ) : Rel c ρ σ τ' m raw cl fz:=
  ⟨r.sto,r.own,r.ro,r.mine,r.nodup,fun v d q => r.tmp v d (h _ q)⟩
theorem Rel.withSto {σ' : Sto} {raw' : Led} (r : Rel c ρ σ τ m raw cl fz) (x : SRel c fz σ' raw') : Rel c ρ σ' τ m raw' cl fz:=⟨x,r.own,r.ro,r.mine,r.nodup,r.tmp⟩

theorem St.sub {τ' : List (Value × V)} (x : St c ρ σ τ s) (h : ∀ p ∈ τ',p ∈ τ) : St c ρ σ τ' s:=
  let ⟨ok,g,o,m,raw,cl,fz,r,l⟩:=x; ⟨ok,g,o,m,raw,cl,fz,r.sub h,l⟩
theorem St.tl {p : Value × V} (x : St c ρ σ (p :: τ) s) : St c ρ σ τ s:=x.sub fun Z h => .tail _ h
theorem St.toks {t : Nat} (x : St c ρ σ τ s) : St c ρ σ τ { s with toks:=t }:=x
theorem St.ok (x : St c ρ σ τ s) : c.Ok:=let ⟨ok,_,_,_,_,_,_,_,_⟩:=x; ok
theorem St.hold {v : Value} {d : V} (x : St c ρ σ τ s) (h : ∀ fz,c.VR fz v d) : St c ρ σ ((v,d) :: τ) s:=
  let ⟨ok,g,o,m,raw,cl,fz,r,l⟩:=x; ⟨ok,g,o,m,raw,cl,fz,r.held (h fz),l⟩
inductive RelAt (c : Cx) (s : Shared) (v : Value) (d : V) : Prop
  | mk (fz : Led) (r : c.VR fz v d) (k : ∀ a o,c.Knows fz a o → s.heap.get? a = some o) : RelAt c s v d
theorem St.rel {v : Value} {d : V} (x : St c ρ σ τ s) (hm : (v,d) ∈ τ) : RelAt c s v d:=by
  obtain ⟨ok,g,o,m,raw,cl,fz,r,l⟩:=x
  exact ⟨fz,r.tmp _ _ hm,l.knows ok⟩
theorem St.drop {σ₁ σ₂ : Sto} {p : Addr × MO} (x : St c ρ (σ₁ ++ p :: σ₂) τ s) : St c ρ (σ₁ ++ σ₂) τ s:=by
  obtain ⟨ok,g,o,m,raw,cl,fz,r,l⟩:=x
  obtain ⟨a,mo⟩:=p
  obtain ⟨r₁,b,ob,r₂,rfl,s1,s2,s3⟩:=r.sto.split
  exact ⟨ok,g,o,m,_,cl,fz,r.withSto (s3.app s1),l.drop⟩
theorem St.grow {h' : Heap} {t : Nat} (x : St c ρ σ τ s) (hk : ∀ b o,s.heap.get? b = some o → h'.get? b = some o) : St c ρ σ τ { s with heap:=h',toks:=t } :=
  let ⟨ok,g,o,m,raw,cl,fz,r,l⟩:=x; ⟨ok,g,o,m,raw,cl,fz,r,l.grow hk⟩
theorem St.junk {o : Obj} {t : Nat} (x : St c ρ σ τ s) : St c ρ σ τ { s with heap:=s.heap.push o,toks:=t }:=x.grow fun Z Z e => Heap.get?_push_of_some _ e
theorem St.push {o : Obj} {d : V} {t : Nat} (x : St c ρ σ τ s) (hf : o.isFreed = false)
    (h : ∀ fz,(∀ v d,(v,d) ∈ τ → c.VR fz v d) → (s.heap.objs.size,o) ∈ fz → c.VR fz (.ref s.heap.objs.size) d) : St c ρ σ ((.ref s.heap.objs.size,d) :: τ) { s with heap:=s.heap.push o,toks:=t }:=by
  obtain ⟨ok,g,os,m,raw,cl,fz,r,l⟩:=x
  refine ⟨ok,g,os,m,raw,cl,(s.heap.objs.size,o) :: fz,?_,l.push o hf⟩
  have r':=r.mono (fz':=(s.heap.objs.size,o) :: fz) fun Z q => .tail _ q
  exact r'.held (h _ r'.tmp (.head _))
theorem St.pushM {o : Obj} {mo : MO} {t : Nat} (x : St c ρ σ τ s) (hf : o.isFreed = false)
    (h : ∀ fz,(∀ v d,(v,d) ∈ τ → c.VR fz v d) → MRel c fz s.heap.objs.size mo s.heap.objs.size o) :
    St c ρ ((s.heap.objs.size,mo) :: σ) ((.ref s.heap.objs.size,.raw (.ref s.heap.objs.size)) :: τ) { s with heap:=s.heap.push o,toks:=t }:=by
  obtain ⟨ok,g,os,m,raw,cl,fz,r,l⟩:=x
  exact ⟨ok,g,os,m,_,cl,fz,(r.withSto (SRelB.cons (h fz r.tmp) r.sto)).held (.raw _),l.pushM o hf⟩
theorem St.update {σ₁ σ₂ : Sto} {a : Addr} {mo mo' : MO} (x : St c ρ (σ₁ ++ (a,mo) :: σ₂) τ s) {Q : Prop}
    (h : ∀ fz b o,MRel c fz a mo b o → s.heap.get? b = some o → (∀ v d,(v,d) ∈ τ → c.VR fz v d) → (∀ a o,c.Knows fz a o → s.heap.get? a = some o) →
      (∀ h' t o',Heap.SameBut b s.heap h' → h'.get? b = some o' → MRel c fz a mo' b o' → St c ρ (σ₁ ++ (a,mo') :: σ₂) τ { s with heap:=h',toks:=t }) → Q) : Q:=by
  obtain ⟨ok,g,os,m,raw,cl,fz,r,l⟩:=x
  obtain ⟨r₁,b,o,r₂,rfl,s1,s2,s3⟩:=r.sto.split
  exact h fz b o s2 (l.nw (b,o) (List.mem_append_left _ mem_mid)).1 r.tmp (l.knows ok) fun h' t o' hs ho mr => ⟨ok,g,os,m,_,cl,fz,r.withSto (SRelB.join s1 mr s3),l.update hs ho⟩
theorem St.freezeList {σ₁ σ₂ : Sto} {a : Addr} {ds : List V} (x : St c ρ (σ₁ ++ (a,.list ds) :: σ₂) τ s) : St c ρ (σ₁ ++ σ₂) ((.ref a,.list ds) :: τ) s:=by
  obtain ⟨ok,g,os,m,raw,cl,fz,r,l⟩:=x
  obtain ⟨r₁,b,o,r₂,rfl,s1,s2,s3⟩:=r.sto.split
  have r':=(r.withSto (s3.app s1)).mono (fz':=(b,o) :: fz) fun Z q => .tail _ q
  refine ⟨ok,g,os,m,_,cl,(b,o) :: fz,r'.held ?_,l.freeze⟩
  obtain ⟨vs,n,rfl,rfl,h3⟩:=s2.inv
  exact .list (.inl (.head _)) rfl rfl (h3.mono fun Z Z q => q.imp (.tail _) id)
theorem St.freezeGlist {σ₁ σ₂ : Sto} {a : Addr} {ds : List V} (x : St c ρ (σ₁ ++ (a,.glist ds) :: σ₂) τ s) : St c ρ (σ₁ ++ σ₂) ((.ref a,.list ds) :: τ) s:=by
  obtain ⟨ok,g,os,m,raw,cl,fz,r,l⟩:=x
  obtain ⟨r₁,b,o,r₂,rfl,s1,s2,s3⟩:=r.sto.split
  have r':=(r.withSto (s3.app s1)).mono (fz':=(b,o) :: fz) fun Z q => .tail _ q
  refine ⟨ok,g,os,m,_,cl,(b,o) :: fz,r'.held ?_,l.freeze⟩
  obtain ⟨vs,n,rfl,h1,h2,h3⟩:=s2.inv
  exact .list (.inl (.head _)) h1 h2 (h3.mono fun Z Z q => q.imp (.tail _) id)
theorem St.freezeDict {σ₁ σ₂ : Sto} {a : Addr} {ds : List (Int × V)} (x : St c ρ (σ₁ ++ (a,.dict ds) :: σ₂) τ s) : St c ρ (σ₁ ++ σ₂) ((.ref a,.dict ds) :: τ) s:=by
  obtain ⟨ok,g,os,m,raw,cl,fz,r,l⟩:=x
  obtain ⟨r₁,b,o,r₂,rfl,s1,s2,s3⟩:=r.sto.split
  have r':=(r.withSto (s3.app s1)).mono (fz':=(b,o) :: fz) fun Z q => .tail _ q
  refine ⟨ok,g,os,m,_,cl,(b,o) :: fz,r'.held ?_,l.freeze⟩
  obtain ⟨kvs,rfl,h1,h2,h3⟩:=s2.inv
  exact .dict (.inl (.head _)) h1 h2 (h3.mono fun Z Z q => q.imp (.tail _) id)
theorem St.freezeInst {σ₁ σ₂ : Sto} {a C : Addr} {fs : List (Str × V)} (x : St c ρ (σ₁ ++ (a,.inst C fs) :: σ₂) τ s) : St c ρ (σ₁ ++ σ₂) ((.ref a,.obj C fs) :: τ) s:=by
  obtain ⟨ok,g,os,m,raw,cl,fz,r,l⟩:=x
  obtain ⟨r₁,b,o,r₂,rfl,s1,s2,s3⟩:=r.sto.split
  have r':=(r.withSto (s3.app s1)).mono (fz':=(b,o) :: fz) fun Z q => .tail _ q
  refine ⟨ok,g,os,m,_,cl,(b,o) :: fz,r'.held ?_,l.freeze⟩
  obtain ⟨es,n,rfl,h1,h2,h3⟩:=s2.inv
  exact .obj (.inl (.tail _ h1)) (.inl (.head _)) (h2.mono fun Z Z q => q.imp (.tail _) id) h3
end rel
end
end Mine
end
section
namespace Mine
noncomputable section
noncomputable abbrev Cx.M (c : Cx) : Model:=model c.prog c.w
noncomputable def Nope : Value → Shared → Prop:=fun Z Z => False

inductive Fl where
  | next | brk | cont
  | ret (d : V)
inductive FlRel : Flow → Fl → List (Value × V) → Prop
  | next : FlRel .next .next []
  | brk : FlRel .brk .brk []
  | cont : FlRel .cont .cont []
  | ret (v : Value) (d : V) : FlRel (.ret v) (.ret d) [(v,d)]

noncomputable def WT (c : Cx) (t : Sem Value) (ρ : Vars) (σ : Sto) (Q : V → Sto → Prop) : Prop:=
  ∀ τ s (R : Value → Shared → Prop),St c ρ σ τ s → (∀ v d σ' s',Q d σ' → St c ρ σ' ((v,d) :: τ) s' → R v s') → wpAny c.M c.A t R Nope s
noncomputable def WB (c : Cx) (t : Sem Bool) (ρ : Vars) (σ : Sto) (Q : Bool → Sto → Prop) : Prop:=
  ∀ τ s (R : Bool → Shared → Prop),St c ρ σ τ s → (∀ b σ' s',Q b σ' → St c ρ σ' τ s' → R b s') → wpAny c.M c.A t R Nope s
noncomputable def WL (c : Cx) (t : Sem (List Value)) (ρ : Vars) (σ : Sto) (Q : List V → Sto → Prop) : Prop:=
  ∀ τ s (R : List Value → Shared → Prop),St c ρ σ τ s → (∀ vs ds σ' s',Q ds σ' → vs.length = ds.length → St c ρ σ' (vs.zip ds ++ τ) s' → R vs s') → wpAny c.M c.A t R Nope s
noncomputable def WX (c : Cx) (t : Sem Flow) (ρ : Vars) (σ : Sto) (Q : Fl → Vars → Sto → Prop) : Prop:=
  ∀ τ s (R : Flow → Shared → Prop),St c ρ σ τ s → (∀ f fl ρ' σ' s' τ',Q fl ρ' σ' → FlRel f fl τ' → St c ρ' σ' (τ' ++ τ) s' → R f s') → wpAny c.M c.A t R Nope s
noncomputable def W1 (c : Cx) (f : Value → Sem Value) (a : V) (ρ : Vars) (σ : Sto) (Q : V → Sto → Prop) : Prop:=
  ∀ τ s va (R : Value → Shared → Prop),(va,a) ∈ τ → St c ρ σ τ s → (∀ v d σ' s',Q d σ' → St c ρ σ' ((v,d) :: τ) s' → R v s') → wpAny c.M c.A (f va) R Nope s
noncomputable def W2 (c : Cx) (f : Value → Value → Sem Value) (a b : V) (ρ : Vars) (σ : Sto) (Q : V → Sto → Prop) : Prop:=
  ∀ τ s va vb (R : Value → Shared → Prop),(va,a) ∈ τ → (vb,b) ∈ τ → St c ρ σ τ s → (∀ v d σ' s',Q d σ' → St c ρ σ' ((v,d) :: τ) s' → R v s') → wpAny c.M c.A (f va vb) R Nope s
noncomputable def WN (c : Cx) (f : List Value → Sem Value) (as : List V) (ρ : Vars) (σ : Sto) (Q : V → Sto → Prop) : Prop:=
  ∀ τ s vs (R : Value → Shared → Prop),vs.length = as.length → (∀ p ∈ vs.zip as,p ∈ τ) → St c ρ σ τ s → (∀ v d σ' s',Q d σ' → St c ρ σ' ((v,d) :: τ) s' → R v s') → wpAny c.M c.A (f vs) R Nope s
noncomputable def W1B (c : Cx) (f : Value → Sem Bool) (a : V) (ρ : Vars) (σ : Sto) (Q : Bool → Sto → Prop) : Prop:=
  ∀ τ s va (R : Bool → Shared → Prop),(va,a) ∈ τ → St c ρ σ τ s → (∀ b σ' s',Q b σ' → St c ρ σ' τ s' → R b s') → wpAny c.M c.A (f va) R Nope s
noncomputable def WU (c : Cx) (f : Value → Sem Unit) (a : V) (ρ : Vars) (σ : Sto) (Q : Vars → Sto → Prop) : Prop:=
  ∀ τ s va (R : Unit → Shared → Prop),(va,a) ∈ τ → St c ρ σ τ s → (∀ ρ' σ' s',Q ρ' σ' → St c ρ' σ' τ s' → R () s') → wpAny c.M c.A (f va) R Nope s

inductive Loads : Vars → Str → V → Prop
  | own {x : Str} {d : V} {r : Vars} : Loads ((x,.own (some d)) :: r) x d
  | ro {x : Str} {d : V} {r : Vars} : Loads ((x,.ro d) :: r) x d
  | tl {p : Str × Slot} {r : Vars} {x : Str} {d : V} : Loads r x d → Loads (p :: r) x d
inductive Puts : Vars → Str → V → Vars → Prop
  | hd {x : Str} {o : Option V} {d : V} {r : Vars} : Puts ((x,.own o) :: r) x d ((x,.own (some d)) :: r)
  | tl {p : Str × Slot} {r r' : Vars} {x : Str} {d : V} : Puts r x d r' → Puts (p :: r) x d (p :: r')

theorem Loads.mem {ρ : Vars} {x : Str} {d : V} (h : Loads ρ x d) : (x,Slot.own (some d)) ∈ ρ ∨ (x,Slot.ro d) ∈ ρ:=by
  induction h with
  | own => exact .inl (.head _)
  | ro => exact .inr (.head _)
  | tl _ ih => exact ih.imp (.tail _) (.tail _)
theorem Puts.split {ρ ρ' : Vars} {x : Str} {d : V} (h : Puts ρ x d ρ') : ∃ r₁ o r₂,ρ = r₁ ++ (x,.own o) :: r₂ ∧ ρ' = r₁ ++ (x,.own (some d)) :: r₂:=by
  induction h with
  | @hd x o d r => exact ⟨[],o,r,rfl,rfl⟩
  | @tl p r r' x d _ ih => obtain ⟨r₁,o,r₂,e1,e2⟩:=ih; exact ⟨p :: r₁,o,r₂,by rw [e1]; rfl,by rw [e2]; rfl⟩

section
variable {c : Cx} {ρ ρ' : Vars} {σ : Sto} {τ : List (Value × V)} {s : Shared} {Q : V → Sto → Prop}

theorem WT.mono {t : Sem Value} {Q' : V → Sto → Prop} (h : WT c t ρ σ Q) (k : ∀ d σ',Q d σ' → Q' d σ') : WT c t ρ σ Q' :=
  fun τ s R x hR => h τ s R x fun v d σ' s' q => hR v d σ' s' (k d σ' q)
theorem WX.mono {t : Sem Flow} {Q Q' : Fl → Vars → Sto → Prop} (h : WX c t ρ σ Q) (k : ∀ f ρ' σ',Q f ρ' σ' → Q' f ρ' σ') : WX c t ρ σ Q' :=
  fun τ s R x hR => h τ s R x fun f fl ρ' σ' s' τ' q => hR f fl ρ' σ' s' τ' (k fl ρ' σ' q)

inductive LooksV (c : Cx) (ρ : Vars) (σ : Sto) (τ : List (Value × V)) (s : Shared) (x : Str) (d : V) : Prop
  | mk (v : Value) (X : St c ρ σ ((v,d) :: τ) s) (k : ∀ (pos : Pos) (R : Value → Shared → Prop) (E : Value → Shared → Prop),R v s → wpAny c.M c.A (eval (.Name x pos) c.env) R E s) : LooksV c ρ σ τ s x d
theorem Lay.cell {m : Str → Option Value} {raw cl fz : Led} {h : Heap} (l : Lay c m raw cl fz h) {p : Addr × Obj} (q : p ∈ cl ++ c.rest) : h.get? p.1 = some p.2:=
  (l.nw p (List.mem_append_right _ ((List.mem_append.mp q).elim (List.mem_append_left _) fun q => List.mem_append_right _ (List.mem_append_left _ q)))).1
theorem St.look {x : Str} {d : V} (X : St c ρ σ τ s) (h : Loads ρ x d) : LooksV c ρ σ τ s x d:=by
  obtain ⟨ok,g,os,m,raw,cl,fz,r,l⟩:=X
  obtain ⟨v,⟨hd,lk⟩,hv⟩ : ∃ v,Look c m cl x v ∧ c.VR fz v d:=h.mem.elim (r.own x d) (r.ro x d)
  refine ⟨v,⟨ok,g,os,m,raw,cl,fz,r.held hv,l⟩,fun pos R E hR => ?_⟩
  cases hk : c.env.kindOf x with
  | none => rw [hk] at lk; exact lk.elim
  | some k =>
    rw [hk] at lk
    cases k with
    | «local» => exact wpAny_Name (wpAny_loadName_local ok.ek hk (l.ns ok) lk hR) hd
    | cell =>
      obtain ⟨a,o,h1,h2,h3⟩:=lk
      exact wpAny_Name (wpAny_loadName_cell ok.ek hk h1 ⟨o,l.cell h2,h3⟩ hR) hd
    | free =>
      obtain ⟨hcd,a,o,h1,h2,h3⟩:=lk
      exact wpAny_Name (wpAny_loadName_free ok.ek hk h1 ⟨o,l.cell h2,h3⟩ hR hcd) hd
    | globalImplicit =>
      have Tg:=ok.T.g.keeps l.fr.keep
      rcases lk with lk | ⟨l1,l2,l3⟩
      · exact Name_function_global ok.ek hk (loadGlobal_global (by rw [ok.eg]; exact Tg) (mg_of ok.K ok.T.g lk) hR) hd
      · exact Name_function_global ok.ek hk (loadGlobal_builtin (by rw [ok.eg]; exact Tg) (mg_none_of ok.K ok.T.g l1) (by rw [ok.eb]; exact ok.T.b.keeps l.fr.keep) ((ok.T.builtins x l3).trans l2) hR) hd
    | _ => exact lk.elim

theorem wName {x : Str} {pos : Pos} {d : V} (h : Loads ρ x d) (q : Q d σ) : WT c (eval (.Name x pos) c.env) ρ σ Q:=fun τ s R X hR => by
  obtain ⟨v,X',k⟩:=X.look h
  exact k _ _ _ (hR v d σ s q X')

theorem wNone {k : Nat} {pos : Pos} (q : Q .none σ) : WT c (eval (.Constant .none k pos) c.env) ρ σ Q:=fun τ s R X hR =>
  wpAny_Constant_none (hR _ _ _ _ q (X.hold fun Z => .none))
theorem wBool {k : Nat} {pos : Pos} {b : Bool} (q : Q (.bool b) σ) : WT c (eval (.Constant (.bool b) k pos) c.env) ρ σ Q:=fun τ s R X hR =>
  wpAny_Constant_bool (hR _ _ _ _ q (X.hold fun Z => .bool b))
theorem wInt {k : Nat} {pos : Pos} {i : Int} (q : Q (.int i) σ) : WT c (eval (.Constant (.int i) k pos) c.env) ρ σ Q:=fun τ s R X hR =>
  wpAny_Constant_int (hR _ _ _ _ q (X.toks.hold fun Z => .int i _))
theorem wStr {k : Nat} {pos : Pos} {x : Str} (q : Q (.str x) σ) : WT c (eval (.Constant (.str x) k pos) c.env) ρ σ Q:=fun τ s R X hR =>
  Constant_str (hR _ _ _ _ q (X.toks.hold fun Z => .str x _))

theorem Look.put {m m' : Str → Option Value} {cl cl' : Led} {y : Str} {v : Value} (h : Look c m cl y v)
    (hm : m y = some v → m' y = some v) (hc : ∀ a o,c.env.cells.lookup y = some a → o.data = .cell (some v) → (a,o) ∈ cl ++ c.rest → (a,o) ∈ cl' ++ c.rest) : Look c m' cl' y v:=⟨h.1,h.2.put hm hc⟩
theorem mem_swap {l r : Led} {x y p : Addr × Obj} (h : p ∈ l ++ x :: r) (hne : p.1 ≠ x.1) : p ∈ l ++ y :: r:=
  (List.mem_append.mp h).elim (List.mem_append_left _) fun h => (List.mem_cons.mp h).elim (fun e => absurd (congrArg Prod.fst e) hne) fun h => List.mem_append_right _ (.tail _ h)
end

theorem lookup_val_inj {l : List (Str × Addr)} (hn : (l.map (·.2)).Nodup) {x y : Str} {a : Addr} (h1 : l.lookup x = some a) (h2 : l.lookup y = some a) : x = y:=by
  induction l with
  | nil => cases h1
  | cons p r ih =>
    obtain ⟨z,b⟩:=p
    rw [List.map_cons,List.nodup_cons] at hn
    have look_mem : ∀ {u : Str} {r : List (Str × Addr)},r.lookup u = some a → a ∈ r.map (·.2):=by
      intro u r h
      induction r with
      | nil => cases h
      | cons q r ih =>
        rw [List.lookup_cons] at h
        split at h
        · cases h; exact .head _
        · exact .tail _ (ih h)
    rw [List.lookup_cons] at h1 h2
    split at h1
    · split at h2
      · rename_i e1 _ e2
        rw [beq_iff_eq.mp e1,beq_iff_eq.mp e2]
      · cases h1; exact absurd (look_mem h2) hn.1
    · split at h2
      · cases h2; exact absurd (look_mem h1) hn.1
      · exact ih hn.2 h1 h2

section
variable {c : Cx} {ρ ρ' : Vars} {σ : Sto} {τ : List (Value × V)} {s : Shared}

theorem Rel.put {x : Str} {d : V} {va : Value} {m m' : Str → Option Value} {raw cl cl' fz : Led} (r : Rel c ρ σ τ m raw cl fz) (h : Puts ρ x d ρ') (hv : c.VR fz va d) (hx : Look c m' cl' x va)
    (hother : ∀ y v,y ≠ x → Look c m cl y v → Look c m' cl' y v) (hown : ∀ y,Own c cl y → Own c cl' y) : Rel c ρ' σ τ m' raw cl' fz:=by
  obtain ⟨r₁,o,r₂,e1,e2⟩:=h.split
  have nd:=r.nodup
  rw [e1,List.map_append,List.map_cons] at nd
  have ne : ∀ y sl,(y,sl) ∈ r₁ ∨ (y,sl) ∈ r₂ → y ≠ x:=by
    rintro y sl (q | q) rfl
    · exact (List.nodup_append.mp nd).2.2 y (List.mem_map.mpr ⟨_,q,rfl⟩) y (.head _) rfl
    · exact (List.nodup_cons.mp (List.nodup_append.mp nd).2.1).1 (List.mem_map.mpr ⟨_,q,rfl⟩)
  have was : ∀ y sl,(y,sl) ∈ r₁ ∨ (y,sl) ∈ r₂ → (y,sl) ∈ ρ:=by
    intro y sl q
    rw [e1,List.mem_append,List.mem_cons]
    exact q.imp id .inr
  have cases' : ∀ y sl,(y,sl) ∈ ρ' → ((y,sl) ∈ r₁ ∨ (y,sl) ∈ r₂) ∨ (y = x ∧ sl = .own (some d)):=by
    intro y sl q
    rw [e2,List.mem_append,List.mem_cons] at q
    rcases q with q | q | q
    · exact .inl (.inl q)
    · exact .inr (Prod.mk.inj q)
    · exact .inl (.inr q)
  refine ⟨r.sto,fun y e q => ?_,fun y e q => ?_,fun y e q => ?_,?_,r.tmp⟩
  · rcases cases' _ _ q with q | ⟨rfl,e'⟩
    · obtain ⟨v,a,b⟩:=r.own y e (was _ _ q)
      exact ⟨v,hother y v (ne _ _ q) a,b⟩
    · cases e'; exact ⟨va,hx,hv⟩
  · rcases cases' _ _ q with q | ⟨rfl,e'⟩
    · obtain ⟨v,a,b⟩:=r.ro y e (was _ _ q)
      exact ⟨v,hother y v (ne _ _ q) a,b⟩
    · cases e'
  · rcases cases' _ _ q with q | ⟨rfl,e'⟩
    · exact hown _ (r.mine y e (was _ _ q))
    · exact hown _ (r.mine y o (by rw [e1]; simp))
  · rw [e2,List.map_append,List.map_cons]; exact nd

theorem St.store {x : Str} {d : V} {va : Value} (X : St c ρ σ τ s) (hm : (va,d) ∈ τ) (h : Puts ρ x d ρ') {R : Unit → Shared → Prop} {E : Value → Shared → Prop} (k : ∀ s',St c ρ' σ τ s' → R () s') :
    wpAny c.M c.A (storeName c.env x va) R E s:=by
  obtain ⟨ok,g,os,m,raw,cl,fz,r,l⟩:=X
  have hv:=r.tmp _ _ hm
  obtain ⟨r₁,o₀,r₂,e1,_⟩:=h.split
  obtain ⟨hdb,ho⟩:=r.mine x o₀ (e1 ▸ mem_mid)
  clear e1
  rcases ho with hloc | ⟨hcomp,hcell,a,o,ov,ha,hmem,hdat⟩
  · have hp : (c.env.scope.kind == .class || (c.env.scope.kind == .module && c.env.locals != c.env.globals)) = false:=by rw [ok.ek]; rfl
    refine wpAny_storeName_local hloc (l.ns ok) (fun h' hn hs => k _ ?_) hp
    have hx' : ∀ cl',Look c (fun y => if y = x then some va else m y) cl' x va:=fun cl' => ⟨hdb,by rw [hloc]; exact if_pos rfl⟩
    cases hc : c.comp with
    | none =>
      have eL:=ok.same hc
      have fr : Fr c.h₀ c.fenv.locals s.heap m:=by have:=l.fr; rw [hc] at this; exact this
      rw [eL] at hn hs
      exact ⟨ok,g,os,_,raw,cl,fz,r.put h hv (hx' cl) (fun y v hy lk => lk.put (fun e => (if_neg hy).trans e) fun Z Z Z Z q => q) (fun Z q => q),⟨by rw [hc]; exact fr.set hn hs,l.nw.set hs,l.nd,fun q => by rw [hc] at q; cases q⟩⟩
    | some f =>
      obtain ⟨o,es,ep,rfl,hd,hk,hf⟩:=l.cm (by rw [hc]; rfl)
      obtain ⟨o',es',ep',ho',hd',hk',hf'⟩:=hn
      have z:=l.stand.perm (permC (r₁:=[]) (r₂:=[])).symm
      have y:=z.nw _ (.head _)
      have fr : Fr c.h₀ c.fenv.locals s.heap f:=by have:=l.fr; rw [hc] at this; exact this
      have w:=(z.set hs ho').perm (permC (r₁:=[]) (r₂:=[]))
      refine ⟨ok,g,os,_,raw,[(c.env.locals,o')],fz,r.put h hv (hx' _) (fun y v hy lk => lk.put (fun e => (if_neg hy).trans e) fun a ob q hdt hm => ?_) (fun y q => ⟨q.1,q.2.imp id fun ⟨z,_⟩ => by rw [hc] at z; cases z⟩),⟨by rw [hc]; exact fr.change hs y.2.1 y.2.2,w.nw,w.nd,fun Z => ⟨o',es',ep',rfl,hd',hk',hf'⟩⟩⟩
      rcases List.mem_append.mp hm with q' | q'
      · rw [List.mem_singleton] at q'
        cases q'
        rw [hd] at hdt; cases hdt
      · exact List.mem_append_right _ q'
  · obtain ⟨c₁,c₂,rfl⟩:=List.append_of_mem hmem
    have z:=l.stand.perm permC.symm
    have y:=z.nw _ (.head _)
    refine wpAny_storeName_cell ok.ek hcell ha ⟨o,y.1,hdat⟩ fun h' hv' hs => k _ ?_
    obtain ⟨o',ho',hd'⟩:=hv'
    have w:=(z.set hs ho').perm permC
    refine ⟨ok,g,os,m,raw,c₁ ++ (a,o') :: c₂,fz,r.put h hv ⟨hdb,by rw [hcell]; exact ⟨a,o',ha,List.mem_append_left _ mem_mid,hd'⟩⟩ (fun y v hy lk => lk.put (fun q => q) fun b ob q hdt hm' => ?_) ?_,⟨l.fr.change hs y.2.1 y.2.2,w.nw,w.nd,fun q => by rw [hcomp] at q; cases q⟩⟩
    · exact (List.mem_append.mp hm').elim (fun q' => List.mem_append_left _ (mem_swap q' fun e => hy (lookup_val_inj ok.cells (q.trans (congrArg some e)) ha))) (List.mem_append_right _)
    · rintro y ⟨q1,q2⟩
      refine ⟨q1,q2.imp id ?_⟩
      rintro ⟨z1,z2,b,ob,ov',z3,z4,z5⟩
      by_cases hba : b = a
      · subst hba; exact ⟨z1,z2,b,o',_,z3,mem_mid,hd'⟩
      · exact ⟨z1,z2,b,ob,ov',z3,mem_swap z4 hba,z5⟩
end
end
end Mine
end
section
set_option tactic.hygienic false
namespace Mine
noncomputable section
mutual
noncomputable def V.py : V → Option PyData
  | .none => some .none
  | .bool b => some (.bool b)
  | .int i => some (.int i)
  | .str s => some (.str s)
  | .tup xs => (V.pys xs).map .tuple
  | .list xs => (V.pys xs).map .list
  | .dict _ => Option.none
  | .sdict _ => Option.none
  | .obj _ _ => Option.none
  | .raw _ => Option.none
  | .rng _ _ => Option.none
  | .known _ => Option.none
noncomputable def V.pys : List V → Option (List PyData)
  | [] => some []
  | x :: xs => match V.py x,V.pys xs with
    | some a,some b => some (a :: b)
    | _,_ => Option.none
end

section
variable {prog : Program} {w : World} {P : Addr → Obj → Prop} {h : Heap}
inductive PysCons (d : V) (ds : List V) (xs : List PyData) : Prop
  | mk (x : PyData) (ys : List PyData) (hx : V.py d = some x) (hy : V.pys ds = some ys) (e : xs = x :: ys) : PysCons d ds xs
theorem pysCons {d : V} {ds : List V} {xs : List PyData} (e : V.pys (d :: ds) = some xs) : PysCons d ds xs:=by
  have e' : (match V.py d,V.pys ds with | some a,some b => some (a :: b) | _,_ => Option.none) = some xs:=e
  cases hx : V.py d with
  | none => rw [hx] at e'; cases e'
  | some x =>
    cases hy : V.pys ds with
    | none => rw [hx,hy] at e'; cases e'
    | some ys => rw [hx,hy] at e'; cases e'; exact ⟨x,ys,hx,hy,rfl⟩
theorem VRel.reads (hk : ∀ a o,P a o → h.get? a = some o) {v : Value} {d : V} (q : VRel prog w P v d) : ∀ (x : PyData),d.py = some x → ∃ as,Reads h v x as:=
  VRel.rec (motive_1:=fun v d Z => ∀ x,d.py = some x → ∃ as,Reads h v x as) (motive_2:=fun vs ds Z => ∀ xs,V.pys ds = some xs → ∃ as,ReadsAll h vs xs as) (motive_3:=fun Z Z Z => True) (motive_4:=fun Z Z Z => True) (motive_5:=fun Z Z Z => True)
    (fun Z e => by cases e; exact ⟨_,.none⟩) (fun b Z e => by cases e; exact ⟨_,.bool b⟩) (fun i t Z e => by cases e; exact ⟨_,.int i t⟩) (fun y t Z e => by cases e; exact ⟨_,.str y t⟩) (fun Z Z e => nomatch e)
    (fun p Z r x e => by obtain ⟨ys,hy,rfl⟩:=Option.map_eq_some_iff.mp e; obtain ⟨as,z⟩:=r _ hy; exact ⟨as,.tuple (hk _ _ p) rfl rfl z⟩)
    (fun p b c Z r x e => by obtain ⟨ys,hy,rfl⟩:=Option.map_eq_some_iff.mp e; obtain ⟨as,z⟩:=r _ hy; exact ⟨_,.list (hk _ _ p) b c z⟩)
    (fun Z Z Z Z Z Z e => nomatch e) (fun Z Z Z Z Z Z e => nomatch e) (fun Z Z Z Z Z Z e => nomatch e) (fun Z Z e => nomatch e) (fun Z Z e => nomatch e)
    (fun Z e => by cases e; exact ⟨_,.nil⟩)
    (fun {_ d _ ds} _ _ a r xs e => by
      obtain ⟨x,ys,hx,hy,rfl⟩:=pysCons e
      obtain ⟨as,z1⟩:=a _ hx
      obtain ⟨bs,z2⟩:=r _ hy
      exact ⟨_,.cons z1 z2⟩)
    trivial (fun Z Z Z Z => trivial) trivial (fun Z Z Z Z => trivial) trivial (fun Z Z Z Z => trivial) q
theorem VRels.reads (hk : ∀ a o,P a o → h.get? a = some o) {vs : List Value} {ds : List V} (q : VRels prog w P vs ds) : ∀ (xs : List PyData),V.pys ds = some xs → ∃ as,ReadsAll h vs xs as:=
  VRels.rec (motive_1:=fun v d Z => ∀ x,d.py = some x → ∃ as,Reads h v x as) (motive_2:=fun vs ds Z => ∀ xs,V.pys ds = some xs → ∃ as,ReadsAll h vs xs as) (motive_3:=fun Z Z Z => True) (motive_4:=fun Z Z Z => True) (motive_5:=fun Z Z Z => True)
    (fun Z e => by cases e; exact ⟨_,.none⟩) (fun b Z e => by cases e; exact ⟨_,.bool b⟩) (fun i t Z e => by cases e; exact ⟨_,.int i t⟩) (fun y t Z e => by cases e; exact ⟨_,.str y t⟩) (fun Z Z e => nomatch e)
    (fun p Z r x e => by obtain ⟨ys,hy,rfl⟩:=Option.map_eq_some_iff.mp e; obtain ⟨as,z⟩:=r _ hy; exact ⟨as,.tuple (hk _ _ p) rfl rfl z⟩)
    (fun p b c Z r x e => by obtain ⟨ys,hy,rfl⟩:=Option.map_eq_some_iff.mp e; obtain ⟨as,z⟩:=r _ hy; exact ⟨_,.list (hk _ _ p) b c z⟩)
    (fun Z Z Z Z Z Z e => nomatch e) (fun Z Z Z Z Z Z e => nomatch e) (fun Z Z Z Z Z Z e => nomatch e) (fun Z Z e => nomatch e) (fun Z Z e => nomatch e)
    (fun Z e => by cases e; exact ⟨_,.nil⟩)
    (fun {_ d _ ds} _ _ a r xs e => by
      obtain ⟨x,ys,hx,hy,rfl⟩:=pysCons e
      obtain ⟨as,z1⟩:=a _ hx
      obtain ⟨bs,z2⟩:=r _ hy
      exact ⟨_,.cons z1 z2⟩)
    trivial (fun Z Z Z Z => trivial) trivial (fun Z Z Z Z => trivial) trivial (fun Z Z Z Z => trivial) q
theorem VRels.length {vs : List Value} {ds : List V} (h : VRels prog w P vs ds) : vs.length = ds.length:=by
  induction vs generalizing ds with
  | nil => cases h; rfl
  | cons v vs ih => cases h with | cons _ r => rw [List.length_cons,List.length_cons,ih r]
theorem VRels.get {vs : List Value} {ds : List V} (h : VRels prog w P vs ds) : ∀ {i : Nat} {d : V},ds[i]? = some d → ∃ v,vs[i]? = some v ∧ VRel prog w P v d:=by
  induction vs generalizing ds with
  | nil => cases h; intro i d e; simp at e
  | cons v vs ih =>
    cases h with
    | cons a r =>
      intro i d e
      cases i with
      | zero => simp at e; subst e; exact ⟨v,rfl,a⟩
      | succ i => simp at e; exact ih r e
theorem VRels.append {vs vs' : List Value} {ds ds' : List V} (h : VRels prog w P vs ds) (h' : VRels prog w P vs' ds') : VRels prog w P (vs ++ vs') (ds ++ ds'):=by
  induction vs generalizing ds with
  | nil => cases h; exact h'
  | cons v vs ih => cases h with | cons a r => exact .cons a (ih r)
theorem VRels.set {vs : List Value} {ds : List V} {v : Value} {d : V} (h : VRels prog w P vs ds) (hv : VRel prog w P v d) : ∀ i,VRels prog w P (vs.set i v) (ds.set i d):=by
  induction vs generalizing ds with
  | nil => cases h; intro i; exact .nil
  | cons u vs ih =>
    cases h with
    | cons a r =>
      intro i
      cases i with
      | zero => exact .cons hv r
      | succ i => exact .cons a (ih r i)
theorem VRels.take {vs : List Value} {ds : List V} (h : VRels prog w P vs ds) : ∀ i,VRels prog w P (vs.take i) (ds.take i):=by
  induction vs generalizing ds with
  | nil => cases h; intro i; simp; exact .nil
  | cons u vs ih =>
    cases h with
    | cons a r =>
      intro i
      cases i with
      | zero => exact .nil
      | succ i => exact .cons a (ih r i)
theorem VRels.drop {vs : List Value} {ds : List V} (h : VRels prog w P vs ds) : ∀ i,VRels prog w P (vs.drop i) (ds.drop i):=by
  induction vs generalizing ds with
  | nil => cases h; intro i; simp; exact .nil
  | cons u vs ih =>
    cases h with
    | cons a r =>
      intro i
      cases i with
      | zero => exact .cons a r
      | succ i => exact ih r i
theorem VRels.mem_zip {vs : List Value} {ds : List V} (h : VRels prog w P vs ds) : ∀ {v : Value} {d : V},(v,d) ∈ vs.zip ds → VRel prog w P v d:=by
  induction vs generalizing ds with
  | nil => intro v d q; simp at q
  | cons u vs ih =>
    cases h with
    | cons a r =>
      intro v d q
      rcases List.mem_cons.mp q with q | q
      · cases q; exact a
      · exact ih r q
theorem VRels.of_mem {vs : List Value} {ds : List V} (hl : vs.length = ds.length) (h : ∀ p ∈ vs.zip ds,VRel prog w P p.1 p.2) : VRels prog w P vs ds:=by
  induction vs generalizing ds with
  | nil => cases ds with | nil => exact .nil | cons _ _ => cases hl
  | cons v vs ih => cases ds with
    | nil => cases hl
    | cons d ds => exact .cons (h (v,d) (.head _)) (ih (Nat.succ.inj hl) fun p hp => h p (.tail _ hp))
end

section
variable {c : Cx} {ρ : Vars} {σ : Sto} {τ : List (Value × V)} {s : Shared}

theorem St.r1 {p q : Value × V} (x : St c ρ σ (p :: q :: τ) s) : St c ρ σ (p :: τ) s:=x.sub fun u h => by
  rcases List.mem_cons.mp h with rfl | h
  · exact .head _
  · exact .tail _ (.tail _ h)
theorem St.r2 {p q r : Value × V} (x : St c ρ σ (p :: q :: r :: τ) s) : St c ρ σ (p :: τ) s:=x.sub fun u h => by
  rcases List.mem_cons.mp h with rfl | h
  · exact .head _
  · exact .tail _ (.tail _ (.tail _ h))
theorem St.rapp {p : Value × V} {τ' : List (Value × V)} (x : St c ρ σ (p :: (τ' ++ τ)) s) : St c ρ σ (p :: τ) s:=x.sub fun u h => by
  rcases List.mem_cons.mp h with rfl | h
  · exact .head _
  · exact .tail _ (List.mem_append_right _ h)

inductive RelAll (c : Cx) (τ : List (Value × V)) (s : Shared) : Prop
  | mk (fz : Led) (r : ∀ v d,(v,d) ∈ τ → c.VR fz v d) (k : ∀ a o,c.Knows fz a o → s.heap.get? a = some o) : RelAll c τ s
theorem St.two (X : St c ρ σ τ s) : RelAll c τ s:=by
  obtain ⟨ok,g,os,m,raw,cl,fz,r,l⟩:=X
  exact ⟨fz,r.tmp,l.knows ok⟩
theorem St.units (X : St c ρ σ τ s) : c.A.units ≤ 9000:=by have:=X.ok.units; omega

variable {Q : V → Sto → Prop}
theorem wBin {l r : Expr} {op : Operator} {pos : Pos} (h : WT c (eval l c.env) ρ σ fun a σ₁ => WT c (eval r c.env) ρ σ₁ fun b σ₂ => W2 c (binaryOp op) a b ρ σ₂ Q) :
    WT c (eval (.BinOp l op r pos) c.env) ρ σ Q:=fun τ s R X hR =>
  wpAny_BinOp (h τ s _ X fun va a σ₁ s₁ h₁ X₁ => h₁ _ s₁ _ X₁ fun vb b σ₂ s₂ h₂ X₂ => h₂ _ s₂ va vb R (.tail _ (.head _)) (.head _) X₂ fun v d σ' s' q X' => hR v d σ' s' q X'.r2)
theorem wUn {e : Expr} {op : UnaryOp} {pos : Pos} (h : WT c (eval e c.env) ρ σ fun a σ₁ => W1 c (unaryOp op) a ρ σ₁ Q) : WT c (eval (.UnaryOp op e pos) c.env) ρ σ Q:=fun τ s R X hR =>
  wpAny_UnaryOp (h τ s _ X fun va a σ₁ s₁ h₁ X₁ => h₁ _ s₁ va R (.head _) X₁ fun v d σ' s' q X' => hR v d σ' s' q X'.r1)
theorem wCmp {l r : Expr} {op : CmpOp} {pos : Pos} (hm : behindInMarks op r = false) (h : WT c (eval l c.env) ρ σ fun a σ₁ => WT c (eval r c.env) ρ σ₁ fun b σ₂ => W2 c (compareOp op) a b ρ σ₂ Q) :
    WT c (eval (.Compare l [op] [r] pos) c.env) ρ σ Q:=fun τ s R X hR =>
  wpAny_Compare1 (hm:=hm) (h τ s _ X fun va a σ₁ s₁ h₁ X₁ => h₁ _ s₁ _ X₁ fun vb b σ₂ s₂ h₂ X₂ => h₂ _ s₂ va vb R (.tail _ (.head _)) (.head _) X₂ fun v d σ' s' q X' => hR v d σ' s' q X'.r2)

theorem sInt {a : Int} {va : Value} (X : St c ρ σ τ s) (h : (va,V.int a) ∈ τ) : ∃ t,va = .int a t:=by
  obtain ⟨fz,r,_⟩:=X.rel h
  exact r.inv
theorem sBool {a : Bool} {va : Value} (X : St c ρ σ τ s) (h : (va,V.bool a) ∈ τ) : va = .bool a:=by
  obtain ⟨fz,r,_⟩:=X.rel h
  exact r.inv
theorem sStr {a : Str} {va : Value} (X : St c ρ σ τ s) (h : (va,V.str a) ∈ τ) : ∃ t,va = .str a t:=by
  obtain ⟨fz,r,_⟩:=X.rel h
  exact r.inv
theorem sNone {va : Value} (X : St c ρ σ τ s) (h : (va,V.none) ∈ τ) : va = .none:=by
  obtain ⟨fz,r,_⟩:=X.rel h
  exact r.inv
theorem sRaw {va v : Value} (X : St c ρ σ τ s) (h : (va,V.raw v) ∈ τ) : va = v:=by
  obtain ⟨fz,r,_⟩:=X.rel h
  exact r.inv

theorem oAdd {a b : Int} (q : Q (.int (a + b)) σ) : W2 c (binaryOp .Add) (.int a) (.int b) ρ σ Q:=fun τ s va vb R ha hb X hR => by
  obtain ⟨t,rfl⟩:=sInt X ha; obtain ⟨u,rfl⟩:=sInt X hb
  exact add_int (hR _ _ _ _ q (X.toks.hold fun Z => .int _ _))
theorem oSub {a b : Int} (q : Q (.int (a - b)) σ) : W2 c (binaryOp .Sub) (.int a) (.int b) ρ σ Q:=fun τ s va vb R ha hb X hR => by
  obtain ⟨t,rfl⟩:=sInt X ha; obtain ⟨u,rfl⟩:=sInt X hb
  exact AutoIntOps.sub_0 (hR _ _ _ _ q (X.toks.hold fun Z => .int _ _))
theorem oMul {a b : Int} (hm : IntMulOk a b) (q : Q (.int (a * b)) σ) : W2 c (binaryOp .Mult) (.int a) (.int b) ρ σ Q:=fun τ s va vb R ha hb X hR => by
  obtain ⟨t,rfl⟩:=sInt X ha; obtain ⟨u,rfl⟩:=sInt X hb
  exact AutoIntOps.mul_0 (hm:=hm) (hR _ _ _ _ q (X.toks.hold fun Z => .int _ _))
theorem oMod {a b : Int} (hb0 : b ≠ 0) (q : Q (.int (a.fmod b)) σ) : W2 c (binaryOp .Mod) (.int a) (.int b) ρ σ Q:=fun τ s va vb R ha hb X hR => by
  obtain ⟨t,rfl⟩:=sInt X ha; obtain ⟨u,rfl⟩:=sInt X hb
  exact mod_int' hb0 (hR _ _ _ _ q (X.toks.hold fun Z => .int _ _))
theorem oDiv {a b : Int} (hb0 : b ≠ 0) (hs : b.natAbs < 1073741824) (q : Q (.int (a.fdiv b)) σ) : W2 c (binaryOp .FloorDiv) (.int a) (.int b) ρ σ Q:=fun τ s va vb R ha hb X hR => by
  obtain ⟨t,rfl⟩:=sInt X ha; obtain ⟨u,rfl⟩:=sInt X hb
  exact AutoIntOps.floordiv_1 (by simpa using hb0) (by rw [PyProof.noPylong_small hs]; exact Bool.false_ne_true) (hR _ _ _ _ q (X.toks.hold fun Z => .int _ _))
theorem oPow {a b : Int} (h1 : 1 ≤ b) (h2 : 2 ≤ a) (h3 : ¬ Builtin.Int.intTooBig (((Builtin.Int.intBits a : Nat) : Int) * b) = true) (q : Q (.int (a ^ b.toNat)) σ) : W2 c (binaryOp .Pow) (.int a) (.int b) ρ σ Q:=fun τ s va vb R ha hb X hR => by
  obtain ⟨t,rfl⟩:=sInt X ha; obtain ⟨u,rfl⟩:=sInt X hb
  exact AutoIntOps.pow_4 (by exact Int.le_of_lt (by assumption)) (by simp; exact Int.ne_of_gt (by assumption)) (by simp; omega) (by simp; omega) h3 (hR _ _ _ _ q (X.toks.hold fun Z => .int _ _))
theorem oAnd {a b : Int} (q : Q (.int (Builtin.bitAnd a b)) σ) : W2 c (binaryOp .BitAnd) (.int a) (.int b) ρ σ Q:=fun τ s va vb R ha hb X hR => by
  obtain ⟨t,rfl⟩:=sInt X ha; obtain ⟨u,rfl⟩:=sInt X hb
  exact and_int (hR _ _ _ _ q (X.toks.hold fun Z => .int _ _))
theorem oOr {a b : Int} (q : Q (.int (Builtin.bitOr a b)) σ) : W2 c (binaryOp .BitOr) (.int a) (.int b) ρ σ Q:=fun τ s va vb R ha hb X hR => by
  obtain ⟨t,rfl⟩:=sInt X ha; obtain ⟨u,rfl⟩:=sInt X hb
  exact or_int (hR _ _ _ _ q (X.toks.hold fun Z => .int _ _))
theorem oXor {a b : Int} (q : Q (.int (Builtin.bitXor a b)) σ) : W2 c (binaryOp .BitXor) (.int a) (.int b) ρ σ Q:=fun τ s va vb R ha hb X hR => by
  obtain ⟨t,rfl⟩:=sInt X ha; obtain ⟨u,rfl⟩:=sInt X hb
  exact xor_int (hR _ _ _ _ q (X.toks.hold fun Z => .int _ _))
theorem oNeg {a : Int} (q : Q (.int (-a)) σ) : W1 c (unaryOp .USub) (.int a) ρ σ Q:=fun τ s va R ha X hR => by
  obtain ⟨t,rfl⟩:=sInt X ha
  exact PyProof.Rows.neg_int (hR _ _ _ _ q (X.toks.hold fun Z => .int _ _))
theorem oLt {a b : Int} (q : Q (.bool (decide (a < b))) σ) : W2 c (compareOp .Lt) (.int a) (.int b) ρ σ Q:=fun τ s va vb R ha hb X hR => by
  obtain ⟨t,rfl⟩:=sInt X ha; obtain ⟨u,rfl⟩:=sInt X hb
  exact lt_int (hR _ _ _ _ q (X.hold fun Z => .bool _))
theorem oGt {a b : Int} (q : Q (.bool (decide (a > b))) σ) : W2 c (compareOp .Gt) (.int a) (.int b) ρ σ Q:=fun τ s va vb R ha hb X hR => by
  obtain ⟨t,rfl⟩:=sInt X ha; obtain ⟨u,rfl⟩:=sInt X hb
  exact gt_int (hR _ _ _ _ q (X.hold fun Z => .bool _))
theorem oLe {a b : Int} (q : Q (.bool (decide (a ≤ b))) σ) : W2 c (compareOp .LtE) (.int a) (.int b) ρ σ Q:=fun τ s va vb R ha hb X hR => by
  obtain ⟨t,rfl⟩:=sInt X ha; obtain ⟨u,rfl⟩:=sInt X hb
  exact le_int (hR _ _ _ _ q (X.hold fun Z => .bool _))
theorem oGe {a b : Int} (q : Q (.bool (decide (a ≥ b))) σ) : W2 c (compareOp .GtE) (.int a) (.int b) ρ σ Q:=fun τ s va vb R ha hb X hR => by
  obtain ⟨t,rfl⟩:=sInt X ha; obtain ⟨u,rfl⟩:=sInt X hb
  exact ge_int (hR _ _ _ _ q (X.hold fun Z => .bool _))

theorem shaped_room (X : St c ρ σ τ s) : c.A.units + 64 < cLine:=by
  have:=X.units
  show _ < 9900
  omega

theorem oEqInt {a b : Int} (q : Q (.bool (a == b)) σ) : W2 c (compareOp .Eq) (.int a) (.int b) ρ σ Q:=fun τ s va vb R ha hb X hR => by
  obtain ⟨t,rfl⟩:=sInt X ha; obtain ⟨u,rfl⟩:=sInt X hb
  exact eq_int (hR _ _ _ _ q (X.hold fun Z => .bool _))
theorem oNeInt {a b : Int} (q : Q (.bool (a != b)) σ) : W2 c (compareOp .NotEq) (.int a) (.int b) ρ σ Q:=fun τ s va vb R ha hb X hR => by
  obtain ⟨t,rfl⟩:=sInt X ha; obtain ⟨u,rfl⟩:=sInt X hb
  exact ne_int (hR _ _ _ _ q (X.hold fun Z => .bool _))
theorem oEqBool {a b : Bool} (q : Q (.bool (a == b)) σ) : W2 c (compareOp .Eq) (.bool a) (.bool b) ρ σ Q:=fun τ s va vb R ha hb X hR => by
  obtain rfl:=sBool X ha; obtain rfl:=sBool X hb
  exact eq_bool (hR _ _ _ _ q (X.hold fun Z => .bool _))
theorem oEqStr {a b : Str} (q : Q (.bool (a == b)) σ) : W2 c (compareOp .Eq) (.str a) (.str b) ρ σ Q:=fun τ s va vb R ha hb X hR => by
  obtain ⟨t,rfl⟩:=sStr X ha; obtain ⟨u,rfl⟩:=sStr X hb
  exact eq_str (hR _ _ _ _ q (X.hold fun Z => .bool _))
theorem oNeStr {a b : Str} (q : Q (.bool (a != b)) σ) : W2 c (compareOp .NotEq) (.str a) (.str b) ρ σ Q:=fun τ s va vb R ha hb X hR => by
  obtain ⟨t,rfl⟩:=sStr X ha; obtain ⟨u,rfl⟩:=sStr X hb
  exact ne_str (hR _ _ _ _ q (X.hold fun Z => .bool _))

noncomputable def V.isNone : V → Option Bool
  | .none => some true
  | .raw (.ref _) => some false
  | .raw _ => Option.none
  | _ => some false
theorem VRel.noneIs {prog : Program} {w : World} {P : Addr → Obj → Prop} {v : Value} {d : V} (r : VRel prog w P v d) {b : Bool} (e : d.isNone = some b) : PySem.plainIs v .none = true ∧ (v == .none) = b:=by
  revert b
  exact VRel.rec (motive_1:=fun v d Z => ∀ {b : Bool},d.isNone = some b → PySem.plainIs v .none = true ∧ (v == .none) = b) (motive_2:=fun Z Z Z => True) (motive_3:=fun Z Z Z => True) (motive_4:=fun Z Z Z => True) (motive_5:=fun Z Z Z => True)
    (fun e => ⟨rfl,Option.some.inj e⟩) (fun Z Z e => ⟨rfl,Option.some.inj e⟩) (fun Z Z Z e => ⟨rfl,Option.some.inj e⟩) (fun Z Z Z e => ⟨rfl,Option.some.inj e⟩)
    (fun v b e => by cases v with
      | ref a => exact ⟨rfl,Option.some.inj e⟩
      | _ => exact nomatch e)
    (fun Z Z Z Z e => ⟨rfl,Option.some.inj e⟩) (fun Z Z Z Z Z Z e => ⟨rfl,Option.some.inj e⟩) (fun Z Z Z Z Z Z e => ⟨rfl,Option.some.inj e⟩) (fun Z Z Z Z Z Z e => ⟨rfl,Option.some.inj e⟩) (fun Z Z Z Z Z Z e => ⟨rfl,Option.some.inj e⟩) (fun Z Z e => ⟨rfl,Option.some.inj e⟩) (fun Z Z e => ⟨rfl,Option.some.inj e⟩)
    trivial (fun Z Z Z Z => trivial) trivial (fun Z Z Z Z => trivial) trivial (fun Z Z Z Z => trivial) trivial (fun Z Z Z Z => trivial) r
theorem oIs {a : V} {b : Bool} (e : a.isNone = some b) (q : Q (.bool b) σ) : W2 c (compareOp .Is) a .none ρ σ Q:=fun τ s va vb R ha hb X hR => by
  obtain rfl:=sNone X hb
  obtain ⟨fz,r,_⟩:=X.rel ha
  obtain ⟨h1,h2⟩:=r.noneIs e
  exact wpAny_is_plain h1 (by rw [h2]; exact hR _ _ _ _ q (X.hold fun Z => .bool _))
theorem oIsNot {a : V} {b : Bool} (e : a.isNone = some b) (q : Q (.bool !b) σ) : W2 c (compareOp .IsNot) a .none ρ σ Q:=fun τ s va vb R ha hb X hR => by
  obtain rfl:=sNone X hb
  obtain ⟨fz,r,_⟩:=X.rel ha
  obtain ⟨h1,h2⟩:=r.noneIs e
  exact wpAny_isNot_plain h1 (by rw [h2]; exact hR _ _ _ _ q (X.hold fun Z => .bool _))

variable {QB : Bool → Sto → Prop}
theorem tBool {b : Bool} (q : QB b σ) : W1B c truthy (.bool b) ρ σ QB:=fun τ s va R ha X hR => by
  obtain rfl:=sBool X ha
  exact wpAny_truthy_bool (hR _ _ _ q X)
theorem tInt {a : Int} (q : QB (a != 0) σ) : W1B c truthy (.int a) ρ σ QB:=fun τ s va R ha X hR => by
  obtain ⟨t,rfl⟩:=sInt X ha
  exact truthy_int (hR _ _ _ q X)
theorem tNone (q : QB false σ) : W1B c truthy .none ρ σ QB:=fun τ s va R ha X hR => by
  obtain rfl:=sNone X ha
  exact truthy_none (hR _ _ _ q X)
theorem oNot {a : V} (h : W1B c truthy a ρ σ fun b σ' => Q (.bool !b) σ') : W1 c (unaryOp .Not) a ρ σ Q:=fun τ s va R ha X hR =>
  not_of (h τ s va _ ha X fun b σ' s' q X' => hR _ _ _ _ q (X'.hold fun Z => .bool _))

theorem bPlain {e : Expr} {whole : Sem Value} (hw : isTrue e c.env whole = (do let v ← whole; standAt e.pos; holding [v] (truthy v))) (h : WT c whole ρ σ fun a σ₁ => W1B c truthy a ρ σ₁ QB) : WB c (isTrue e c.env whole) ρ σ QB:=fun τ s R X hR =>
  isTrue_plain (h τ s _ X fun va a σ₁ s₁ h₁ X₁ => h₁ _ s₁ va R (.head _) X₁ fun b σ' s' q X' => hR b σ' s' q X'.tl) hw
theorem bCmp {l r : Expr} {op : CmpOp} {pos : Pos} {whole : Sem Value} (hm : behindInMarks op r = false) (h : WT c (eval l c.env) ρ σ fun a σ₁ => WT c (eval r c.env) ρ σ₁ fun b σ₂ => W2 c (compareOp op) a b ρ σ₂ fun d σ₃ => W1B c truthy d ρ σ₃ QB) :
    WB c (isTrue (.Compare l [op] [r] pos) c.env whole) ρ σ QB:=fun τ s R X hR =>
  wpAny_isTrue_Compare1 (hm:=hm) (h τ s _ X fun va a σ₁ s₁ h₁ X₁ => h₁ _ s₁ _ X₁ fun vb b σ₂ s₂ h₂ X₂ => h₂ _ s₂ va vb _ (.tail _ (.head _)) (.head _) X₂ fun v d σ₃ s₃ h₃ X₃ =>
    h₃ _ s₃ v R (.head _) X₃ fun b σ' s' q X' => hR b σ' s' q X'.tl.tl.tl)
theorem bNot {e : Expr} {pos : Pos} {whole : Sem Value} (h : WB c (isTrue e c.env (eval e c.env)) ρ σ fun b σ' => QB (!b) σ') : WB c (isTrue (.UnaryOp .Not e pos) c.env whole) ρ σ QB:=fun τ s R X hR =>
  isTrue_not (h τ s _ X fun b σ' s' q X' => hR _ _ _ q X')
theorem bAll {op : BoolOp} {es : List Expr} {pos : Pos} {whole : Sem Value} (h : WB c (allTrue op es c.env) ρ σ QB) : WB c (isTrue (.BoolOp op es pos) c.env whole) ρ σ QB:=fun τ s R X hR =>
  wpAny_isTrue_BoolOp (h τ s _ X hR)
theorem bAndNil (q : QB true σ) : WB c (allTrue .And [] c.env) ρ σ QB:=fun τ s R X hR => wpAny_allTrue_And_nil (hR _ _ _ q X)
theorem bOrNil (q : QB false σ) : WB c (allTrue .Or [] c.env) ρ σ QB:=fun τ s R X hR => wpAny_allTrue_Or_nil (hR _ _ _ q X)
theorem bAnd {e : Expr} {es : List Expr} (h : WB c (isTrue e c.env (eval e c.env)) ρ σ fun b σ₁ => (b = true → WB c (allTrue .And es c.env) ρ σ₁ QB) ∧ (b = false → QB false σ₁)) : WB c (allTrue .And (e :: es) c.env) ρ σ QB:=fun τ s R X hR =>
  wpAny_allTrue_And_cons (h τ s _ X fun b σ' s' q X' => by
    cases b with
    | true => exact q.1 rfl _ _ _ X' hR
    | false => exact hR _ _ _ (q.2 rfl) X')
theorem bOr {e : Expr} {es : List Expr} (h : WB c (isTrue e c.env (eval e c.env)) ρ σ fun b σ₁ => (b = true → QB true σ₁) ∧ (b = false → WB c (allTrue .Or es c.env) ρ σ₁ QB)) : WB c (allTrue .Or (e :: es) c.env) ρ σ QB:=fun τ s R X hR =>
  wpAny_allTrue_Or_cons (h τ s _ X fun b σ' s' q X' => by
    cases b with
    | true => exact hR _ _ _ (q.1 rfl) X'
    | false => exact q.2 rfl _ _ _ X' hR)
theorem wIf {t a b : Expr} {pos : Pos} (h : WB c (isTrue t c.env (eval t c.env)) ρ σ fun k σ₁ => (k = true → WT c (eval a c.env) ρ σ₁ Q) ∧ (k = false → WT c (eval b c.env) ρ σ₁ Q)) : WT c (eval (.IfExp t a b pos) c.env) ρ σ Q:=fun τ s R X hR =>
  wpAny_IfExp (h τ s _ X fun k σ' s' q X' => by
    cases k with
    | true => exact q.1 rfl _ _ _ X' hR
    | false => exact q.2 rfl _ _ _ X' hR)
theorem wAnd2 {x y : Expr} {pos : Pos} (h : WT c (eval x c.env) ρ σ fun a σ₁ => W1B c truthy a ρ σ₁ fun k σ₂ => (k = true → WT c (eval y c.env) ρ σ₂ Q) ∧ (k = false → Q a σ₂)) : WT c (eval (.BoolOp .And [x,y] pos) c.env) ρ σ Q:=fun τ s R X hR =>
  wpAny_And2 (h τ s _ X fun va a σ₁ s₁ h₁ X₁ => h₁ _ s₁ va _ (.head _) X₁ fun k σ₂ s₂ h₂ X₂ => by
    cases k with
    | true => exact h₂.1 rfl _ _ _ X₂ fun v d σ' s' q X' => hR v d σ' s' q X'.r1
    | false => exact hR _ _ _ _ (h₂.2 rfl) X₂)
theorem wOr2 {x y : Expr} {pos : Pos} (h : WT c (eval x c.env) ρ σ fun a σ₁ => W1B c truthy a ρ σ₁ fun k σ₂ => (k = true → Q a σ₂) ∧ (k = false → WT c (eval y c.env) ρ σ₂ Q)) : WT c (eval (.BoolOp .Or [x,y] pos) c.env) ρ σ Q:=fun τ s R X hR =>
  wpAny_Or2 (h τ s _ X fun va a σ₁ s₁ h₁ X₁ => h₁ _ s₁ va _ (.head _) X₁ fun k σ₂ s₂ h₂ X₂ => by
    cases k with
    | true => exact hR _ _ _ _ (h₂.1 rfl) X₂
    | false => exact h₂.2 rfl _ _ _ X₂ fun v d σ' s' q X' => hR v d σ' s' q X'.r1)
end
end
end Mine
end
section
set_option tactic.hygienic false
namespace Mine
noncomputable section
noncomputable abbrev Cx.pins (c : Cx) (ps : Led) : Cx:={ c with rest:=ps ++ c.rest }
noncomputable def NoCells (ps : Led) : Prop:=∀ p ∈ ps,∀ v,p.2.data ≠ .cell v
theorem Cx.Ok.pins {c : Cx} (o : c.Ok) (ps : Led) : (c.pins ps).Ok:=⟨o.kb,o.T,o.B,o.fr,o.ff,o.fk,o.ek,o.eg,o.eb,o.hd,o.depth,o.units,o.same,o.cells⟩
theorem Cx.Ok.unpins {c : Cx} {ps : Led} (o : (c.pins ps).Ok) : c.Ok:=⟨o.kb,o.T,o.B,o.fr,o.ff,o.fk,o.ek,o.eg,o.eb,o.hd,o.depth,o.units,o.same,o.cells⟩

section
variable {c : Cx} {ρ : Vars} {σ : Sto} {τ : List (Value × V)} {s : Shared} {m : Str → Option Value} {raw cl fz : Led} {ps qs : Led} {x : Str} {v : Value}

theorem Look.repin (h : Look (c.pins ps) m cl x v) (hp : ∀ p ∈ ps,(∃ w,p.2.data = .cell w) → p ∈ qs) : Look (c.pins qs) m cl x v:=
  ⟨h.1,LookK.put (L:=cl ++ (ps ++ c.rest)) (L':=cl ++ (qs ++ c.rest)) h.2 id fun a o Z h3 q => (List.mem_append.mp q).elim (List.mem_append_left _) fun q => List.mem_append_right _
    ((List.mem_append.mp q).elim (fun q => List.mem_append_left _ (hp _ q ⟨_,h3⟩)) (List.mem_append_right _))⟩

theorem Rel.repin (r : Rel (c.pins ps) ρ σ τ m raw cl fz) (hp : ∀ p ∈ ps,(∃ w,p.2.data = .cell w) → p ∈ qs) : Rel (c.pins qs) ρ σ τ m raw cl fz where
  sto:=r.sto
  own:=fun x d q => let ⟨v,a,b⟩:=r.own x d q; ⟨v,a.repin hp,b⟩
  ro:=fun x d q => let ⟨v,a,b⟩:=r.ro x d q; ⟨v,a.repin hp,b⟩
  mine:=r.mine
  nodup:=r.nodup
  tmp:=r.tmp
theorem noCells_sub (h : NoCells ps) : ∀ p ∈ ps,(∃ w,p.2.data = .cell w) → p ∈ qs:=fun p hp ⟨w,e⟩ => absurd e (h p hp w)

theorem Lay.repin {h h' : Heap} (l : Lay (c.pins ps) m raw cl fz h) (fr : Fr c.h₀ c.fenv.locals h' (c.comp.getD m)) (z : Stand c.h₀ c.fenv.locals h' (raw ++ (cl ++ ((qs ++ c.rest) ++ fz)))) : Lay (c.pins qs) m raw cl fz h':=⟨fr,z.nw,z.nd,l.cm⟩
theorem Lay.standP {h : Heap} (l : Lay (c.pins ps) m raw cl fz h) : Stand c.h₀ c.fenv.locals h (raw ++ (cl ++ ((ps ++ c.rest) ++ fz))):=⟨l.nw,l.nd⟩

theorem St.pin1 {o : Obj} {t : Nat} (X : St c ρ σ τ s) (hf : o.isFreed = false:=by rfl) :
    St (c.pins [(s.heap.objs.size,o)]) ρ σ τ { s with heap:=s.heap.push o,toks:=t }:=by
  obtain ⟨ok,g,os,m,raw,cl,fz,r,l⟩:=X
  exact ⟨ok.pins _,g,os,m,raw,cl,fz,Rel.repin (ps:=[]) r (fun p hp => nomatch hp),Lay.repin (ps:=[]) l (l.fr.push o) ((l.pushS o hf).perm (permP (p₁:=[]) (p₂:=[])))⟩

theorem St.pinned {a : Addr} {o : Obj} (X : St (c.pins ps) ρ σ τ s) (h : (a,o) ∈ ps) : s.heap.get? a = some o:=by
  obtain ⟨ok,g,os,m,raw,cl,fz,r,l⟩:=X
  refine (l.nw (a,o) ?_).1
  exact List.mem_append_right raw (List.mem_append_right cl (List.mem_append_left fz (List.mem_append_left c.rest h)))

theorem mem_keep {p₁ p₂ : Led} {a : Addr} {o : Obj} {q : Led} (hn : ∀ v,o.data ≠ .cell v) : ∀ p ∈ p₁ ++ (a,o) :: p₂,(∃ w,p.2.data = .cell w) → p ∈ p₁ ++ (q ++ p₂):=fun p hp ⟨w,e⟩ =>
  (List.mem_append.mp hp).elim (List.mem_append_left _) fun h => (List.mem_cons.mp h).elim (fun h => absurd (by subst h; exact e) (hn w)) fun h => List.mem_append_right _ (List.mem_append_right _ h)
theorem St.repin {p₁ p₂ : Led} {a : Addr} {o o' : Obj} {h' : Heap} {t : Nat} (X : St (c.pins (p₁ ++ (a,o) :: p₂)) ρ σ τ s) (hn : ∀ v,o.data ≠ .cell v) (hs : Heap.SameBut a s.heap h') (ho : h'.get? a = some o') :
    St (c.pins (p₁ ++ (a,o') :: p₂)) ρ σ τ { s with heap:=h',toks:=t }:=by
  obtain ⟨ok,g,os,m,raw,cl,fz,r,l⟩:=X
  have z:=l.standP.perm permP.symm
  have y:=z.nw _ (.head _)
  exact ⟨ok.unpins.pins _,g,os,m,raw,cl,fz,r.repin (mem_keep (q:=[(a,o')]) hn),l.repin (Fr.change (show Fr c.h₀ c.fenv.locals s.heap (c.comp.getD m) from l.fr) hs y.2.1 y.2.2) ((z.set hs ho).perm permP)⟩

theorem St.unpin1 {p₁ p₂ : Led} {a : Addr} {o : Obj} {h' : Heap} {t : Nat} (X : St (c.pins (p₁ ++ (a,o) :: p₂)) ρ σ τ s) (hn : ∀ v,o.data ≠ .cell v) (hs : Heap.ExtBut a s.heap h') :
    St (c.pins (p₁ ++ p₂)) ρ σ τ { s with heap:=h',toks:=t }:=by
  obtain ⟨ok,g,os,m,raw,cl,fz,r,l⟩:=X
  have z:=l.standP.perm permP.symm
  have y:=z.nw _ (.head _)
  have nd:=List.nodup_cons.mp z.nd
  refine ⟨ok.unpins.pins _,g,os,m,raw,cl,fz,r.repin (mem_keep (q:=[]) hn),l.repin ?_ ⟨fun p hp => ?_,nd.2⟩⟩
  · obtain ⟨⟨oL,es,ep,hL,hr⟩,hk,ha⟩:=(show Fr c.h₀ c.fenv.locals s.heap (c.comp.getD m) from l.fr)
    exact ⟨⟨oL,es,ep,hs _ _ (Ne.symm y.2.1) hL,hr⟩,fun b ob e => hs b ob (by rintro rfl; rw [y.2.2] at e; cases e) (hk b ob e),ha⟩
  · have w:=z.nw p (.tail _ hp)
    exact ⟨hs _ _ (fun e => nd.1 (List.mem_map.mpr ⟨p,hp,e⟩)) w.1,w.2⟩
end

section
variable {c : Cx} {ρ : Vars} {σ : Sto} {QX : Fl → Vars → Sto → Prop}

noncomputable def Then (c : Cx) (rest : List Stmt) (Q : Fl → Vars → Sto → Prop) : Fl → Vars → Sto → Prop
  | .next,ρ,σ => WX c (execs rest c.env) ρ σ Q
  | f,ρ,σ => Q f ρ σ

theorem xNil (q : QX .next ρ σ) : WX c (execs [] c.env) ρ σ QX:=fun τ s R X hR => wpAny_execs_nil (hR _ _ _ _ _ _ q .next X)
theorem xCons {st : Stmt} {rest : List Stmt} (h : WX c (exec st c.env) ρ σ (Then c rest QX)) : WX c (execs (st :: rest) c.env) ρ σ QX:=fun τ s R X hR =>
  wpAny_execs_cons (h τ s _ X fun f fl ρ' σ' s' τ' q fr X' => by
    cases fr with
    | next => exact q _ _ _ X' hR
    | brk => exact hR _ _ _ _ _ _ q .brk X'
    | cont => exact hR _ _ _ _ _ _ q .cont X'
    | ret v d => exact hR _ _ _ _ _ _ q (.ret v d) X')
theorem xRet {e : Expr} {pos : Pos} (h : WT c (eval e c.env) ρ σ fun d σ₁ => QX (.ret d) ρ σ₁) : WX c (exec (.Return (some e) pos) c.env) ρ σ QX:=fun τ s R X hR =>
  wpAny_Return_some (h τ s _ X fun v d σ' s' q X' => hR _ _ _ _ _ _ q (.ret v d) X')
theorem xPass {pos : Pos} (q : QX .next ρ σ) : WX c (exec (.Pass pos) c.env) ρ σ QX:=fun τ s R X hR => wpAny_Pass (hR _ _ _ _ _ _ q .next X)
theorem xExpr {e : Expr} {pos : Pos} (hi : interactive c.env = false) (hs : swapsWith e none pos.line c.env = pure false) (h : WT c (eval e c.env) ρ σ fun Z σ₁ => QX .next ρ σ₁) : WX c (exec (.Expr e pos) c.env) ρ σ QX:=fun τ s R X hR =>
  wpAny_Expr_any (h τ s _ X fun v d σ' s' q X' => hR _ _ _ _ _ _ q .next X'.tl) hi hs
theorem xIf {t : Expr} {body orelse : List Stmt} {pos : Pos} (h : WB c (isTrue t c.env (eval t c.env)) ρ σ fun b σ₁ => (b = true → WX c (execs body c.env) ρ σ₁ QX) ∧ (b = false → WX c (execs orelse c.env) ρ σ₁ QX)) :
    WX c (exec (.If t body orelse pos) c.env) ρ σ QX:=fun τ s R X hR =>
  wpAny_If (h τ s _ X fun b σ' s' q X' => by
    cases b with
    | true => exact q.1 rfl _ _ _ X' hR
    | false => exact q.2 rfl _ _ _ X' hR)
theorem xSet {x : Str} {value : Expr} {p pos : Pos} (hs : swapsWith value (some (.Name x p)) pos.line c.env = pure false) (h : WT c (eval value c.env) ρ σ fun d σ₁ => ∃ ρ',Puts ρ x d ρ' ∧ QX .next ρ' σ₁) :
    WX c (exec (.Assign [.Name x p] value pos) c.env) ρ σ QX:=fun τ s R X hR =>
  wpAny_Assign_Name (hs:=hs) (h τ s _ X fun v d σ' s' q X' => by
    obtain ⟨ρ',hp,q⟩:=q
    exact X'.store (.head _) hp fun s'' X'' => hR _ _ _ _ _ _ q .next X''.tl)

variable {QU : Vars → Sto → Prop}
theorem uName {x : Str} {pos : Pos} {d : V} {ρ' : Vars} (hp : Puts ρ x d ρ') (q : QU ρ' σ) : WU c (assign (.Name x pos) c.env) d ρ σ QU:=fun τ s va R ha X hR =>
  wpAny_assign_Name (X.store ha hp fun s' X' => hR _ _ _ q X')
noncomputable def WUs (c : Cx) : List (Value → Sem Unit) → List V → Vars → Sto → (Vars → Sto → Prop) → Prop
  | [],[],ρ,σ,Q => Q ρ σ
  | t :: ts,d :: ds,ρ,σ,Q => WU c t d ρ σ fun ρ₁ σ₁ => WUs c ts ds ρ₁ σ₁ Q
  | _,_,_,_,_ => False
theorem WUs.run : ∀ {ts : List (Value → Sem Unit)} {ds : List V} {ρ : Vars} {σ : Sto} {Q : Vars → Sto → Prop} {vs : List Value} {τ : List (Value × V)} {s : Shared} {R : Unit → Shared → Prop},WUs c ts ds ρ σ Q → vs.length = ds.length →
    (∀ p ∈ vs.zip ds,p ∈ τ) → St c ρ σ τ s → (∀ ρ' σ' s',Q ρ' σ' → St c ρ' σ' τ s' → R () s') → wpAny c.M c.A (assignInOrder ts vs) R Nope s
  | [],[],_,_,_,vs,_,_,_,h,hl,_,X,hR => by
    cases vs with
    | nil => exact wpAny_assignInOrder_none (hR _ _ _ h X)
    | cons _ _ => cases hl
  | t :: ts,d :: ds,_,_,_,vs,_,_,_,h,hl,hm,X,hR => by
    cases vs with
    | nil => cases hl
    | cons v vs => exact wpAny_assignInOrder_more (h _ _ v _ (hm (v,d) (.head _)) X fun ρ' σ' s' q X' => WUs.run q (Nat.succ.inj hl) (fun p hp => hm p (.tail _ hp)) X' hR)
  | [],_ :: _,_,_,_,_,_,_,_,h,_,_,_,_ => h.elim
  | _ :: _,[],_,_,_,_,_,_,_,h,_,_,_,_ => h.elim

inductive Items (c : Cx) (ρ : Vars) (σ : Sto) (τ : List (Value × V)) (s : Shared) (va : Value) (ds : List V) (T : Heap → Addr → List Value → Prop) : Prop
  | mk (a : Addr) (vs : List Value) (e : va = .ref a) (h : T s.heap a vs) (hl : vs.length = ds.length) (get : ∀ (i : Nat) (d : V),ds[i]? = some d → ∃ v : Value,vs[i]? = some v ∧ St c ρ σ ((v,d) :: τ) s)
    (all : ∀ (h' : Heap) (t : Nat),(∀ b o,s.heap.get? b = some o → h'.get? b = some o) → St c ρ σ (vs.zip ds ++ τ) { s with heap:=h',toks:=t }) : Items c ρ σ τ s va ds T
theorem St.seq {τ : List (Value × V)} {s : Shared} {va : Value} {ds : List V} {T : Heap → Addr → List Value → Prop} (X : St c ρ σ τ s)
    (h : ∀ fz,(∀ v d,(v,d) ∈ τ → c.VR fz v d) → (∀ a o,c.Knows fz a o → s.heap.get? a = some o) → ∃ a vs,va = .ref a ∧ T s.heap a vs ∧ VRels c.prog c.w (c.Knows fz) vs ds) : Items c ρ σ τ s va ds T:=by
  obtain ⟨ok,g,os,m,raw,cl,fz,r,l⟩:=X
  obtain ⟨a,vs,e,h1,h3⟩:=h fz r.tmp (l.knows ok)
  refine ⟨a,vs,e,h1,h3.length,fun i d hd => ?_,fun h' t hk => ⟨ok,g,os,m,raw,cl,fz,⟨r.sto,r.own,r.ro,r.mine,r.nodup,fun v e q => (List.mem_append.mp q).elim h3.mem_zip (r.tmp _ _)⟩,l.grow hk⟩⟩
  obtain ⟨v,e1,e2⟩:=h3.get hd
  exact ⟨v,e1,ok,g,os,m,raw,cl,fz,r.held e2,l⟩
theorem St.seqTup {τ : List (Value × V)} {s : Shared} {va : Value} {ds : List V} (X : St c ρ σ τ s) (ha : (va,V.tup ds) ∈ τ) : Items c ρ σ τ s va ds fun h a vs => ∃ n,h.get? a = some (tupO vs n):=
  X.seq fun fz r k => by obtain ⟨a,vs,n,e,p,h⟩:=(r _ _ ha).inv; exact ⟨a,vs,e,⟨n,k _ _ p⟩,h⟩
theorem St.seqList {τ : List (Value × V)} {s : Shared} {va : Value} {ds : List V} (X : St c ρ σ τ s) (ha : (va,V.list ds) ∈ τ) : Items c ρ σ τ s va ds fun h a vs => h.IsList a vs.toArray:=
  X.seq fun fz r k => by obtain ⟨a,o,vs,n,e,p,h1,h2,h⟩:=(r _ _ ha).inv; exact ⟨a,vs,e,⟨_,k _ _ p,h1,_,h2⟩,h⟩

theorem St.rappl {τ' τ : List (Value × V)} {s : Shared} (x : St c ρ σ (τ' ++ τ) s) : St c ρ σ τ s:=x.sub fun Z h => List.mem_append_right _ h

theorem isTuple_of {h : Heap} {a : Addr} {vs : List Value} (x : ∃ n,h.get? a = some (tupO vs n)) : h.IsTuple a vs.toArray:=let ⟨n,e⟩:=x; ⟨_,e,rfl,n,rfl⟩
theorem isList_of {h : Heap} {a : Addr} {vs : List Value} (x : ∃ n,h.get? a = some (lstO vs n)) : h.IsList a vs.toArray:=let ⟨n,e⟩:=x; ⟨_,e,rfl,n,rfl⟩
theorem uTuple {elts : List Expr} {k : Nat} {pos : Pos} {d : V} {ds : List V} (hd : d = .tup ds ∨ d = .list ds) (hn : (assignEach elts c.env).length = ds.length) (hst : (assignEach elts c.env).findIdx? (·.1) = none)
    (h : WUs c ((assignEach elts c.env).map (·.2)) ds ρ σ QU) : WU c (assign (.Tuple elts k pos) c.env) d ρ σ QU:=fun τ s va R ha X hR => by
  have go : ∀ {vs : List Value},vs.length = ds.length → (∀ (h' : Heap) (t : Nat),(∀ b o,s.heap.get? b = some o → h'.get? b = some o) → St c ρ σ (vs.zip ds ++ τ) { s with heap:=h',toks:=t }) → ∀ h',Heap.ExtBut s.heap.objs.size s.heap h' → wpAny c.M c.A (assignInOrder ((assignEach elts c.env).map (·.2)) vs.toArray.toList) R Nope { s with heap:=h' }:=fun hl k h' he =>
    h.run hl (fun p hp => List.mem_append_left τ hp) (k h' s.toks fun b o e => he b o (Nat.ne_of_lt (Heap.lt_size e)) e) fun ρ' σ' s' q X' => hR _ _ _ q X'.rappl
  rcases hd with rfl | rfl
  · obtain ⟨a,vs,rfl,h1,hl,_,k⟩:=X.seqTup ha
    exact wpAny_assign_Tuple X.ok.hd (isTuple_of h1) (hn.trans hl.symm) hst (go hl k)
  · obtain ⟨a,vs,rfl,h1,hl,_,k⟩:=X.seqList ha
    rw [arm_assign_Tuple]
    refine wpAny_bind (wpAny_standAt ?_)
    unfold unpack
    rw [show (assignEach elts c.env).length = vs.toArray.size from hn.trans hl.symm,hst]
    exact wpAny_bind (wpAny_holding (kun_itemsOf X.ok.hd h1 (go hl k)))

theorem xTuple {elts : List Expr} {k : Nat} {tpos pos : Pos} {value : Expr} (hs : swapsWithSole [.Tuple elts k tpos] value pos.line c.env = pure false) (hw : swappedStores [.Tuple elts k tpos] value c.env = pure none)
    (h : WT c (eval value c.env) ρ σ fun d σ₁ => WU c (assign (.Tuple elts k tpos) c.env) d ρ σ₁ fun ρ' σ' => QX .next ρ' σ') : WX c (exec (.Assign [.Tuple elts k tpos] value pos) c.env) ρ σ QX:=fun τ s R X hR =>
  Assign_Tuple (hs:=hs) (hw:=hw) (h τ s _ X fun v d σ' s' q X' => q _ s' v _ (.head _) X' fun ρ'' σ'' s'' q' X'' => hR _ _ _ _ _ _ q' .next X''.tl)
theorem reverse_zip {α β : Type} : ∀ {l : List α} {r : List β},l.length = r.length → (l.zip r).reverse = l.reverse.zip r.reverse
  | [],[],_ => rfl
  | a :: l,b :: r,h => by
    have hl : l.length = r.length:=Nat.succ.inj h
    rw [List.zip_cons_cons,List.reverse_cons,reverse_zip hl,List.reverse_cons,List.reverse_cons,List.zip_append (by simp [hl])]
    rfl
  | [],_ :: _,h => by cases h
  | _ :: _,[],h => by cases h
theorem uBind {x : Str} {d : V} {ρ' : Vars} (hp : Puts ρ x d ρ') (q : QU ρ' σ) : WU c (fun v => bindName c.env x v) d ρ σ QU:=fun τ s va R ha X hR =>
  wpAny_bindName (X.store ha hp fun s' X' => hR _ _ _ q X')
theorem xTupleS {elts : List Expr} {k : Nat} {tpos pos : Pos} {value : Expr} {names : List Str} (hs : swapsWithSole [.Tuple elts k tpos] value pos.line c.env = pure false) (hw : swappedStores [.Tuple elts k tpos] value c.env = pure (some names))
    (h : WT c (eval value c.env) ρ σ fun d σ₁ => ∃ ds,d = .tup ds ∧ names.length = ds.length ∧ WUs c (names.reverse.map fun n v => bindName c.env n v) ds.reverse ρ σ₁ fun ρ' σ' => QX .next ρ' σ') :
    WX c (exec (.Assign [.Tuple elts k tpos] value pos) c.env) ρ σ QX:=fun τ s R X hR =>
  Assign_Tuple_swapped (hs:=hs) (hw:=hw) (h τ s _ X fun v d σ' s' q X' => by
    obtain ⟨ds,rfl,hn,q⟩:=q
    obtain ⟨a,vs,rfl,h1,hl,_,k⟩:=X'.seqTup (.head _)
    have e : names.length = vs.toArray.size:=hn.trans hl.symm
    rw [e]
    refine wpAny_unpackItems_tuple X'.ok.hd (isTuple_of h1) fun h' he => ?_
    have X2:=k h' s'.toks fun b o e => he b o (Nat.ne_of_lt (Heap.lt_size e)) e
    refine WUs.run q (by simp [hl]) (fun p hp => ?_) X2 fun ρ'' σ'' s'' q' X'' => hR _ _ _ _ _ _ q' .next X''.rappl.tl
    refine List.mem_append_left _ ?_
    have : (vs.toArray.toList.reverse.zip ds.reverse) = (vs.zip ds).reverse:=by
      exact (reverse_zip hl).symm
    rw [this] at hp
    exact List.mem_reverse.mp hp)
end
end
end Mine
end
section
set_option tactic.hygienic false
namespace Mine
noncomputable section
theorem nope {M : Model} {A : Around} {α : Type} {t : Sem α} {Q : α → Shared → Prop} {E : Value → Shared → Prop} {s : Shared} (h : wpAny M A t Q Nope s) : wpAny M A t Q E s:=
  wpAny_mono h (fun Z Z q => q) fun Z Z q => q.elim

noncomputable def rangeV (a b : Int) : List V:=(List.range (b - a).toNat).map fun i : Nat => V.int (a + i)
noncomputable def V.elems : V → Option (List V)
  | .tup ds => some ds
  | .list ds => some ds
  | .rng a b => if -1000000 ≤ a ∧ a ≤ 1000000 ∧ -1000000 ≤ b ∧ b ≤ 1000000 then some (rangeV a b) else Option.none
  | _ => Option.none

inductive ItSeq (src : Value) (n : String) (i : Nat) (o : Obj) : Prop
  | mk (t : Addr) (e : src = .ref t) (hc : o.cls = .type n) (hd : o.data = .fields #[.ref t,.int i 0]) : ItSeq src n i o
noncomputable def ItObj (src : Value) (d : V) (i : Nat) (o : Obj) : Prop:=match d with
  | .tup _ => ItSeq src "tuple_iterator" i o
  | .list _ => ItSeq src "list_iterator" i o
  | .rng a b => o = { cls:=.type "range_iterator",dict:=none,data:=.fields #[rawInt (a + i),rawInt (Builtin.Range.rangeSize a b 1 - i),rawInt 1],slots:=#[] }
  | _ => False
inductive ItAny (o : Obj) : Prop
  | mk (n : String) (vs : Array Value) (hc : o.cls = .type n) (hd : o.data = .fields vs) (hn : (["enumerate", "zip", "dict_itemiterator", "dict_reverseitemiterator", "odict_iterator", "itertools.zip_longest", "itertools.pairwise"].contains n) = false) : ItAny o
theorem ItObj.any {src : Value} {d : V} {i : Nat} {o : Obj} (h : ItObj src d i o) : ItAny o:=by
  cases d with
  | tup _ => obtain ⟨t,_,hc,hd⟩:=h; exact ⟨_,_,hc,hd,by decide +kernel⟩
  | list _ => obtain ⟨t,_,hc,hd⟩:=h; exact ⟨_,_,hc,hd,by decide +kernel⟩
  | rng a b => have e : o = _:=h; subst e; exact ⟨_,_,rfl,rfl,by decide +kernel⟩
  | _ => exact False.elim h
theorem ItObj.noCell {src : Value} {d : V} {i : Nat} {o : Obj} (h : ItObj src d i o) (v : Option Value) : o.data ≠ .cell v:=by
  obtain ⟨_,_,_,hd,_⟩:=h.any
  rw [hd]; exact fun e => nomatch e
theorem ItObj.cls {src : Value} {d : V} {i : Nat} {o : Obj} (h : ItObj src d i o) : ∃ n,o.cls = .type n ∧ (["enumerate", "zip", "dict_itemiterator", "dict_reverseitemiterator", "odict_iterator", "itertools.zip_longest", "itertools.pairwise"].contains n) = false:=
  let ⟨n,_,hc,_,hn⟩:=h.any; ⟨n,hc,hn⟩

theorem rangeSize_one (a b : Int) : Builtin.Range.rangeSize a b 1 = if a < b then b - a else 0:=by
  unfold Builtin.Range.rangeSize
  by_cases h : a < b
  · simp [h]
  · simp [h]
theorem range_small {a b : Int} (h : -1000000 ≤ a ∧ a ≤ 1000000 ∧ -1000000 ≤ b ∧ b ≤ 1000000) : Builtin.Range.small a b 1 = true:=
  small_one (Int.le_trans (by decide) h.1) (Int.lt_of_le_of_lt h.2.1 (by decide)) (Int.le_trans (by decide) h.2.2.1) (Int.lt_of_le_of_lt h.2.2.2 (by decide))

section
variable {c : Cx} {ρ : Vars} {σ : Sto} {τ : List (Value × V)} {s : Shared}

theorem St.rangeAt {va : Value} {a b : Int} (X : St c ρ σ τ s) (ha : (va,V.rng a b) ∈ τ) : ∃ r t u v,va = .ref r ∧ IsRange s.heap r a b 1 t u v:=by
  obtain ⟨fz,r,k⟩:=X.rel ha
  obtain ⟨r,t,u,v,e,p⟩:=r.inv
  exact ⟨r,t,u,v,e,k _ _ p⟩

theorem iterStart {va : Value} {d : V} {ds : List V} {R : Value → Shared → Prop} {E : Value → Shared → Prop} (X : St c ρ σ τ s) (ha : (va,d) ∈ τ) (hd : d.elems = some ds)
    (k : ∀ it o h' t,ItObj va d 0 o → h'.get? it = some o → St (c.pins [(it,o)]) ρ σ τ { s with heap:=h',toks:=t } → R (.ref it) { s with heap:=h',toks:=t }) : wpAny c.M c.A (pyIter va) R E s:=by
  cases d with
  | tup ds' =>
    obtain ⟨a,vs,rfl,h1,_,_⟩:=X.seqTup ha
    refine wpAny_pyIter_tuple (isTuple_of h1) (k _ _ _ _ ?_ (Heap.get?_push_size _ rfl) X.pin1)
    exact ⟨a,rfl,rfl,rfl⟩
  | list ds' =>
    obtain ⟨a,vs,rfl,h1,_,_⟩:=X.seqList ha
    refine wpAny_pyIter_list h1 (k _ _ _ _ ?_ (Heap.get?_push_size _ rfl) X.pin1)
    exact ⟨a,rfl,rfl,rfl⟩
  | rng a b =>
    obtain ⟨r,t,u,v,rfl,h1⟩:=X.rangeAt ha
    simp only [V.elems] at hd
    split at hd
    · rename_i hab
      refine wpAny_pyIter_range h1 (range_small hab) (k _ _ _ _ ?_ (Heap.get?_push_size _ rfl) X.pin1)
      show _ = _
      simp
    · cases hd
  | _ => cases hd

theorem rangeV_get {a b : Int} {i : Nat} {x : V} (h : (rangeV a b)[i]? = some x) : x = .int (a + i) ∧ (i : Int) < b - a:=by
  unfold rangeV at h
  rw [List.getElem?_map] at h
  obtain ⟨j,hj,rfl⟩:=Option.map_eq_some_iff.mp h
  obtain ⟨hl,e⟩:=List.getElem?_eq_some_iff.mp hj
  rw [List.getElem_range] at e
  subst e
  exact ⟨rfl,Int.lt_toNat.mp (by rwa [List.length_range] at hl)⟩

theorem iterNext {it : Addr} {o : Obj} {va : Value} {d x : V} {ds : List V} {i : Nat} {R : Option Value → Shared → Prop} {E : Value → Shared → Prop} (X : St (c.pins [(it,o)]) ρ σ τ s) (ha : (va,d) ∈ τ) (hd : d.elems = some ds) (hi : ItObj va d i o) (hx : ds[i]? = some x)
    (k : ∀ v o' h' t,ItObj va d (i + 1) o' → St (c.pins [(it,o')]) ρ σ ((v,x) :: τ) { s with heap:=h',toks:=t } → R (some v) { s with heap:=h',toks:=t }) : wpAny c.M c.A (pyNext (.ref it)) R E s:=by
  have ho:=X.pinned (List.Mem.head _)
  have hn:=hi.noCell
  cases d with
  | tup ds' =>
    cases hd
    obtain ⟨a,vs,e,h1,_,g⟩:=St.seqTup X ha
    obtain ⟨t,e',hc,hdt⟩:=hi
    rw [e] at e'; cases e'
    obtain ⟨v,hv,X'⟩:=g i x hx
    refine wpAny_pyNext_tuple_item ⟨o,ho,hc,hdt⟩ (isTuple_of h1) (by simpa using hv) fun h' hit' hs => ?_
    obtain ⟨o',ho',hc',hd'⟩:=hit'
    exact k v o' h' _ ⟨a,e,hc',hd'⟩ (St.repin (p₁:=[]) X' hn hs ho')
  | list ds' =>
    cases hd
    obtain ⟨a,vs,e,h1,_,g⟩:=St.seqList X ha
    obtain ⟨t,e',hc,hdt⟩:=hi
    rw [e] at e'; cases e'
    obtain ⟨v,hv,X'⟩:=g i x hx
    refine wpAny_pyNext_list_item ⟨o,ho,hc,hdt⟩ h1 (by simpa using hv) fun h' hit' hs => ?_
    obtain ⟨o',ho',hc',hd'⟩:=hit'
    exact k v o' h' _ ⟨a,e,hc',hd'⟩ (St.repin (p₁:=[]) X' hn hs ho')
  | rng a b =>
    simp only [V.elems] at hd
    split at hd
    · cases hd
      obtain ⟨rfl,hlt⟩:=rangeV_get hx
      have hi' : o = _:=hi
      subst hi'
      have hsz : Builtin.Range.rangeSize a b 1 = b - a:=by rw [rangeSize_one,if_pos (by omega)]
      refine wpAny_pyNext_range_item ho (by rw [hsz]; omega) fun h' hit' hs => ?_
      refine k _ _ h' _ ?_ (St.repin (p₁:=[]) (X.hold fun Z => .int _ _) hn hs hit')
      show _ = _
      have e1 : a + (i : Int) + 1 = a + ((i + 1 : Nat) : Int):=by omega
      have e2 : Builtin.Range.rangeSize a b 1 - (i : Int) - 1 = Builtin.Range.rangeSize a b 1 - ((i + 1 : Nat) : Int):=by omega
      rw [e1,e2]
    · cases hd
  | _ => cases hd

theorem iterEnd {it : Addr} {o : Obj} {va : Value} {d : V} {ds : List V} {i : Nat} {R : Option Value → Shared → Prop} {E : Value → Shared → Prop} (X : St (c.pins [(it,o)]) ρ σ τ s) (ha : (va,d) ∈ τ) (hd : d.elems = some ds) (hi : ItObj va d i o) (hx : ds[i]? = none)
    (k : ∀ h' t,St c ρ σ τ { s with heap:=h',toks:=t } → R none { s with heap:=h',toks:=t }) : wpAny c.M c.A (pyNext (.ref it)) R E s:=by
  have ho:=X.pinned (List.Mem.head _)
  have hn:=hi.noCell
  cases d with
  | tup ds' =>
    obtain rfl : ds' = ds:=by cases hd; rfl
    obtain ⟨a,vs,e,h1,hl,g⟩:=St.seqTup X ha
    obtain ⟨t,e',hc,hdt⟩:=hi
    rw [e] at e'; cases e'
    refine wpAny_pyNext_tuple_end X.ok.hd ⟨o,ho,hc,hdt⟩ (isTuple_of h1) ?_ fun h' hs => k h' _ (St.unpin1 (p₁:=[]) (p₂:=[]) X hn hs)
    have : ds'.length ≤ i:=by simpa using hx
    simp; omega
  | list ds' =>
    obtain rfl : ds' = ds:=by cases hd; rfl
    obtain ⟨a,vs,e,h1,hl,g⟩:=St.seqList X ha
    obtain ⟨t,e',hc,hdt⟩:=hi
    rw [e] at e'; cases e'
    refine wpAny_pyNext_list_end X.ok.hd ⟨o,ho,hc,hdt⟩ h1 ?_ fun h' hs => k h' _ (St.unpin1 (p₁:=[]) (p₂:=[]) X hn hs)
    have : ds'.length ≤ i:=by simpa using hx
    simp; omega
  | rng a b =>
    simp only [V.elems] at hd
    split at hd
    · cases hd
      have hi' : o = _:=hi
      subst hi'
      have hle : (b - a).toNat ≤ i:=by
        have:=List.getElem?_eq_none_iff.mp hx
        simpa [rangeV] using this
      refine wpAny_pyNext_range_end X.ok.hd ho (by rw [rangeSize_one]; split <;> omega) fun h' hs => k h' _ (St.unpin1 (p₁:=[]) (p₂:=[]) X hn hs)
    · cases hd
  | _ => cases hd

theorem letOwned2 {it : Addr} {o : Obj} {n : String} {target : Expr} {v : Value} {Q : Unit → Shared → Prop} {E : Value → Shared → Prop} {M : Model} {A : Around} (ho : s.heap.get? it = some o) (hc : o.cls = .type n)
    (hn : (["enumerate", "zip", "dict_itemiterator", "dict_reverseitemiterator", "odict_iterator", "itertools.zip_longest", "itertools.pairwise"].contains n) = false) (q : Q () s) : wpAny M A (letOwnedTupleGo target (.ref it) v) Q E s:=by
  unfold letOwnedTupleGo
  have key : ∀ a : Addr,wpAny M A (do
      let o ← load it
      match o.cls,o.data with
      | .type n,.fields vs =>
        if (["enumerate", "zip", "dict_itemiterator", "dict_reverseitemiterator", "odict_iterator", "itertools.zip_longest", "itertools.pairwise"].contains n && vs[0]? == some (rawInt a)) = true then do
          rule "for.unpacks-the-owned-tuple"
          updateField it 0 .none
        else pure ()
      | _,_ => pure ()) Q E s:=fun a => by
    refine wpAny_bind (wpAny_load ho ?_)
    rw [hc]
    cases o.data <;> first
      | exact wpAny_pure q
      | (dsimp only; rw [hn]; exact wpAny_pure q)
  cases target <;> first
    | exact wpAny_pure q
    | (cases v <;> first | exact wpAny_pure q | exact key _)

theorem letOwned {it : Addr} {o : Obj} {src : Value} {d : V} {i : Nat} {target : Expr} {v : Value} {Q : Unit → Shared → Prop} {E : Value → Shared → Prop} {M : Model} {A : Around} (ho : s.heap.get? it = some o) (hi : ItObj src d i o) (q : Q () s) :
    wpAny M A (letOwnedTupleGo target (.ref it) v) Q E s:=by
  obtain ⟨n,hc,hn⟩:=hi.cls
  exact letOwned2 ho hc hn q

noncomputable def WFor (c : Cx) (target : Expr) (body : List Stmt) (K : Fl → Vars → Sto → Prop) : List V → Vars → Sto → Prop
  | [],ρ,σ => K .next ρ σ
  | x :: xs,ρ,σ => ∀ ps,NoCells ps → WU (c.pins ps) (assign target c.env) x ρ σ fun ρ₁ σ₁ => WX (c.pins ps) (execs body c.env) ρ₁ σ₁ fun fl ρ₂ σ₂ => match fl with
    | .next => WFor c target body K xs ρ₂ σ₂
    | .cont => WFor c target body K xs ρ₂ σ₂
    | .brk => K .next ρ₂ σ₂
    | .ret d => K (.ret d) ρ₂ σ₂

theorem noCells_one {a : Addr} {o : Obj} (h : ∀ v,o.data ≠ .cell v) : NoCells [(a,o)]:=fun p hp v => by
  rcases List.mem_singleton.mp hp with rfl
  exact h v

inductive ForI (c : Cx) (target : Expr) (body : List Stmt) (K : Fl → Vars → Sto → Prop) (it : Addr) (va : Value) (d : V) (ds : List V) (τ : List (Value × V)) (n : Nat) (s : Shared) : Prop
  | mk (i : Nat) (o : Obj) (ρ : Vars) (σ : Sto) (hn : n + i = ds.length) (hi : ItObj va d i o) (X : St (c.pins [(it,o)]) ρ σ ((va,d) :: τ) s) (hw : WFor c target body K (ds.drop i) ρ σ) : ForI c target body K it va d ds τ n s
theorem ForI.less {target : Expr} {body : List Stmt} {K : Fl → Vars → Sto → Prop} {it : Addr} {va : Value} {d : V} {ds : List V} {n i : Nat} {o : Obj} (hn : n + i = ds.length) (hlt : i < ds.length) (hi : ItObj va d (i + 1) o) (X : St (c.pins [(it,o)]) ρ σ ((va,d) :: τ) s) (hw : WFor c target body K (ds.drop (i + 1)) ρ σ) :
    ∃ m,m < n ∧ ForI c target body K it va d ds τ m s:=by
  cases n with
  | zero => rw [Nat.zero_add] at hn; exact absurd (hn ▸ hlt) (Nat.lt_irrefl _)
  | succ n => exact ⟨n,Nat.lt_succ_self n,i + 1,o,ρ,σ,by rw [← hn,Nat.succ_add]; rfl,hi,X,hw⟩
theorem xFor {target iter : Expr} {body : List Stmt} {pos : Pos} {K : Fl → Vars → Sto → Prop} (hs : ∀ x,foldedSetIterable iter c.env x = pure x)
    (h : WT c (eval iter c.env) ρ σ fun d σ₁ => ∃ ds,d.elems = some ds ∧ WFor c target body K ds ρ σ₁) : WX c (exec (.For target iter body [] pos) c.env) ρ σ K:=fun τ s R X hR => by
  refine wpAny_For (hs:=hs) (h τ s _ X fun va d σ₁ s₁ q X₁ => ?_)
  obtain ⟨ds,hd,hw⟩:=q
  refine iterStart X₁ (.head _) hd fun it o h' t hi ho X₂ => ?_
  refine codeAny_forLoop_any (ForI c target body K it va d ds τ) ?_ ds.length ⟨0,o,ρ,σ₁,rfl,hi,X₂,hw⟩
  clear h hi ho X₂ hw X X₁
  rintro n s ⟨i,o,ρ,σ,hn,hi,X,hw⟩
  cases hx : ds[i]? with
  | none =>
    rw [List.drop_eq_nil_of_le (List.getElem?_eq_none_iff.mp hx)] at hw
    exact iterEnd X (.head _) hd hi hx fun h' t X' => wpAny_execs_nil (hR _ _ _ _ _ _ hw .next X'.tl)
  | some x =>
    obtain ⟨hlt,hx'⟩:=List.getElem?_eq_some_iff.mp hx
    rw [List.drop_eq_getElem_cons hlt,hx'] at hw
    refine iterNext X (.head _) hd hi hx fun v o' h' t hi' X' => ?_
    refine letOwned (X'.pinned (.head _)) hi' ?_
    refine nope (hw [(it,o')] (noCells_one hi'.noCell) _ _ v _ (.head _) X' fun ρ₁ σ₁ s₂ q X'' => ?_)
    refine nope (q _ _ _ X'' fun f fl ρ₂ σ₂ s₃ τ' q' fr X3 => ?_)
    have un : St c ρ₂ σ₂ (τ' ++ τ) s₃:=(St.unpin1 (p₁:=[]) (p₂:=[]) (h':=s₃.heap) (t:=s₃.toks) X3 hi'.noCell (Heap.ExtBut.refl _ _)).sub fun p hp =>
      (List.mem_append.mp hp).elim (List.mem_append_left _) fun q => List.mem_append_right _ (.tail _ (.tail _ q))
    cases fr with
    | next => exact ForI.less hn hlt hi' X3.tl q'
    | cont => exact ForI.less hn hlt hi' X3.tl q'
    | brk => exact hR _ _ _ _ _ _ q' .next un
    | ret v d => exact hR _ _ _ _ _ _ q' (.ret v d) un

inductive WhI (c : Cx) (I : Nat → Vars → Sto → Prop) (τ : List (Value × V)) (n : Nat) (s : Shared) : Prop
  | mk (ρ : Vars) (σ : Sto) (h : I n ρ σ) (X : St c ρ σ τ s) : WhI c I τ n s
theorem xWhile {test : Expr} {body orelse : List Stmt} {pos : Pos} {K : Fl → Vars → Sto → Prop} (I : Nat → Vars → Sto → Prop)
    (turn : ∀ n ρ σ,I n ρ σ → WB c (isTrue test c.env (eval test c.env)) ρ σ fun b σ₁ => (b = true → WX c (execs body c.env) ρ σ₁ fun fl ρ₂ σ₂ => match fl with
        | .next => ∃ m,m < n ∧ I m ρ₂ σ₂
        | .cont => ∃ m,m < n ∧ I m ρ₂ σ₂
        | .brk => K .next ρ₂ σ₂
        | .ret d => K (.ret d) ρ₂ σ₂) ∧ (b = false → WX c (execs orelse c.env) ρ σ₁ K))
    {n : Nat} (h : I n ρ σ) : WX c (exec (.While test body orelse pos) c.env) ρ σ K:=fun τ s R X hR => by
  refine wpAny_While (codeAny_whileLoop (WhI c I τ) ?_ n ⟨ρ,σ,h,X⟩)
  rintro n s ⟨ρ,σ,hI,X⟩
  refine nope (turn n ρ σ hI τ s _ X fun b σ₁ s₁ q X₁ => ?_)
  cases b with
  | true =>
    refine nope (q.1 rfl _ _ _ X₁ fun f fl ρ₂ σ₂ s₃ τ' q' fr X3 => ?_)
    cases fr with
    | next => obtain ⟨m,hm,q'⟩:=q'; exact ⟨m,hm,ρ₂,σ₂,q',X3⟩
    | cont => obtain ⟨m,hm,q'⟩:=q'; exact ⟨m,hm,ρ₂,σ₂,q',X3⟩
    | brk => exact hR _ _ _ _ _ _ q' .next X3
    | ret v d => exact hR _ _ _ _ _ _ q' (.ret v d) X3
  | false => exact nope (q.2 rfl _ _ _ X₁ fun f fl ρ₂ σ₂ s₃ τ' q' fr X3 => hR _ _ _ _ _ _ q' fr X3)
end
end
end Mine
end
section
set_option tactic.hygienic false
namespace Mine
noncomputable section
section
variable {c : Cx} {m : Str → Option Value} {raw cl fz : Led} {h h' : Heap} {ρ : Vars} {σ : Sto} {τ : List (Value × V)} {s : Shared}

theorem Lay.push' {o : Obj} (l : Lay c m raw cl fz h) (F : Fr c.h₀ c.fenv.locals h' (c.comp.getD m)) (N : News c.h₀ c.fenv.locals h' ((h.objs.size,o) :: (raw ++ (cl ++ (c.rest ++ fz))))) :
    Lay c m raw cl ((h.objs.size,o) :: fz) h':=l.of F (Stand.perm ⟨N,List.nodup_cons.mpr ⟨l.fresh,l.nd⟩⟩ permZ)
theorem Lay.pushM' {o : Obj} (l : Lay c m raw cl fz h) (F : Fr c.h₀ c.fenv.locals h' (c.comp.getD m)) (N : News c.h₀ c.fenv.locals h' ((h.objs.size,o) :: (raw ++ (cl ++ (c.rest ++ fz))))) :
    Lay c m ((h.objs.size,o) :: raw) cl fz h' :=
  ⟨F,N,List.nodup_cons.mpr ⟨l.fresh,l.nd⟩,l.cm⟩

inductive Frame (c : Cx) (ρ : Vars) (σ : Sto) (τ : List (Value × V)) (s : Shared) : Prop
  | mk (m : Str → Option Value) (news fz : Led) (F : Fr c.h₀ c.fenv.locals s.heap m) (N : News c.h₀ c.fenv.locals s.heap news) (hz : ∀ v d,(v,d) ∈ τ → c.VR fz v d) (kn : ∀ a o,c.Knows fz a o → s.heap.get? a = some o)
    (P0 : ∀ v d t,c.VR fz v d → St c ρ σ ((v,d) :: τ) { s with toks:=t })
    (P1 : ∀ h' o d t,Fr c.h₀ c.fenv.locals h' m → News c.h₀ c.fenv.locals h' ((s.heap.objs.size,o) :: news) → c.VR ((s.heap.objs.size,o) :: fz) (.ref s.heap.objs.size) d → St c ρ σ ((.ref s.heap.objs.size,d) :: τ) { s with heap:=h',toks:=t })
    (P2 : ∀ h' o mo t,Fr c.h₀ c.fenv.locals h' m → News c.h₀ c.fenv.locals h' ((s.heap.objs.size,o) :: news) → MRel c fz s.heap.objs.size mo s.heap.objs.size o → St c ρ ((s.heap.objs.size,mo) :: σ) ((.ref s.heap.objs.size,.raw (.ref s.heap.objs.size)) :: τ) { s with heap:=h',toks:=t }) : Frame c ρ σ τ s
theorem St.frame (X : St c ρ σ τ s) : Frame c ρ σ τ s:=by
  obtain ⟨ok,g,os,m,raw,cl,fz,r,l⟩:=X
  exact ⟨_,_,fz,l.fr,l.nw,r.tmp,l.knows ok,fun v d t hd => ⟨ok,g,os,m,raw,cl,fz,r.held hd,l⟩,fun h' o d t F N hd => ⟨ok,g,os,m,raw,cl,_,(r.mono fun Z q => .tail _ q).held hd,l.push' F N⟩,
    fun h' o mo t F N hd => ⟨ok,g,os,m,_,cl,fz,(r.withSto (SRelB.cons hd r.sto)).held (.raw _),l.pushM' F N⟩⟩
end

section
variable {c : Cx} {ρ : Vars} {σ : Sto} {Q : V → Sto → Prop} {QL : List V → Sto → Prop}

theorem lNil {pos : Pos} (q : QL [] σ) : WL c (spliced (backTo pos (starEach [] c.env))) ρ σ QL:=fun τ s R X hR => spliced_none (hR [] [] σ s q rfl X)
theorem lCons {e : Expr} {rest : List Expr} {pos : Pos} (h : WT c (eval e c.env) ρ σ fun d σ₁ => WL c (spliced (backTo pos (starEach rest c.env))) ρ σ₁ fun ds σ₂ => QL (d :: ds) σ₂)
    (he : starEach (e :: rest) c.env = (false,eval e c.env) :: starEach rest c.env:=by rfl) : WL c (spliced (backTo pos (starEach (e :: rest) c.env))) ρ σ QL:=fun τ s R X hR =>
  spliced_more (h τ s _ X fun v d σ₁ s₁ q X₁ => q _ s₁ _ X₁ fun vs ds σ₂ s₂ q₂ hl X₂ => hR (v :: vs) (d :: ds) σ₂ s₂ q₂ (by simp [hl]) (X₂.sub fun p hp => by
    rcases List.mem_cons.mp hp with rfl | hp
    · exact List.mem_append_right _ (.head _)
    · rcases List.mem_append.mp hp with hp | hp
      · exact List.mem_append_left _ hp
      · exact List.mem_append_right _ (.tail _ hp))) he

theorem St.mk {τ : List (Value × V)} {vs : List Value} {ds : List V} {fz : Led} (hl : vs.length = ds.length) (h : ∀ v d,(v,d) ∈ vs.zip ds ++ τ → c.VR fz v d) : VRels c.prog c.w (c.Knows fz) vs ds:=
  VRels.of_mem hl fun p hp => h p.1 p.2 (List.mem_append_left _ hp)

theorem wTuple {elts : List Expr} {k : Nat} {pos : Pos} (h : WL c (spliced (backTo pos (starEach elts c.env))) ρ σ fun ds σ' => ds.length ≤ sizeLine ∧ Q (.tup ds) σ') : WT c (eval (.Tuple elts k pos) c.env) ρ σ Q:=fun τ s R X hR =>
  Tuple_ (h τ s _ X fun vs ds σ' s' q hl X' => wpAny_newObj_type (hR _ _ _ _ q.2 (X'.push (d:=.tup ds) rfl fun fz hz hm => .tup (n:=_) (.inl hm) (St.mk hl hz)).rapp)
    (by show vs.toArray.size ≤ sizeLine; rw [List.size_toArray,hl]; exact q.1))
theorem wList {elts : List Expr} {pos : Pos} (h : WL c (spliced (backTo pos (starEach elts c.env))) ρ σ fun ds σ' => ds.length ≤ sizeLine ∧ Q (.list ds) σ') : WT c (eval (.List elts pos) c.env) ρ σ Q:=fun τ s R X hR =>
  List_ (h τ s _ X fun vs ds σ' s' q hl X' => wpAny_newObj_type (hR _ _ _ _ q.2 (X'.push (d:=.list ds) rfl fun fz hz hm => .list (n:=_) (.inl hm) rfl rfl (St.mk hl hz)).rapp)
    (by show vs.toArray.size ≤ sizeLine; rw [List.size_toArray,hl]; exact q.1))
theorem wListM {elts : List Expr} {pos : Pos} (h : WL c (spliced (backTo pos (starEach elts c.env))) ρ σ fun ds σ' => ds.length ≤ sizeLine ∧ ∀ a,Q (.raw (.ref a)) ((a,.list ds) :: σ')) : WT c (eval (.List elts pos) c.env) ρ σ Q:=fun τ s R X hR =>
  List_ (h τ s _ X fun vs ds σ' s' q hl X' => wpAny_newObj_type (hR _ _ _ _ (q.2 _) (X'.pushM (mo:=.list ds) rfl fun fz hz => .list (n:=_) (St.mk hl hz)).rapp)
    (by show vs.toArray.size ≤ sizeLine; rw [List.size_toArray,hl]; exact q.1))

theorem VRels.flat {prog : Program} {w : World} {P : Addr → Obj → Prop} {vs : List Value} {ds : List V} (h : VRels prog w P vs ds) : ∀ n,VRels prog w P (List.replicate n vs).flatten (List.replicate n ds).flatten
  | 0 => .nil
  | n + 1 => by
    rw [List.replicate_succ,List.replicate_succ,List.flatten_cons,List.flatten_cons]
    exact h.append (VRels.flat h n)

theorem VRels.more {c : Cx} {fz : Led} {p : Addr × Obj} {vs : List Value} {ds : List V} (h : VRels c.prog c.w (c.Knows fz) vs ds) : VRels c.prog c.w (c.Knows (p :: fz)) vs ds:=
  h.mono fun Z Z q => q.imp (.tail _) id

theorem oAddList {ds es : List V} (hsz : ds.length + es.length ≤ sizeLine) (q : Q (.list (ds ++ es)) σ) : W2 c (binaryOp .Add) (.list ds) (.list es) ρ σ Q:=fun τ s va vb R ha hb X hR => by
  obtain ⟨m,news,fz,F,N,hz,kn,P0,P1,P2⟩:=X.frame
  obtain ⟨_,_,_,_,rfl,p,e1,e2,r⟩:=(hz _ _ ha).inv
  obtain ⟨_,_,_,_,rfl,p',e3,e4,r'⟩:=(hz _ _ hb).inv
  exact add_lists F N ⟨_,kn _ _ p,e1,_,e2⟩ ⟨_,kn _ _ p',e3,_,e4⟩ (fun h' F' N' => hR _ _ _ _ q (P1 h' _ _ s.toks F' N' (.list (n:=_) (.inl (.head _)) rfl rfl (r.append r').more))) (by rw [r.length,r'.length]; exact hsz)
theorem VRels.ne_nil {prog : Program} {w : World} {P : Addr → Obj → Prop} {vs : List Value} {ds : List V} (h : VRels prog w P vs ds) (hn : ds ≠ []) : vs ≠ []:=fun e => by
  subst e; cases h; exact hn rfl
theorem isTup_of {h : Heap} {a : Addr} {vs : List Value} (x : ∃ n,h.get? a = some (tupO vs n)) : IsTup h a vs.toArray:=let ⟨n,e⟩:=x; ⟨_,e,rfl,n,rfl⟩
theorem oAddTup {ds es : List V} (hsz : ds.length + es.length ≤ sizeLine) (h1 : ds ≠ []) (h2 : es ≠ []) (q : Q (.tup (ds ++ es)) σ) : W2 c (binaryOp .Add) (.tup ds) (.tup es) ρ σ Q:=fun τ s va vb R ha hb X hR => by
  obtain ⟨m,news,fz,F,N,hz,kn,P0,P1,P2⟩:=X.frame
  obtain ⟨_,_,_,rfl,p,r⟩:=(hz _ _ ha).inv
  obtain ⟨_,_,_,rfl,p',r'⟩:=(hz _ _ hb).inv
  exact add_tuples F N (isTup_of ⟨_,kn _ _ p⟩) (isTup_of ⟨_,kn _ _ p'⟩) (fun e => absurd e (r.ne_nil h1)) (fun Z e => absurd e (r'.ne_nil h2))
        (fun Z Z h' F' N' => hR _ _ _ _ q (P1 h' _ _ s.toks F' N' (.tup (n:=_) (.inl (.head _)) (r.append r').more))) (by rw [r.length,r'.length]; exact hsz)

theorem wSub {value slice : Expr} {pos : Pos} (h : WT c (eval value c.env) ρ σ fun a σ₁ => WT c (eval slice c.env) ρ σ₁ fun b σ₂ => W2 c (subscriptTail value slice) a b ρ σ₂ Q) : WT c (eval (.Subscript value slice pos) c.env) ρ σ Q:=fun τ s R X hR =>
  Subscript_ (h τ s _ X fun va a σ₁ s₁ h₁ X₁ => h₁ _ s₁ _ X₁ fun vb b σ₂ s₂ h₂ X₂ => h₂ _ s₂ va vb R (.tail _ (.head _)) (.head _) X₂ fun v d σ' s' q X' => hR v d σ' s' q X'.r2)

theorem gTup {value slice : Expr} {ds : List V} {i : Int} {j : Nat} {d : V} (hlo : -(2 ^ 63) ≤ i) (hhi : i < 2 ^ 63) (hj : seqIndex? i ds.length = some j) (hd : ds[j]? = some d) (hs : ∀ o i,subscripted slice false o i = operate [o,i] (getItem o i)) (q : Q d σ) :
    W2 c (subscriptTail value slice) (.tup ds) (.int i) ρ σ Q:=fun τ s va vb R ha hb X hR => by
  obtain ⟨t,rfl⟩:=sInt X hb
  obtain ⟨a,vs,rfl,h1,hl,k,_⟩:=X.seqTup ha
  obtain ⟨v,hv,X'⟩:=k j d hd
  exact tail_any (isTup_of h1).typeIs slot_tuple_getitem.lookup (PyProof.Rows.getItem_tuple (isTup_of h1) hlo hhi (by simpa [hl] using hj) (by simpa using hv) (hR _ _ _ _ q X')) (hs _ _)
theorem gList {value slice : Expr} {ds : List V} {i : Int} {d : V} (h0 : 0 ≤ i) (hhi : i < 2 ^ 63) (hd : ds[i.toNat]? = some d) (hs : ∀ o i,subscripted slice false o i = operate [o,i] (getItem o i)) (q : Q d σ) :
    W2 c (subscriptTail value slice) (.list ds) (.int i) ρ σ Q:=fun τ s va vb R ha hb X hR => by
  obtain ⟨t,rfl⟩:=sInt X hb
  obtain ⟨a,vs,rfl,h1,hl,k,_⟩:=X.seqList ha
  obtain ⟨v,hv,X'⟩:=k _ d hd
  exact tail_any h1.typeIs slot_list_getitem.lookup (wpAny_getItem_list h1 h0 hhi (by simpa using hv) (hR _ _ _ _ q X')) (hs _ _)
theorem gStr {value slice : Expr} {x : Str} {i : Int} {k : Nat} (hr : (decide (i < -(2 ^ 63 : Int)) || decide (i ≥ 2 ^ 63)) = false) (hc : (seqIndex? i x.length).bind (x.cps[·]?) = some k) (hs : ∀ o i,subscripted slice false o i = operate [o,i] (getItem o i)) (q : Q (.str ⟨#[k]⟩) σ) :
    W2 c (subscriptTail value slice) (.str x) (.int i) ρ σ Q:=fun τ s va vb R ha hb X hR => by
  obtain ⟨t,rfl⟩:=sInt X hb
  obtain ⟨u,rfl⟩:=sStr X ha
  exact tail_any (typeIs_str s x u) slot_str_getitem.lookup (PyProof.Rows.getItem_str hr hc (hR _ _ _ _ q (X.toks.hold fun Z => .str _ _))) (hs _ _)

inductive SRelB.Mem (prog : Program) (w : World) (base : Heap) (fz raw : Led) (x : Addr) (mo : MO) : Prop
  | mk (a : Addr) (o : Obj) (h1 : (a,o) ∈ raw) (h2 : MRelB prog w base fz x mo a o) : SRelB.Mem prog w base fz raw x mo
theorem SRelB.mem {prog : Program} {w : World} {base : Heap} {fz : Led} {σ : Sto} {raw : Led} {x : Addr} {mo : MO} (r : SRelB prog w base fz σ raw) (h : (x,mo) ∈ σ) : SRelB.Mem prog w base fz raw x mo:=by
  obtain ⟨σ₁,σ₂,rfl⟩:=List.append_of_mem h
  obtain ⟨r₁,a,o,r₂,rfl,_,m,_⟩:=r.split
  exact ⟨a,o,mem_mid,m⟩
inductive FrameM (c : Cx) (ρ : Vars) (σ : Sto) (τ : List (Value × V)) (s : Shared) (x : Addr) (mo : MO) : Prop
  | mk (m : Str → Option Value) (news fz : Led) (F : Fr c.h₀ c.fenv.locals s.heap m) (N : News c.h₀ c.fenv.locals s.heap news) (hz : ∀ v d,(v,d) ∈ τ → c.VR fz v d) (kn : ∀ a o,c.Knows fz a o → s.heap.get? a = some o)
    (P0 : ∀ v d t,c.VR fz v d → St c ρ σ ((v,d) :: τ) { s with toks:=t })
    (P1 : ∀ h' o d t,Fr c.h₀ c.fenv.locals h' m → News c.h₀ c.fenv.locals h' ((s.heap.objs.size,o) :: news) → c.VR ((s.heap.objs.size,o) :: fz) (.ref s.heap.objs.size) d → St c ρ σ ((.ref s.heap.objs.size,d) :: τ) { s with heap:=h',toks:=t })
    (a : Addr) (o : Obj) (ho : s.heap.get? a = some o) (mr : MRel c fz x mo a o) : FrameM c ρ σ τ s x mo
theorem St.frameM {τ : List (Value × V)} {s : Shared} {x : Addr} {mo : MO} (X : St c ρ σ τ s) (h : (x,mo) ∈ σ) : FrameM c ρ σ τ s x mo:=by
  obtain ⟨ok,g,os,m,raw,cl,fz,r,l⟩:=X
  obtain ⟨a,o,h1,h2⟩:=r.sto.mem h
  exact ⟨_,_,fz,l.fr,l.nw,r.tmp,l.knows ok,fun v d t hd => ⟨ok,g,os,m,raw,cl,fz,r.held hd,l⟩,fun h' o d t F N hd => ⟨ok,g,os,m,raw,cl,_,(r.mono fun Z q => .tail _ q).held hd,l.push' F N⟩,a,o,(l.nw (a,o) (List.mem_append_left _ h1)).1,h2⟩
inductive Peek (c : Cx) (ρ : Vars) (σ : Sto) (τ : List (Value × V)) (s : Shared) (x : Addr) (mo : MO) : Prop
  | mk (fz : Led) (a : Addr) (o : Obj) (ho : s.heap.get? a = some o) (mr : MRel c fz x mo a o) (hz : ∀ v d,(v,d) ∈ τ → c.VR fz v d) (kn : ∀ a o,c.Knows fz a o → s.heap.get? a = some o)
    (P : ∀ (τ' : List (Value × V)) t,(∀ v d,(v,d) ∈ τ' → c.VR fz v d) → St c ρ σ (τ' ++ τ) { s with toks:=t }) : Peek c ρ σ τ s x mo
theorem St.peek {τ : List (Value × V)} {s : Shared} {x : Addr} {mo : MO} (X : St c ρ σ τ s) (h : (x,mo) ∈ σ) : Peek c ρ σ τ s x mo:=by
  obtain ⟨ok,g,os,m,raw,cl,fz,r,l⟩:=X
  obtain ⟨a,o,h1,h2⟩:=r.sto.mem h
  exact ⟨fz,a,o,(l.nw (a,o) (List.mem_append_left _ h1)).1,h2,r.tmp,l.knows ok,fun τ' t hτ => ⟨ok,g,os,m,raw,cl,fz,⟨r.sto,r.own,r.ro,r.mine,r.nodup,fun v e q => (List.mem_append.mp q).elim (hτ _ _) (r.tmp _ _)⟩,l⟩⟩

theorem oMulListM {a : Addr} {ds : List V} {k : Int} (hσ : (a,MO.list ds) ∈ σ) (h0 : 0 ≤ k) (hk : k < 2 ^ 63) (hsz : ds.length * k.toNat ≤ 2 ^ 24) (q : Q (.list (List.replicate k.toNat ds).flatten) σ) : W2 c (binaryOp .Mult) (.raw (.ref a)) (.int k) ρ σ Q:=fun τ s va vb R ha hb X hR => by
  obtain ⟨t,rfl⟩:=sInt X hb
  obtain rfl:=sRaw X ha
  obtain ⟨m,news,fz,F,N,hz,kn,P0,P1,b,o,ho,mr⟩:=X.frameM hσ
  obtain ⟨vs,n,rfl,rfl,r⟩:=mr.inv
  refine mul_list F N ho (Int.le_trans (by decide) h0) hk (by rw [List.size_toArray,r.length]; exact hsz) fun h' F' N' => hR _ _ _ _ q (P1 h' _ _ s.toks F' N' ?_)
  rw [listMul_foldl_if]
  exact .list (n:=_) (.inl (.head _)) rfl rfl (VRels.flat r _).more

inductive Rd (σ : Sto) : V → PyData → Prop
  | data {d : V} {x : PyData} : d.py = some x → Rd σ d x
  | list {a : Addr} {ds : List V} {xs : List PyData} : (a,MO.list ds) ∈ σ → V.pys ds = some xs → Rd σ (.raw (.ref a)) (.list xs)
theorem St.read {τ : List (Value × V)} {s : Shared} {va : Value} {d : V} {x : PyData} (X : St c ρ σ τ s) (ha : (va,d) ∈ τ) (h : Rd σ d x) : ∃ as,Reads s.heap va x as:=by
  cases h with
  | data e => obtain ⟨fz,r,k⟩:=X.two; exact VRel.reads k (r _ _ ha) _ e
  | list hm e =>
    obtain rfl:=sRaw X ha
    obtain ⟨fz,b,o,ho,m,_,k,_⟩:=X.peek hm
    obtain ⟨vs,n,rfl,rfl,r⟩:=m.inv
    obtain ⟨as,z⟩:=VRels.reads k r _ e
    exact ⟨_,.list ho rfl rfl z⟩

theorem oEqR {a b : V} {x y : PyData} (hx : Rd σ a x) (hy : Rd σ b y) (sx : SeqAt.shaped x = true) (sy : SeqAt.shaped y = true) (q : Q (.bool (PyData.eqv x y)) σ) : W2 c (compareOp .Eq) a b ρ σ Q:=fun τ s va vb R ha hb X hR => by
  obtain ⟨as,h1⟩:=X.read ha hx
  obtain ⟨bs,h2⟩:=X.read hb hy
  exact eq_dataH h1 h2 sx sy (shaped_room X) (hR _ _ _ _ q (X.hold fun Z => .bool _))
theorem oNeR {a b : V} {x y : PyData} (hx : Rd σ a x) (hy : Rd σ b y) (sx : SeqAt.shaped x = true) (sy : SeqAt.shaped y = true) (q : Q (.bool (!PyData.eqv x y)) σ) : W2 c (compareOp .NotEq) a b ρ σ Q:=fun τ s va vb R ha hb X hR => by
  obtain ⟨as,h1⟩:=X.read ha hx
  obtain ⟨bs,h2⟩:=X.read hb hy
  exact ne_dataH h1 h2 sx sy (shaped_room X) (hR _ _ _ _ q (X.hold fun Z => .bool _))
theorem in_room {x : PyData} {xs : List PyData} (X : c.A.units ≤ 9000) (sx : SeqAt.shaped x = true) : c.A.units + 1 + min (PyData.depthAll xs) x.depth < cLine:=by
  have h2 : x.depth ≤ 64:=of_decide_eq_true (Bool.and_eq_true_iff.mp sx).2
  have : min (PyData.depthAll xs) x.depth ≤ 64:=Nat.le_trans (Nat.min_le_right _ _) h2
  show _ < 9900
  omega
noncomputable def Seq (y : PyData) (xs : List PyData) : Prop:=y = .list xs ∨ y = .tuple xs
theorem oIn {a b : V} {x y : PyData} {xs : List PyData} (hx : Rd σ a x) (hy : Rd σ b y) (hs : Seq y xs) (sx : SeqAt.shaped x = true) (sy : PyData.canLayAll0 xs = true) (q : Q (.bool (xs.any fun y => PyData.eqv y x)) σ) : W2 c (compareOp .In) a b ρ σ Q:=fun τ s va vb R ha hb X hR => by
  obtain ⟨as,h1⟩:=X.read ha hx
  obtain ⟨bs,h2⟩:=X.read hb hy
  rcases hs with rfl | rfl
  · exact SeqAt.in_list_reads h2 h1 sy (SeqAt.canLay_of_shaped sx) (in_room X.units sx) (hR _ _ _ _ q (X.hold fun Z => .bool _))
  · exact SeqAt.in_tuple_reads h2 h1 sy (SeqAt.canLay_of_shaped sx) (in_room X.units sx) (hR _ _ _ _ q (X.hold fun Z => .bool _))
theorem oNotIn {a b : V} {x y : PyData} {xs : List PyData} (hx : Rd σ a x) (hy : Rd σ b y) (hs : Seq y xs) (sx : SeqAt.shaped x = true) (sy : PyData.canLayAll0 xs = true) (q : Q (.bool (!xs.any fun y => PyData.eqv y x)) σ) : W2 c (compareOp .NotIn) a b ρ σ Q:=fun τ s va vb R ha hb X hR => by
  obtain ⟨as,h1⟩:=X.read ha hx
  obtain ⟨bs,h2⟩:=X.read hb hy
  rcases hs with rfl | rfl
  · exact SeqAt.notIn_list_reads h2 h1 sy (SeqAt.canLay_of_shaped sx) (in_room X.units sx) (hR _ _ _ _ q (X.hold fun Z => .bool _))
  · exact SeqAt.notIn_tuple_reads h2 h1 sy (SeqAt.canLay_of_shaped sx) (in_room X.units sx) (hR _ _ _ _ q (X.hold fun Z => .bool _))

theorem wChain2 {l r₁ r₂ : Expr} {op₁ op₂ : CmpOp} {pos : Pos} (hm : lastMarks [op₁,op₂] [r₁,r₂] = false)
    (h : WT c (eval l c.env) ρ σ fun a σ₁ => WT c (eval r₁ c.env) ρ σ₁ fun b σ₂ => W2 c (compareOp op₁) a b ρ σ₂ fun d σ₃ => W1B c truthy d ρ σ₃ fun t σ₄ => (t = true → WT c (eval r₂ c.env) ρ σ₄ fun e σ₅ => W2 c (compareOp op₂) b e ρ σ₅ Q) ∧ (t = false → Q d σ₄)) :
    WT c (eval (.Compare l [op₁,op₂] [r₁,r₂] pos) c.env) ρ σ Q:=fun τ s R X hR => by
  refine Compare_chain (hm:=hm) (h τ s _ X fun va a σ₁ s₁ h₁ X₁ => chain_link (h₁ _ s₁ _ X₁ fun vb b σ₂ s₂ h₂ X₂ => h₂ _ s₂ va vb _ (.tail _ (.head _)) (.head _) X₂ fun vd d σ₃ s₃ h₃ X₃ => h₃ _ s₃ vd _ (.head _) X₃ fun t σ₄ s₄ h₄ X₄ => ?_))
  cases t with
  | false => exact hR _ _ _ _ (h₄.2 rfl) X₄.r2
  | true => exact chain_last (h₄.1 rfl _ s₄ _ X₄ fun ve e σ₅ s₅ h₅ X₅ => h₅ _ s₅ vb ve R (.tail _ (.tail _ (.head _))) (.head _) X₅ fun v d σ' s' q X' => hR v d σ' s' q X'.r2.r2)
end
end
end Mine
end
section
namespace Mine
noncomputable section
section
variable {c : Cx} {ρ : Vars} {σ : Sto} {τ : List (Value × V)} {s : Shared} {Q : V → Sto → Prop}

noncomputable abbrev WC (c : Cx) (f : Value) (as : List V) (ρ : Vars) (σ : Sto) (Q : V → Sto → Prop) : Prop:=WN c (fun vs => call f vs) as ρ σ Q

theorem St.inK (X : St c ρ σ τ s) : c.K.In s.heap:=by
  obtain ⟨ok,g,os,m,raw,cl,fz,r,l⟩:=X
  exact ok.K.keeps l.fr.keep

noncomputable def Callable (c : Cx) (f : Value) : Prop:=∀ M h,c.K.In h → ∃ k,(k = Keeper.frame ∨ k = Keeper.machine ∨ k = Keeper.boundFrame) ∧ Looks M h (keeperOf f) k
theorem callable_K {f : Value} (hk : keepIn c.K f = true) : Callable c f:=fun M h X => keeps_K hk h X
theorem callable_B {T : String} : Callable c (.builtin T):=fun M h Z => ⟨.machine,.inr (.inl rfl),Looks.of_pure rfl⟩
theorem callable_T {T : String} : Callable c (.type T):=fun M h Z => ⟨.machine,.inr (.inl rfl),Looks.of_pure rfl⟩

theorem evalArgs_gen {M : Model} {A : Around} {E : Value → Shared → Prop} {f : Value} {QA : Args → Shared → Prop} {trees : List (Bool × Sem Value)} (hp : trees.any (·.1) = false)
    (h : wpAny M A (spliced trees) (fun vs s' => QA ⟨vs,[]⟩ s') E s) : wpAny M A (evalArgs f true trees []) QA E s:=by
  cases trees with
  | nil =>
    unfold evalArgs
    show wpAny M A (spliced [] >>= _) QA E s
    refine wpAny_bind (wpAny_mono h (fun vs s' h' => wpAny_bind (wpAny_pure ?_)) fun Z Z x => x)
    refine wpAny_holding ?_
    exact wpAny_bind (wpAny_pure (wpAny_bind (wpAny_pure (wpAny_pure h'))))
  | cons p rest =>
    obtain ⟨b,x⟩:=p
    have hb : b = false:=by cases b; rfl; cases hp
    subst hb
    exact evalArgs_plain h

theorem runCall {f : Value} {first : List Value} {fd : List V} {args : List Expr} {pos pos' : Pos} {R : Value → Shared → Prop} (hf : Callable c f) (hplain : (backTo pos (starEach args c.env)).any (·.1) = false)
    (hfl : first.length = fd.length) (hfm : ∀ p ∈ first.zip fd,p ∈ τ) (X : St c ρ σ τ s) (h : WL c (spliced (backTo pos (starEach args c.env))) ρ σ fun ds σ₂ => WC c f (fd ++ ds) ρ σ₂ Q)
    (hR : ∀ v d σ' s',Q d σ' → St c ρ σ' ((v,d) :: τ) s' → R v s') : wpAny c.M c.A (callWith pos' f first (backTo pos (starEach args c.env)) []) R Nope s:=
  callWith_of (P:=c.K.In) (by simp [hplain]) (hf c.M) (evalArgs_gen hplain (h τ s _ X fun vs ds σ' s' q hl X' => ⟨X'.inK,q _ s' (first ++ vs) R (by simp [hfl,hl]) (fun p hp => by
    rw [List.zip_append hfl] at hp
    rcases List.mem_append.mp hp with hp | hp
    · exact List.mem_append_right _ (hfm p hp)
    · exact List.mem_append_left _ hp) X' fun v d σ'' s'' q' X'' => hR v d σ'' s'' q' X''.rapp⟩))

theorem wCall {id : Str} {p pos : Pos} {args : List Expr} {f : Value} (hn : Loads ρ id (.raw f)) (hf : Callable c f) (hplain : (backTo pos (starEach args c.env)).any (·.1) = false:=by rfl)
    (h : WL c (spliced (backTo pos (starEach args c.env))) ρ σ fun ds σ₂ => WC c f ds ρ σ₂ Q) : WT c (eval (.Call (.Name id p) args [] pos) c.env) ρ σ Q:=fun τ s R X hR => by
  obtain ⟨v,X',k⟩:=X.look hn
  have:=sRaw X' (.head _)
  subst this
  exact wpAny_Call_Name_kw (k p _ _ (runCall (first:=[]) (fd:=[]) hf hplain rfl (fun p hp => by cases hp) X h hR))

noncomputable def GM (c : Cx) (name : Str) (d : V) (f : Value) (ρ : Vars) (σ : Sto) : Prop:=
  Callable c f ∧ ∀ τ s va (pl : Sem Bool) (R : Value × List Value → Shared → Prop),(va,d) ∈ τ → St c ρ σ τ s → R (f,[va]) s → wpAny c.M c.A (getMethod va name pl) R Nope s
theorem wMethod {o : Expr} {name : Str} {apos pos : Pos} {args : List Expr} (hb : attributeBase o name c.env (eval o c.env) = eval o c.env) (hline : (apos.endLine == pos.line) = true)
    (hfew : methodCallForm (args.length + ([] : List Keyword).length) (backTo pos (starEach args c.env)) (backToKw pos (keywordEach [] c.env)) = true) (hplain : (backTo pos (starEach args c.env)).any (·.1) = false)
    (h : WT c (eval o c.env) ρ σ fun d σ₁ => ∃ f,GM c name d f ρ σ₁ ∧ WL c (spliced (backTo pos (starEach args c.env))) ρ σ₁ fun ds σ₂ => WC c f (d :: ds) ρ σ₂ Q) :
    WT c (eval (.Call (.Attribute o name apos) args [] pos) c.env) ρ σ Q:=fun τ s R X hR => by
  rw [arm_eval_Call,hb]
  refine wpAny_bind (h τ s _ X fun va d σ₁ s₁ q X₁ => ?_)
  obtain ⟨f,⟨hf,hg⟩,q⟩:=q
  refine wpAny_bind (wpAny_standAt ?_)
  have hpos : methodCallPos true o c.env apos pos = pure pos:=by unfold methodCallPos; simp [hline]
  unfold methodCall
  rw [hfew]
  exact wpAny_bind (wpAny_holding (hg _ s₁ va _ _ (.head _) X₁ (wpAny_bind (wpAny_of_eq hpos (runCall (first:=[va]) (fd:=[d]) hf hplain rfl (fun p hp => by
    have : p = (va,d):=by simpa using hp
    rw [this]; exact .head _) X₁ q fun v d' σ' s' q' X' => hR v d' σ' s' q' X'.r1)))))

theorem GM.builtin {name : Str} {d : V} {T id : String} (pa : PlainAttrs T) (slot : PySem.Slot T name id) (hty : typeOf (.builtin id) = pure (.type "method_descriptor"))
    (h : ∀ τ s va,(va,d) ∈ τ → St c ρ σ τ s → s.TypeIs va T ∧ ∀ a,va = .ref a → ∃ ob,s.heap.get? a = some ob ∧ ob.dict = Option.none) : GM c name d (.builtin id) ρ σ:=
  ⟨callable_B,fun τ s va pl R hv X hR => let ⟨h1,h2⟩:=h τ s va hv X; getMethod_builtin h1 pa slot hty h2 hR⟩

theorem FRels.mem {prog : Program} {w : World} {P : Addr → Obj → Prop} {es : List DictEntry} {fs : List (Str × V)} (h : FRels prog w P es fs) (hn : (fs.map (·.1)).Nodup) {name : Str} {d : V} (hm : (name,d) ∈ fs) : ∃ v,getL name es = some (some v) ∧ VRel prog w P v d:=by
  induction es generalizing fs with
  | nil => cases h; cases hm
  | cons e es ih =>
    cases h with
    | cons a r =>
      rename_i k t hh v d' ds
      rw [List.map_cons,List.nodup_cons] at hn
      rcases List.mem_cons.mp hm with q | q
      · cases q
        refine ⟨v,?_,a⟩
        unfold getL
        rw [List.find?_cons_of_pos (by show (name == name) = true; simp)]
      · have hne : k ≠ name:=fun e => hn.1 (e ▸ List.mem_map.mpr ⟨_,q,rfl⟩)
        obtain ⟨v',h1,h2⟩:=ih r hn.2 q
        refine ⟨v',?_,h2⟩
        rw [← h1]
        unfold getL
        rw [List.find?_cons_of_neg (by show ¬ (k == name) = true; simpa using hne)]
        rfl
theorem FRels.keys {prog : Program} {w : World} {P : Addr → Obj → Prop} {es : List DictEntry} {fs : List (Str × V)} (h : FRels prog w P es fs) {name : Str} (hm : name ∉ fs.map (·.1)) : getL name es = some Option.none:=by
  induction es generalizing fs with
  | nil => cases h; rfl
  | cons e es ih =>
    cases h with
    | cons a r =>
      rename_i k t hh v d' ds
      rw [List.map_cons,List.mem_cons,not_or] at hm
      have:=ih r hm.2
      rw [← this]
      unfold getL
      rw [List.find?_cons_of_neg (by show ¬ (k == name) = true; simpa using fun e => hm.1 e.symm)]
      rfl

noncomputable def V.notB : V → Bool
  | .raw (.builtin _) => false
  | _ => true
theorem VRel.handed {prog : Program} {w : World} {P : Addr → Obj → Prop} {v : Value} {d : V} (h : VRel prog w P v d) (hn : d.notB = true) : handedIn v = true:=by
  revert hn
  exact VRel.rec (motive_1:=fun v d Z => d.notB = true → handedIn v = true) (motive_2:=fun Z Z Z => True) (motive_3:=fun Z Z Z => True) (motive_4:=fun Z Z Z => True) (motive_5:=fun Z Z Z => True)
    (fun Z => rfl) (fun Z Z => rfl) (fun Z Z Z => rfl) (fun Z Z Z => rfl)
    (fun v e => by cases v with
      | builtin _ => exact nomatch e
      | _ => rfl)
    (fun Z Z Z Z => rfl) (fun Z Z Z Z Z Z => rfl) (fun Z Z Z Z Z Z => rfl) (fun Z Z Z Z Z Z => rfl) (fun Z Z Z Z Z Z => rfl) (fun Z Z => rfl) (fun Z Z => rfl)
    trivial (fun Z Z Z Z => trivial) trivial (fun Z Z Z Z => trivial) trivial (fun Z Z Z Z => trivial) trivial (fun Z Z Z Z => trivial) h

structure AttrOf (K : Frag) (C : Addr) (name : Str) : Prop where
  get : plainGet K C name = true
  dict : hasDictIn K C = true
  own : ∃ a,findIn K (.ref C) name = some a ∧ noGet K a = true

theorem getAttrObj {C : Addr} {fs : List (Str × V)} {name : Str} {d : V} (ha : AttrOf c.K C name) (hm : (name,d) ∈ fs) (hd : d.notB = true) (q : Q d σ) : W1 c (fun v => getAttr v name true) (.obj C fs) ρ σ Q:=fun τ s va R hv X hR => by
  obtain ⟨m,news,fz,F,N,hz,kn,P0,P1,P2⟩:=X.frame
  obtain ⟨_,_,_,_,rfl,p1,p2,r,hn⟩:=(hz _ _ hv).inv
  obtain ⟨v,h1,h2⟩:=r.mem hn hm
  obtain ⟨a,h3,h4⟩:=ha.own
  exact get_own F X.ok.K ⟨kn _ _ p1,rfl,rfl,kn _ _ p2⟩ ha.get ha.dict h3 h4 h1 (h2.handed hd) (hR _ _ _ _ q (P0 _ _ _ h2))

theorem getAttrInst {a C : Addr} {fs : List (Str × V)} {name : Str} {d : V} (ha : AttrOf c.K C name) (hσ : (a,MO.inst C fs) ∈ σ) (hm : (name,d) ∈ fs) (hd : d.notB = true) (q : Q d σ) : W1 c (fun v => getAttr v name true) (.raw (.ref a)) ρ σ Q:=fun τ s va R hv X hR => by
  obtain rfl:=sRaw X hv
  obtain ⟨fz,b,o,ho,mr,hz,kn,up⟩:=X.peek hσ
  obtain ⟨m,news,fz',F,N,_,_,_,_,_⟩:=X.frame
  obtain ⟨es,n,rfl,p1,r,hn⟩:=mr.inv
  obtain ⟨v,h1,h2⟩:=r.mem hn hm
  obtain ⟨a',h3,h4⟩:=ha.own
  exact get_own F X.ok.K ⟨kn _ _ (.inl p1),rfl,rfl,ho⟩ ha.get ha.dict h3 h4 h1 (h2.handed hd) (hR _ _ _ _ q (up [(v,d)] (s.toks + 1) fun v' d' q => by
      rw [List.mem_singleton] at q; cases q; exact h2))
theorem wAttr {value : Expr} {attr : Str} {pos : Pos} (hb : attributeBase value attr c.env (eval value c.env) = eval value c.env)
    (h : WT c (eval value c.env) ρ σ fun d σ₁ => W1 c (fun v => getAttr v attr true) d ρ σ₁ Q) : WT c (eval (.Attribute value attr pos) c.env) ρ σ Q:=fun τ s R X hR =>
  Attribute_any_ (h τ s _ X fun v d σ₁ s₁ q X₁ => q _ s₁ v R (.head _) X₁ fun v' d' σ' s' q' X' => hR v' d' σ' s' q' X'.r1) (by rw [arm_eval_Attribute,hb])

theorem GM.obj {C f : Addr} {fs : List (Str × V)} {name : Str} (hg : plainGet c.K C name = true) (hf : findIn c.K (.ref C) name = some (some (.ref f))) (ht : isFn c.K (.ref f) = true) (hk : keepIn c.K (.ref f) = true) (hm : name ∉ fs.map (·.1)) :
    GM c name (.obj C fs) (.ref f) ρ σ:=⟨callable_K hk,fun τ s va pl R hv X hR => by
  obtain ⟨m,news,fz,F,N,hz,kn,P0,P1,P2⟩:=X.frame
  obtain ⟨_,_,_,_,rfl,p1,p2,r,hn⟩:=(hz _ _ hv).inv
  exact method_inst F X.ok.K ⟨kn _ _ p1,rfl,rfl,kn _ _ p2⟩ hg hf ht (r.keys hm) hR⟩

structure SetOf (K : Frag) (C : Addr) (name : Str) : Prop where
  set : findIn K (.ref C) "__setattr__" = some (some (.builtin "object.__setattr__"))
  plain : plainOver K C = true
  taker : takerIn K C name = some Option.none
  dict : hasDictIn K C = true

theorem upd_of {d : Addr} {o o' : Obj} : ∀ {pre post : Led},(keys (pre ++ (d,o) :: post)).Nodup → Upd d o o' (pre ++ (d,o) :: post) (pre ++ (d,o') :: post)
  | [],post,h => .head fun p hp e => (List.nodup_cons.mp h).1 (List.mem_map.mpr ⟨p,hp,e⟩)
  | p :: pre,post,h => .tail (fun e => (List.nodup_cons.mp h).1 (by show p.1 ∈ keys (pre ++ (d,o) :: post); rw [e,keys_app,keys_cons]; simp)) (upd_of (List.nodup_cons.mp h).2)

theorem FRels.put {prog : Program} {w : World} {P : Addr → Obj → Prop} {hh : Int} {t : Tok} {es : List DictEntry} {fs : List (Str × V)} (h : FRels prog w P es fs) {name : Str} {v : Value} {d : V} (hm : name ∉ fs.map (·.1)) (hv : VRel prog w P v d) :
    FRels prog w P (putL name hh (.str name t) v es) (fs ++ [(name,d)]):=by
  induction es generalizing fs with
  | nil => cases h; exact .cons hv .nil
  | cons e es ih =>
    cases h with
    | cons a r =>
      rename_i k t' hh' v' d' ds
      rw [List.map_cons,List.mem_cons,not_or] at hm
      have:=ih r hm.2
      unfold putL
      rw [if_neg (by show ¬ (k == name) = true; simpa using fun e => hm.1 e.symm)]
      exact .cons a this
theorem FRels.length {prog : Program} {w : World} {P : Addr → Obj → Prop} {es : List DictEntry} {fs : List (Str × V)} (h : FRels prog w P es fs) : es.length = fs.length:=by
  induction es generalizing fs with
  | nil => cases h; rfl
  | cons e es ih => cases h with | cons a r => simp [ih r]

theorem St.setAttr {σ₁ σ₂ : Sto} {a C : Addr} {fs : List (Str × V)} {name : Str} {v : Value} {d : V} (hs : SetOf c.K C name) (hm : name ∉ fs.map (·.1)) (hl : fs.length < 1000) (X : St c ρ (σ₁ ++ (a,.inst C fs) :: σ₂) τ s) (hv : (v,d) ∈ τ)
    {R : Unit → Shared → Prop} (k : ∀ s',St c ρ (σ₁ ++ (a,.inst C (fs ++ [(name,d)])) :: σ₂) τ s' → R () s') : wpAny c.M c.A (PySem.setAttr (.ref a) name v) R Nope s:=by
  obtain ⟨ok,g,os,m,raw,cl,fz,r,l⟩:=X
  obtain ⟨r₁,b,o,r₂,rfl,s1,s2,s3⟩:=r.sto.split
  have hd:=r.tmp _ _ hv
  obtain ⟨es,n,rfl,p1,fr,hn⟩:=s2.inv
  have e1 : ∀ x : Obj,(r₁ ++ (b,x) :: r₂) ++ (cl ++ (c.rest ++ fz)) = r₁ ++ (b,x) :: (r₂ ++ (cl ++ (c.rest ++ fz))):=fun Z => List.append_assoc _ _ _
  have z : Stand c.h₀ c.fenv.locals s.heap (r₁ ++ (b,dictOf es n) :: (r₂ ++ (cl ++ (c.rest ++ fz)))):=e1 _ ▸ l.stand
  have hput:=FRels.put (hh:=PyData.keyHash c.w.params name) (t:=s.toks + 1) fr hm hd
  refine set_dict (news':=r₁ ++ (b,_) :: (r₂ ++ (cl ++ (c.rest ++ fz)))) l.fr ok.K z.nw ⟨l.knows ok _ _ (.inl p1),rfl,rfl,(z.nw _ mem_mid).1⟩ rfl hs.set hs.plain hs.taker hs.dict (by rw [fr.keys hm]; rfl) rfl (upd_of z.nd) (by rw [hput.length]; simp; exact Nat.le_of_lt_succ (by assumption)) fun h' F' N' => ?_
  refine k _ ⟨ok,g,os,m,_,cl,fz,r.withSto (SRelB.join s1 (MRelB.inst (n:=putN name es n) p1 hput ?_) s3),⟨F',e1 _ ▸ N',?_,l.cm⟩⟩
  · rw [List.map_append,List.nodup_append]
    refine ⟨hn,List.nodup_cons.mpr ⟨List.not_mem_nil,List.nodup_nil⟩,fun x hx y hy e => hm ?_⟩
    obtain rfl : y = name:=List.mem_singleton.mp hy
    exact e ▸ hx
  · have nd:=z.nd
    rw [e1,keys_app,keys_cons]; rw [keys_app,keys_cons] at nd; exact nd

variable {QX : Fl → Vars → Sto → Prop}
inductive SetF (K : Frag) (σ : Sto) (o : V) (x : Str) (d : V) (Q : Sto → Prop) : Prop
  | mk (a C : Addr) (fs : List (Str × V)) (τ₁ τ₂ : Sto) (e1 : o = .raw (.ref a)) (e2 : σ = τ₁ ++ (a,.inst C fs) :: τ₂) (h1 : SetOf K C x) (h2 : x ∉ fs.map (·.1)) (h3 : fs.length < 1000) (q : Q (τ₁ ++ (a,.inst C (fs ++ [(x,d)])) :: τ₂)) : SetF K σ o x d Q
theorem xSetAttr {o value : Expr} {attr : Str} {pos' pos : Pos} (hs : swapsWith value (some (.Attribute o attr pos')) pos.line c.env = pure false)
    (h : WT c (eval value c.env) ρ σ fun d σ₁ => WT c (eval o c.env) ρ σ₁ fun e σ₂ => SetF c.K σ₂ e attr d (QX .next ρ)) :
    WX c (exec (.Assign [.Attribute o attr pos'] value pos) c.env) ρ σ QX:=fun τ s R X hR =>
  plainObj_wpAny_Assign_Attribute (hs:=hs) (h τ s _ X fun v d σ₁ s₁ q X₁ => q _ s₁ _ X₁ fun ov e σ₂ s₂ q₂ X₂ => by
    obtain ⟨a,C,fs,τ₁,τ₂,rfl,rfl,h1,h2,h3,q⟩:=q₂
    obtain rfl:=sRaw X₂ (.head _)
    exact X₂.setAttr h1 h2 h3 (.tail _ (.head _)) fun s' X' => hR _ _ _ _ _ _ q .next X'.tl.tl)
end
end
end Mine
end
section
set_option tactic.hygienic false
namespace Mine
noncomputable section
noncomputable def Cx.callee (c : Cx) (A : Around) (env : Env) (g : Heap) (cl : Led) : Cx:=
  { c with A₀:=A,A:=A.deeper env,h₀:=g,outer:=c.fenv :: c.outer,fenv:=env,env:=env,rest:=cl ++ c.rest,comp:=none,n:=c.n - 1 }

structure Cx.Like (c c' : Cx) : Prop where
  prog : c'.prog = c.prog
  w : c'.w = c.w
  K : c'.K = c.K
  base : c'.base = c.base

structure Near (A B : Around) : Prop where
  frames : B.frames = A.frames
  handled : B.handled = A.handled
  depth : B.depth ≤ A.depth + 1
  units : B.units ≤ A.units + 10
theorem Near.refl (A : Around) : Near A A:=⟨rfl,rfl,by exact Nat.le_add_right _ _,by exact Nat.le_add_right _ _⟩

noncomputable def nameOk (scope : Scope) (x : Str) : Bool:=!(x == ("__debug__" : Str)) && (scope.names.lookup x == some .local || scope.names.lookup x == some .cell)
noncomputable def globOk (scope : Scope) (x : Str) : Bool:=!(x == ("__debug__" : Str)) && scope.names.lookup x == some .globalImplicit
noncomputable def sigOk (scope : Scope) (ps ls gn : List Str) : Bool:=
  ps.all (nameOk scope) && ls.all (nameOk scope) && gn.all (globOk scope) && decide ((ps ++ (ls ++ gn)).Nodup) && decide (((cellsFrom 0 scope.names []).map (·.1)).Nodup)
  && !scope.isCoroutine && !scope.isGenerator && scope.kind == .function

noncomputable def startVars (ps ls : List Str) (gl : List (Str × V)) (ds : List V) : Vars:=(ps.zip ds).map (fun p => (p.1,Slot.own (some p.2))) ++ (ls.map (fun x => (x,Slot.own Option.none)) ++ gl.map (fun p => (p.1,Slot.ro p.2)))

theorem cellsFrom_addrs : ∀ (names : List (Str × NameKind)) (n : Nat) (acc : List (Str × Addr)),(∀ p ∈ acc,p.2 < n) → (acc.map (·.2)).Nodup → ((cellsFrom n names acc).map (·.2)).Nodup
  | [],_,_,_,h => h
  | (x,k) :: r,n,acc,ha,h => by
    unfold cellsFrom
    split
    · refine cellsFrom_addrs r _ _ (fun p hp => ?_) ?_
      · rcases List.mem_cons.mp hp with rfl | hp
        · exact Nat.lt_succ_self n
        · exact Nat.lt_succ_of_lt (ha p hp)
      · rw [List.map_cons,List.nodup_cons]
        refine ⟨fun q => ?_,h⟩
        obtain ⟨p,hp,e⟩:=List.mem_map.mp q
        have:=ha p hp
        rw [e] at this
        exact Nat.lt_irrefl _ this
    · exact cellsFrom_addrs r _ _ ha h
theorem cellsFrom_above : ∀ (names : List (Str × NameKind)) (n : Nat) (acc : List (Str × Addr)) (b : Nat),b ≤ n → (∀ p ∈ acc,b ≤ p.2) → ∀ p ∈ cellsFrom n names acc,b ≤ p.2
  | [],_,_,_,_,h => h
  | (x,k) :: r,n,acc,b,hb,h => by
    unfold cellsFrom
    split
    · exact cellsFrom_above r _ _ b (Nat.le_succ_of_le hb) fun p hp => by
        rcases List.mem_cons.mp hp with rfl | hp
        · exact hb
        · exact h p hp
    · exact cellsFrom_above r _ _ b hb h
theorem cellsAre_keys {cm : Str → Option Value} {cs : List (Str × Addr)} {cells : Led} (h : CellsAre cm cs cells) : keys cells = cs.map (·.2):=by
  induction h with
  | nil => rfl
  | cons _ _ ih => rw [keys_cons,ih]; rfl
theorem cellsAre_look {cm : Str → Option Value} {cs : List (Str × Addr)} {cells : Led} (h : CellsAre cm cs cells) {x : Str} {a : Addr} (hx : cs.lookup x = some a) : ∃ o,(a,o) ∈ cells ∧ o.data = .cell (cm x):=by
  induction h with
  | nil => cases hx
  | @cons n c o cs cells hd _ ih =>
    rw [List.lookup_cons] at hx
    split at hx
    · rename_i e
      cases hx
      exact ⟨o,.head _,by rw [hd,beq_iff_eq.mp e]⟩
    · obtain ⟨o',h1,h2⟩:=ih hx
      exact ⟨o',.tail _ h1,h2⟩

theorem bindL_other {k : Str → Option NameKind} {x : Str} : ∀ {b : List (Str × Value)} {m : Str → Option Value},x ∉ b.map (·.1) → bindL k b m x = m x
  | [],_,_ => rfl
  | (n,v) :: r,m,h => by
    rw [List.map_cons,List.mem_cons,not_or] at h
    unfold bindL
    rw [bindL_other h.2]
    split
    · simp [h.1]
    · rfl
theorem bindC_other {k : Str → Option NameKind} {x : Str} : ∀ {b : List (Str × Value)} {m : Str → Option Value},x ∉ b.map (·.1) → bindC k b m x = m x
  | [],_,_ => rfl
  | (n,v) :: r,m,h => by
    rw [List.map_cons,List.mem_cons,not_or] at h
    unfold bindC
    rw [bindC_other h.2]
    split
    · rfl
    · simp [h.1]
theorem bindL_at {k : Str → Option NameKind} {x : Str} {v : Value} (hk : k x = some .local) : ∀ {b : List (Str × Value)} {m : Str → Option Value},(b.map (·.1)).Nodup → (x,v) ∈ b → bindL k b m x = some v
  | (n,u) :: r,m,hn,h => by
    rw [List.map_cons,List.nodup_cons] at hn
    unfold bindL
    rcases List.mem_cons.mp h with q | q
    · cases q
      rw [bindL_other hn.1,if_pos hk]; simp
    · exact bindL_at hk hn.2 q
theorem bindC_at {k : Str → Option NameKind} {x : Str} {v : Value} (hk : k x ≠ some .local) : ∀ {b : List (Str × Value)} {m : Str → Option Value},(b.map (·.1)).Nodup → (x,v) ∈ b → bindC k b m x = some v
  | (n,u) :: r,m,hn,h => by
    rw [List.map_cons,List.nodup_cons] at hn
    unfold bindC
    rcases List.mem_cons.mp h with q | q
    · cases q
      rw [bindC_other hn.1,if_neg hk]; simp
    · exact bindC_at hk hn.2 q

noncomputable def GV (K : Frag) (x : Str) (v : Value) : Prop:=nsIn K mainGlobals x = some (some v) ∨ (nsIn K mainGlobals x = some Option.none ∧ bootBuiltins x = some v ∧ x ≠ "__name__")

section
variable {c : Cx} {ρ : Vars} {σ : Sto} {τ : List (Value × V)} {s : Shared} {Q : V → Sto → Prop}

inductive AllOf (c : Cx) (m : Str → Option Value) (cl fz : Led) (l : Vars) : Prop
  | mk (π : List (Value × V)) (h : ∀ p ∈ π,c.VR fz p.1 p.2) (o : ∀ x d,(x,Slot.own (some d)) ∈ l → ∃ v,Look c m cl x v ∧ (v,d) ∈ π) (r : ∀ x d,(x,Slot.ro d) ∈ l → ∃ v,Look c m cl x v ∧ (v,d) ∈ π) : AllOf c m cl fz l
theorem AllOf.nil {m : Str → Option Value} {cl fz : Led} : AllOf c m cl fz []:=⟨[],(fun Z hp => nomatch hp),(fun Z Z h => nomatch h),(fun Z Z h => nomatch h)⟩
theorem AllOf.skip {m : Str → Option Value} {cl fz : Led} {l : Vars} {x : Str} (h : AllOf c m cl fz l) : AllOf c m cl fz ((x,.own Option.none) :: l):=by
  obtain ⟨π,h1,h2,h3⟩:=h
  exact ⟨π,h1,fun y d h => h2 y d ((List.mem_cons.mp h).resolve_left fun e => nomatch e),fun y d h => h3 y d ((List.mem_cons.mp h).resolve_left fun e => nomatch e)⟩
theorem AllOf.cons {m : Str → Option Value} {cl fz : Led} {l : Vars} {x : Str} {sl : Slot} {d : V} {v : Value} (h : AllOf c m cl fz l) (hs : sl = .own (some d) ∨ sl = .ro d) (hv : Look c m cl x v) (hr : c.VR fz v d) : AllOf c m cl fz ((x,sl) :: l):=by
  obtain ⟨π,h1,h2,h3⟩:=h
  refine ⟨(v,d) :: π,fun p hp => (List.mem_cons.mp hp).elim (fun e => e ▸ hr) (h1 p),fun y e h => ?_,fun y e h => ?_⟩
  · rcases List.mem_cons.mp h with q | h
    · rcases hs with rfl | rfl <;> cases q
      exact ⟨v,hv,.head _⟩
    · obtain ⟨u,a,b⟩:=h2 y e h; exact ⟨u,a,.tail _ b⟩
  · rcases List.mem_cons.mp h with q | h
    · rcases hs with rfl | rfl <;> cases q
      exact ⟨v,hv,.head _⟩
    · obtain ⟨u,a,b⟩:=h3 y e h; exact ⟨u,a,.tail _ b⟩
theorem Rel.all {m : Str → Option Value} {raw cl fz : Led} (r : Rel c ρ σ τ m raw cl fz) : AllOf c m cl fz ρ:=by
  have key : ∀ l : Vars,(∀ p ∈ l,p ∈ ρ) → AllOf c m cl fz l:=by
    intro l
    induction l with
    | nil => exact fun Z => .nil
    | cons q l ih =>
      intro hl
      have h:=ih fun p hp => hl p (.tail _ hp)
      obtain ⟨x,sl⟩:=q
      have hq:=hl (x,sl) (.head _)
      cases sl with
      | own o =>
        cases o with
        | none => exact h.skip
        | some d₀ => obtain ⟨v,hv,hr⟩:=r.own x d₀ hq; exact h.cons (.inl rfl) hv hr
      | ro d₀ => obtain ⟨v,hv,hr⟩:=r.ro x d₀ hq; exact h.cons (.inr rfl) hv hr
  exact key ρ fun Z h => h

structure SigOk (scope : Scope) (ps ls gn : List Str) : Prop where
  hp : ∀ x ∈ ps,nameOk scope x = true
  hl : ∀ x ∈ ls,nameOk scope x = true
  hg : ∀ x ∈ gn,globOk scope x = true
  nodup : (ps ++ (ls ++ gn)).Nodup
  cells : ((cellsFrom 0 scope.names []).map (·.1)).Nodup
  co : scope.isCoroutine = false
  gen : scope.isGenerator = false
  kind : scope.kind = .function
theorem SigOk.of {scope : Scope} {ps ls gn : List Str} (h : sigOk scope ps ls gn = true) : SigOk scope ps ls gn:=by
  simp only [sigOk,Bool.and_eq_true,List.all_eq_true,decide_eq_true_eq,Bool.not_eq_true',beq_iff_eq] at h
  obtain ⟨⟨⟨⟨⟨⟨⟨h1,h2⟩,h3⟩,h4⟩,h5⟩,h6⟩,h7⟩,h8⟩:=h
  exact ⟨h1,h2,h3,h4,h5,h6,h7,h8⟩
theorem nmDebug {scope : Scope} {x : Str} (h : nameOk scope x = true) : (x == ("__debug__" : Str)) = false:=by
  simp only [nameOk,Bool.and_eq_true,Bool.not_eq_true'] at h; exact h.1
theorem nmKind {scope : Scope} {x : Str} (h : nameOk scope x = true) : scope.names.lookup x = some .local ∨ scope.names.lookup x = some .cell:=by
  simp only [nameOk,Bool.and_eq_true,Bool.or_eq_true,beq_iff_eq] at h; exact h.2


theorem zip_keys {α : Type} : ∀ {ps : List Str} {vs : List α},ps.length = vs.length → (ps.zip vs).map (·.1) = ps
  | [],[],_ => rfl
  | p :: ps,v :: vs,h => by rw [List.zip_cons_cons,List.map_cons,zip_keys (Nat.succ.inj h)]
  | [],_ :: _,h => by cases h
  | _ :: _,[],h => by cases h
theorem zip_mem {ps : List Str} {vs : List Value} {ds : List V} {x : Str} {d : V} (hv : vs.length = ds.length) (h : (x,d) ∈ ps.zip ds) : ∃ v,(x,v) ∈ ps.zip vs ∧ (v,d) ∈ vs.zip ds:=by
  induction ps generalizing vs ds with
  | nil => simp at h
  | cons p ps ih =>
    cases ds with
    | nil => simp at h
    | cons e ds => cases vs with
      | nil => cases hv
      | cons u vs =>
        rcases List.mem_cons.mp h with q | q
        · cases q; exact ⟨u,.head _,.head _⟩
        · obtain ⟨v,a,b⟩:=ih (Nat.succ.inj hv) q
          exact ⟨v,.tail _ a,.tail _ b⟩

noncomputable def BodyOf (c : Cx) (scope : Scope) (body : List Stmt) (ps ls : List Str) (gl : List (Str × V)) (ds : List V) (σ : Sto) (Q : V → Sto → Prop) : Prop:=
  ∀ c' : Cx,c.Like c' → c'.n + 1 = c.n → c'.env.scope = scope → c'.comp = Option.none → WX c' (execs body c'.env) (startVars ps ls gl ds) σ fun fl Z σ' => match fl with
    | .ret d => Q d σ'
    | .next => Q .none σ'
    | _ => False

inductive StartMem (ps ls : List Str) (gl : List (Str × V)) (ds : List V) (x : Str) (sl : Slot) : Prop
  | par (d : V) (h : (x,d) ∈ ps.zip ds) (e : sl = .own (some d))
  | loc (h : x ∈ ls) (e : sl = .own Option.none)
  | glob (d : V) (h : (x,d) ∈ gl) (e : sl = .ro d)
theorem startMem {ps ls : List Str} {gl : List (Str × V)} {ds : List V} {x : Str} {sl : Slot} (h : (x,sl) ∈ startVars ps ls gl ds) : StartMem ps ls gl ds x sl:=by
  rcases List.mem_append.mp h with h | h
  · obtain ⟨p,hp,e⟩:=List.mem_map.mp h; cases e; exact .par p.2 hp rfl
  · rcases List.mem_append.mp h with h | h
    · obtain ⟨y,hy,e⟩:=List.mem_map.mp h; cases e; exact .loc hy rfl
    · obtain ⟨p,hp,e⟩:=List.mem_map.mp h; cases e; exact .glob p.2 hp rfl
theorem start_names {ps ls : List Str} {gl : List (Str × V)} {ds : List V} (hl : ps.length = ds.length) : (startVars ps ls gl ds).map (·.1) = ps ++ (ls ++ gl.map (·.1)):=by
  have e1 : ((ps.zip ds).map (fun p => (p.1,Slot.own (some p.2)))).map (·.1) = ps:=by rw [List.map_map]; exact zip_keys hl
  have e2 : (ls.map (fun x => (x,Slot.own Option.none))).map (·.1) = ls:=by rw [List.map_map]; exact List.map_id _
  have e3 : (gl.map (fun p => (p.1,Slot.ro p.2))).map (·.1) = gl.map (·.1):=by rw [List.map_map]; rfl
  unfold startVars
  rw [List.map_append,List.map_append,e1,e2,e3]
theorem Rel.start {m : Str → Option Value} {raw cl fz : Led} {ps ls : List Str} {gl : List (Str × V)} {ds : List V} (nd : (ps ++ (ls ++ gl.map (·.1))).Nodup) (hl : ps.length = ds.length) (sto : SRel c fz σ raw) (hown : ∀ x,x ∈ ps ∨ x ∈ ls → Own c cl x)
    (hlook : ∀ x d,(x,d) ∈ ps.zip ds → ∃ v,Look c m cl x v ∧ c.VR fz v d) (hg : ∀ x d,(x,d) ∈ gl → ∃ v,Look c m cl x v ∧ c.VR fz v d) (tmp : ∀ v d,(v,d) ∈ τ → c.VR fz v d) : Rel c (startVars ps ls gl ds) σ τ m raw cl fz where
  sto:=sto
  own:=fun x d h => by
    cases startMem h with
    | par d' h e => cases e; exact hlook x d h
    | loc h e => cases e
    | glob d' h e => cases e
  ro:=fun x d h => by
    cases startMem h with
    | par d' h e => cases e
    | loc h e => cases e
    | glob d' h e => cases e; exact hg x d h
  mine:=fun x o h => by
    cases startMem h with
    | par d' h e => exact hown x (.inl (zip_keys hl ▸ List.mem_map.mpr ⟨_,h,rfl⟩))
    | loc h e => exact hown _ (.inr h)
    | glob d' h e => cases e
  nodup:=by rw [start_names hl]; exact nd
  tmp:=tmp
theorem Cx.Ok.callee {A : Around} (hA : Near c.A A) (ok : c.Ok) (hn : 1 ≤ c.n) {e : Env} {g : Heap} {cl : Led} (T : Top c.p c.loose c.mean c.mg c.mb g) (B : Below A c.base (c.fenv :: c.outer) g) (ff : e.frame = some e.locals) (fk : e.scope.kind = .function) (fr : (A.deeper e).frames = some (e :: c.fenv :: c.outer))
    (hd : (A.deeper e).handled = A.handled) (h1 : (A.deeper e).depth = A.depth + 1) (h2 : (A.deeper e).units = A.units + 3) (eg : e.globals = mainGlobals) (eb : e.builtins = builtinsNs) (hc : (e.cells.map (·.2)).Nodup) : (c.callee A e g cl).Ok where
  kb:=ok.kb
  T:=T
  B:=B
  fr:=fr
  ff:=ff
  fk:=fk
  ek:=fk
  eg:=eg
  eb:=eb
  hd:=hd.trans (hA.handled.trans ok.hd)
  depth:=by
    have:=ok.depth
    have:=hA.depth
    show (A.deeper e).depth + 2 * (c.n - 1) ≤ 900
    omega
  units:=by
    have:=ok.units
    have:=hA.units
    show (A.deeper e).units + 20 * (c.n - 1) ≤ 9000
    omega
  same:=fun Z => rfl
  cells:=hc
theorem cellNew {cm : Str → Option Value} {scope : Scope} {n : Nat} {cells : Led} (Y : CellsAre cm (cellsFrom n scope.names []) cells) {x : Str} (hk : scope.names.lookup x = some .cell) : ∃ a o,(cellsFrom n scope.names []).lookup x = some a ∧ (a,o) ∈ cells ∧ o.data = .cell (cm x):=by
  obtain ⟨a,ha⟩:=Option.isSome_iff_exists.mp (cellsFrom_some scope.names n [] (.inl hk))
  obtain ⟨o,ho',hd'⟩:=cellsAre_look Y ha
  exact ⟨a,o,ha,ho',hd'⟩
theorem permN {raw cells cl R fz : Led} : (raw ++ (cells ++ ((cl ++ R) ++ fz))).Perm (cells ++ (raw ++ (cl ++ (R ++ fz)))):=by
  rw [List.append_assoc]; exact List.perm_append_comm_assoc raw cells _
theorem cells_new {cm : Str → Option Value} {scope : Scope} {h₀ h : Heap} {L n : Nat} {cells l : Led} (Y : CellsAre cm (cellsFrom n scope.names []) cells) (nd : (keys l).Nodup) (lt : ∀ p ∈ l,p.1 < n) (N : News h₀ L h (cells ++ l)) : Stand h₀ L h (cells ++ l):=by
  refine ⟨N,?_⟩
  rw [keys_app,cellsAre_keys Y,List.nodup_append]
  refine ⟨cellsFrom_addrs _ _ _ (fun p hp => nomatch hp) List.nodup_nil,nd,fun a ha b hb e => ?_⟩
  obtain ⟨p,hp,rfl⟩:=List.mem_map.mp hb
  obtain ⟨q,hq,hqa⟩:=List.mem_map.mp ha
  have h3 : n ≤ q.2:=cellsFrom_above _ _ [] n (Nat.le_refl _) (fun p hp => nomatch hp) q hq
  rw [hqa,e] at h3
  exact Nat.lt_irrefl _ (Nat.lt_of_lt_of_le (lt p hp) h3)
theorem St.behind {c₁ : Cx} {ρ₁ : Vars} {σ₁ : Sto} {τ' π : List (Value × V)} {m m₁ : Str → Option Value} {raw cl fz raw₁ cl₁ fz₁ : Led} {s₁ : Shared} (ok : c.Ok) (g : s₁.gens = c.gens) (os : s₁.os = c.os) (r : Rel c ρ σ τ m raw cl fz)
    (hπo : ∀ x d,(x,Slot.own (some d)) ∈ ρ → ∃ v,Look c m cl x v ∧ (v,d) ∈ π) (hπr : ∀ x d,(x,Slot.ro d) ∈ ρ → ∃ v,Look c m cl x v ∧ (v,d) ∈ π) (e1 : c₁.prog = c.prog) (e2 : c₁.w = c.w) (e3 : c₁.base = c.base)
    (r₁ : Rel c₁ ρ₁ σ₁ (τ' ++ (π ++ τ)) m₁ raw₁ cl₁ fz₁) (l : Lay c m raw₁ cl fz₁ s₁.heap) {v : Value} {d : V} (hv : c.VR fz₁ v d) : St c ρ σ₁ ((v,d) :: τ) s₁:=by
  have eq : ∀ {v d},c₁.VR fz₁ v d → c.VR fz₁ v d:=fun {v d} h => by
    unfold Cx.VR Cx.Knows at h ⊢
    rw [e1,e2,e3] at h; exact h
  have hp : ∀ p ∈ π ++ τ,c.VR fz₁ p.1 p.2:=fun p hp => eq (r₁.tmp p.1 p.2 (List.mem_append_right _ hp))
  refine ⟨ok,g,os,m,raw₁,cl,fz₁,⟨?_,fun x d h => ?_,fun x d h => ?_,r.mine,r.nodup,fun u e h => (List.mem_cons.mp h).elim (fun e' => by cases e'; exact hv) fun h => hp _ (List.mem_append_right _ h)⟩,l⟩
  · have h:=r₁.sto
    unfold SRel at h ⊢
    rw [e1,e2,e3] at h; exact h
  · obtain ⟨u,h1,h2⟩:=hπo x d h; exact ⟨u,h1,hp _ (List.mem_append_left _ h2)⟩
  · obtain ⟨u,h1,h2⟩:=hπr x d h; exact ⟨u,h1,hp _ (List.mem_append_left _ h2)⟩
theorem runFn {A : Around} (hA : Near c.A A) {f : Addr} {name qual : Str} {params : Arguments} {body : List Stmt} {scope : Scope} {dV kV doc pm cdv ct oc : Value} {an od : Option Addr} {osl : Array (Option Value)}
    (ho : c.K.lookup f = some ⟨oc,od,.func (fnOf name qual params body scope dV kV doc pm an cdv ct),osl⟩) (hcd : codeIn c.K cdv qual = true) (hn : 1 ≤ c.n)
    {ps ls : List Str} {gl : List (Str × V)} {ds : List V} {vs as : List Value} (X : St c ρ σ τ s) (hv : vs.length = ds.length) (hm : ∀ p ∈ vs.zip ds,p ∈ τ) (hpl : ps.length = ds.length)
    (hb : BindsTo s (fnOf name qual params body scope dV kV doc pm an cdv ct) ⟨as,[]⟩ (ps.zip vs)) (sg : SigOk scope ps ls (gl.map (·.1))) (hg : ∀ p ∈ gl,∃ v,GV c.K p.1 v ∧ ∀ fz,c.VR fz v p.2)
    (hbody : BodyOf c scope body ps ls gl ds σ Q) {R : Result → Shared → Prop} (hR : ∀ v d σ' s',Q d σ' → St c ρ σ' ((v,d) :: τ) s' → R (.ok (.ret v)) s') : codeAny c.M A (.call (.ref f) ⟨as,[]⟩) R s:=by
  obtain ⟨ok,g,os,m,raw,cl,fz,r,l⟩:=X
  obtain ⟨π,hπ,hπo,hπr⟩:=r.all
  have hdep : A.depth < recursionLimit:=by
    have h1:=ok.depth
    have h2:=hA.depth
    show _ < 1000
    omega
  have hps : (ps.zip vs).map (·.1) = ps:=zip_keys (hpl.trans hv.symm)
  refine code_defC ok.B l.fr ok.K l.nw ok.T (hA.frames.trans ok.fr) ok.ff ok.fk ho hcd hdep hb ?_ sg.cells (fun G L' h₁ tk cells FG F' N' Y B' KG TG lt => ?_) sg.co sg.gen sg.kind
  · refine List.all_eq_true.mpr fun y hy => ?_
    have:=nmKind (sg.hp y.1 (hps ▸ List.mem_map.mpr ⟨y,hy,rfl⟩))
    simpa using this
  have cok : (c.callee A (envOfC qual scope L' f cdv) G cl).Ok:=ok.callee hA hn TG B' rfl sg.kind (Around.frames_deeper (hA.frames.trans ok.fr)) rfl rfl rfl rfl rfl (cellsFrom_addrs _ _ _ (fun p hp => nomatch hp) List.nodup_nil)
  have hlook : ∀ x d,(x,d) ∈ ps.zip ds → ∃ v,Look (c.callee A (envOfC qual scope L' f cdv) G cl) (bindL (envOfC qual scope L' f cdv).kindOf (ps.zip vs) fun Z => Option.none) cells x v ∧ c.VR fz v d:=fun x d h => by
    obtain ⟨v,h1,h2⟩:=zip_mem hv h
    have hx : x ∈ ps:=hps ▸ List.mem_map.mpr ⟨_,h1,rfl⟩
    have hnd : ((ps.zip vs).map (·.1)).Nodup:=by rw [hps]; exact (List.nodup_append.mp sg.nodup).1
    refine ⟨v,⟨nmDebug (sg.hp x hx),?_⟩,r.tmp _ _ (hm _ h2)⟩
    show LookK _ _ _ _ x v (scope.names.lookup x)
    rcases nmKind (sg.hp x hx) with hk | hk
    · rw [hk]; exact bindL_at hk hnd h1
    · obtain ⟨a,o,ha,ho',hd'⟩:=cellNew Y hk
      rw [hk]
      exact ⟨a,o,ha,List.mem_append_left _ ho',hd'.trans (congrArg Data.cell (bindC_at (fun q => nomatch hk.symm.trans (show scope.names.lookup x = some .local from q)) hnd h1))⟩
  have hown : ∀ x,nameOk scope x = true → Own (c.callee A (envOfC qual scope L' f cdv) G cl) cells x:=fun x hx => by
    refine ⟨nmDebug hx,?_⟩
    rcases nmKind hx with hk | hk
    · exact .inl hk
    · obtain ⟨a,o,ha,ho',hd'⟩:=cellNew Y hk
      exact .inr ⟨rfl,hk,a,o,_,ha,ho',hd'⟩
  have hgl : ∀ x d,(x,d) ∈ gl → ∃ v,Look (c.callee A (envOfC qual scope L' f cdv) G cl) (bindL (envOfC qual scope L' f cdv).kindOf (ps.zip vs) fun Z => Option.none) cells x v ∧ c.VR fz v d:=fun x d hp => by
    obtain ⟨v,h1,h2⟩:=hg (x,d) hp
    have hgk:=sg.hg x (List.mem_map.mpr ⟨_,hp,rfl⟩)
    simp only [globOk,Bool.and_eq_true,Bool.not_eq_true',beq_iff_eq] at hgk
    refine ⟨v,⟨hgk.1,?_⟩,h2 fz⟩
    show LookK _ _ _ _ x v (scope.names.lookup x)
    rw [hgk.2]; exact h1
  have z:=(cells_new (n:=L' + 1) Y l.nd (fun p hp => Nat.lt_succ_of_lt (lt p hp)) N').perm permN
  have rel : Rel (c.callee A (envOfC qual scope L' f cdv) G cl) (startVars ps ls gl ds) σ (π ++ τ) (bindL (envOfC qual scope L' f cdv).kindOf (ps.zip vs) fun Z => Option.none) raw cells fz:=
    Rel.start sg.nodup hpl r.sto (fun x hx => hown x (hx.elim (sg.hp x) (sg.hl x))) hlook hgl fun v d h => (List.mem_append.mp h).elim (hπ _) (r.tmp _ _)
  refine nope (hbody (c.callee A (envOfC qual scope L' f cdv) G cl) ⟨rfl,rfl,rfl,rfl⟩ (Nat.sub_add_cancel hn) rfl rfl (π ++ τ) _ _ ⟨cok,g,os,_,raw,cells,fz,rel,⟨F',z.nw,z.nd,fun q => by cases q⟩⟩ fun fl fd ρ' σ' s' τ' q fr X' => ?_)
  clear rel z hgl hown hlook cok
  obtain ⟨ok',g',os',m',raw',cl',fz',r',l'⟩:=X'
  have sub : (raw' ++ (cl ++ (c.rest ++ fz'))).Sublist (raw' ++ (cl' ++ ((cl ++ c.rest) ++ fz'))):=by
    rw [← List.append_assoc cl]
    exact (List.Sublist.refl _).append (List.sublist_append_right _ _)
  have z':=Stand.sub ⟨l'.nw,l'.nd⟩ sub
  refine ⟨_,_,raw' ++ (cl ++ (c.rest ++ fz')),l'.fr,z'.nw,fun FF NN => ?_⟩
  have back : ∀ v d,c.VR fz' v d → St c ρ σ' ((v,d) :: τ) s':=fun v d hvd => St.behind (c₁:=c.callee A (envOfC qual scope L' f cdv) G cl) ok g' os' r hπo hπr rfl rfl rfl r' ⟨FF,NN,z'.nd,l.cm⟩ hvd
  cases fr with
  | next => exact hR _ _ _ _ q (back .none .none .none)
  | brk => exact q.elim
  | cont => exact q.elim
  | ret v d => exact hR _ _ _ _ q (back v d (r'.tmp v d (.head _)))
end
end
end Mine
end
section
set_option tactic.hygienic false
namespace Mine
noncomputable section
inductive FnIs (K : Frag) (f : Addr) (params : Arguments) (body : List Stmt) (scope : Scope) (dV : Value) : Prop
  | mk (oc : Value) (od : Option Addr) (osl : Array (Option Value)) (name qual : Str) (kV doc pm : Value) (an : Option Addr) (cdv ct : Value)
    (h1 : K.lookup f = some ⟨oc,od,.func (fnOf name qual params body scope dV kV doc pm an cdv ct),osl⟩) (h2 : codeIn K cdv qual = true) : FnIs K f params body scope dV
theorem FnIs.keep {K : Frag} {f : Addr} {params : Arguments} {body : List Stmt} {scope : Scope} {dV : Value} (h : FnIs K f params body scope dV) : keepIn K (.ref f) = true:=by
  obtain ⟨oc,od,osl,name,qual,kV,doc,pm,an,cdv,ct,h1,h2⟩:=h
  unfold keepIn
  simp only [h1]

noncomputable def Binds (K : Frag) (params : Arguments) (body : List Stmt) (scope : Scope) (dV : Value) (ps : List Str) (n : Nat) : Prop:=
  ∀ (name qual : Str) (kV doc pm : Value) (an : Option Addr) (cdv ct : Value) (s : Shared) (vs : List Value),K.In s.heap → vs.length = n → BindsTo s (fnOf name qual params body scope dV kV doc pm an cdv ct) ⟨vs,[]⟩ (ps.zip vs)

noncomputable def BindsD (K : Frag) (params : Arguments) (body : List Stmt) (scope : Scope) (dV : Value) (ps : List Str) (n k : Nat) : Prop:=
  ∀ (name qual : Str) (kV doc pm : Value) (an : Option Addr) (cdv ct : Value) (s : Shared) (vs : List Value),K.In s.heap → vs.length = n → BindsTo s (fnOf name qual params body scope dV kV doc pm an cdv ct) ⟨vs,[]⟩ (ps.zip (vs ++ List.replicate k .none))
section
variable {c : Cx} {ρ : Vars} {σ : Sto} {τ : List (Value × V)} {s : Shared} {Q : V → Sto → Prop}

theorem wFn {f : Addr} {params : Arguments} {body : List Stmt} {scope : Scope} {dV : Value} {ps ls : List Str} {gl : List (Str × V)} {ds : List V}
    (hf : FnIs c.K f params body scope dV) (hn : 1 ≤ c.n) (hb : Binds c.K params body scope dV ps ds.length) (hpl : ps.length = ds.length) (sg : SigOk scope ps ls (gl.map (·.1))) (hg : ∀ p ∈ gl,∃ v,GV c.K p.1 v ∧ ∀ fz,c.VR fz v p.2)
    (hbody : BodyOf c scope body ps ls gl ds σ Q) : WC c (.ref f) ds ρ σ Q:=fun τ s vs R hv hm X hR => by
  obtain ⟨oc,od,osl,name,qual,kV,doc,pm,an,cdv,ct,h1,h2⟩:=hf
  exact wpAny_call (runFn (Near.refl _) h1 h2 hn X hv hm hpl (hb _ _ _ _ _ _ _ _ s vs X.inK hv) sg hg hbody fun v d σ' s' q X' => hR v d σ' s' q X')

theorem typeCall_units (a : Args) : Code.cUnits (.builtin "type.__call__" a) ≤ 10:=by
  have e : Code.frames (.builtin "type.__call__" a) = 0:=by kernel_rfl
  show 1 + 3 * Code.frames (.builtin "type.__call__" a) ≤ 10
  rw [e]; decide

theorem wNewD {k : Nat} {C fI : Addr} {params : Arguments} {body : List Stmt} {scope : Scope} {dV : Value} {ps ls : List Str} {gl : List (Str × V)} {ds : List V}
    (hmk : makesIn c.K C = true) (hi : findIn c.K (.ref C) "__init__" = some (some (.ref fI))) (hfn : isFn c.K (.ref fI) = true)
    (hf : FnIs c.K fI params body scope dV) (hn : 1 ≤ c.n) (hb : BindsD c.K params body scope dV ps (ds.length + 1) k) (hpl : ps.length = ds.length + 1 + k) (sg : SigOk scope ps ls (gl.map (·.1))) (hg : ∀ p ∈ gl,∃ v,GV c.K p.1 v ∧ ∀ fz,c.VR fz v p.2)
    (hbody : ∀ x,BodyOf c scope body ps ls gl (.raw (.ref x) :: (ds ++ List.replicate k V.none)) ((x,.inst C []) :: σ) fun d σ' => d = .none ∧ ∃ σ₁ fs σ₂,σ' = σ₁ ++ (x,.inst C fs) :: σ₂ ∧ Q (.obj C fs) (σ₁ ++ σ₂)) :
    WC c (.ref C) ds ρ σ Q:=fun τ s vs R hv hm X hR => by
  obtain ⟨oc,od,osl,name,qual,kV,doc,pm,an,cdv,ct,h1,h2⟩:=hf
  obtain ⟨ok,g,os,m,raw,cl,fz,r,l⟩:=X
  refine call_cls l.fr ok.K l.nw hmk hi hfn fun x dx h' F' N' lt1 lt2 => ?_
  have hk : ∀ p ∈ raw ++ (cl ++ (c.rest ++ fz)),p.1 ≠ dx ∧ p.1 ≠ x:=fun p hp => ⟨Nat.ne_of_lt (lt1 p hp),Nat.ne_of_lt (Nat.lt_trans (lt1 p hp) lt2)⟩
  have nd : (keys ((x,instObj C dx) :: (dx,dictOf [] 0) :: (raw ++ (cl ++ (c.rest ++ fz))))).Nodup:=by
    rw [keys_cons,keys_cons,List.nodup_cons,List.nodup_cons]
    refine ⟨fun q => ?_,fun q => ?_,l.nd⟩
    · rcases List.mem_cons.mp q with q | q
      · exact Nat.ne_of_gt lt2 q
      · obtain ⟨p,hp,e⟩:=List.mem_map.mp q; exact (hk p hp).2 e
    · obtain ⟨p,hp,e⟩:=List.mem_map.mp q; exact (hk p hp).1 e
  have r':=r.mono (fz':=(x,instObj C dx) :: fz) fun Z q => .tail _ q
  have X' : St c ρ ((x,.inst C []) :: σ) ((.ref x,.raw (.ref x)) :: τ) { s with heap:=h' } :=
    ⟨ok,g,os,m,(dx,dictOf [] 0) :: raw,cl,(x,instObj C dx) :: fz,(r'.withSto (SRelB.cons (MRelB.inst (.head _) .nil List.nodup_nil) r'.sto)).held (.raw _),F',fun p hp => N' p ((permZ (raw:=(dx,dictOf [] 0) :: raw)).mem_iff.mp hp),keys_perm nd (permZ (raw:=(dx,dictOf [] 0) :: raw)),l.cm⟩
  have hz : ∀ p ∈ (List.replicate k Value.none).zip (List.replicate k V.none),p = (Value.none,V.none):=fun p hp => by
    have h1:=(List.of_mem_zip hp).1
    have h2:=(List.of_mem_zip hp).2
    exact Prod.ext (List.eq_of_mem_replicate h1) (List.eq_of_mem_replicate h2)
  refine runFn (A:=c.A.under (.builtin "type.__call__" ⟨.ref C :: vs,[]⟩)) ⟨rfl,rfl,Nat.le_refl _,Nat.add_le_add_left (typeCall_units _) _⟩ h1 h2 hn (X'.hold (v:=.none) (d:=.none) fun Z => .none) (vs:=.ref x :: (vs ++ List.replicate k .none)) (ds:=.raw (.ref x) :: (ds ++ List.replicate k V.none)) (by rw [List.length_cons,List.length_cons,List.length_append,List.length_append,hv,List.length_replicate,List.length_replicate]) (fun p hp => ?_) (by rw [hpl,List.length_cons,List.length_append,List.length_replicate,Nat.add_right_comm]) (hb _ _ _ _ _ _ _ _ _ (.ref x :: vs) X'.inK (congrArg Nat.succ hv)) sg hg (hbody x) fun v d σ' s' q X2 => ?_
  · rcases List.mem_cons.mp hp with rfl | hp
    · exact .tail _ (.head _)
    · have hp : p ∈ (vs ++ List.replicate k Value.none).zip (ds ++ List.replicate k V.none):=hp
      rw [List.zip_append hv] at hp
      rcases List.mem_append.mp hp with hp | hp
      · exact .tail _ (.tail _ (hm p hp))
      · rw [hz p hp]; exact .head _
  · obtain ⟨rfl,σ₁,fs,σ₂,rfl,q⟩:=q
    obtain rfl:=sNone X2 (.head _)
    exact ⟨rfl,hR _ _ _ _ q X2.tl.tl.tl.freezeInst⟩
end
end
end Mine
end
section
namespace Mine
noncomputable section
noncomputable def dget {K : Type} [DecidableEq K] (ds : List (K × V)) (k : K) : Option V:=(ds.find? fun kv => kv.1 = k).map (·.2)
noncomputable def dput {K : Type} [DecidableEq K] (ds : List (K × V)) (k : K) (d : V) : List (K × V):=
  if ds.any (fun kv => kv.1 = k) then ds.map (fun kv => if kv.1 = k then (kv.1,d) else kv) else ds ++ [(k,d)]
noncomputable def ddel {K : Type} [DecidableEq K] (ds : List (K × V)) (k : K) : List (K × V):=ds.filter fun kv => decide (kv.1 ≠ k)

section
variable {prog : Program} {w : World} {P : Addr → Obj → Prop}
theorem KRels.length {kvs : List (Int × Value)} {ds : List (Int × V)} (h : KRels prog w P kvs ds) : kvs.length = ds.length:=by
  induction kvs generalizing ds with
  | nil => cases h; rfl
  | cons p r ih => cases h with | cons a b => simp [ih b]
theorem KRels.get {kvs : List (Int × Value)} {ds : List (Int × V)} (h : KRels prog w P kvs ds) (k : Int) :
    (∀ d,dget ds k = some d → ∃ v,valueAt kvs k = some v ∧ VRel prog w P v d) ∧ (dget ds k = none → valueAt kvs k = none):=by
  unfold dget valueAt
  induction kvs generalizing ds with
  | nil => cases h; exact ⟨(fun d e => nomatch e),fun Z => rfl⟩
  | cons p r ih =>
    cases h with
    | @cons k' v d' _ ds a b =>
      rw [List.find?_cons,List.find?_cons]
      cases hk : decide (k' = k) with
      | true => exact ⟨fun d e => ⟨v,rfl,Option.some.inj e ▸ a⟩,(fun e => nomatch e)⟩
      | false => exact ih b
theorem KRels.any {kvs : List (Int × Value)} {ds : List (Int × V)} (h : KRels prog w P kvs ds) (k : Int) : (kvs.any fun kv => kv.1 = k) = ds.any fun kv => kv.1 = k:=by
  induction kvs generalizing ds with
  | nil => cases h; rfl
  | cons p r ih => cases h with | cons a b => simp [ih b]
theorem KRels.append {kvs kvs' : List (Int × Value)} {ds ds' : List (Int × V)} (h : KRels prog w P kvs ds) (h' : KRels prog w P kvs' ds') : KRels prog w P (kvs ++ kvs') (ds ++ ds'):=by
  induction kvs generalizing ds with
  | nil => cases h; exact h'
  | cons p r ih => cases h with | cons a b => exact .cons a (ih b)
theorem KRels.put {kvs : List (Int × Value)} {ds : List (Int × V)} {v : Value} {d : V} (h : KRels prog w P kvs ds) (hv : VRel prog w P v d) (k : Int) : KRels prog w P (stored kvs k v) (dput ds k d):=by
  unfold stored dput
  rw [h.any k]
  split
  · rename_i hany; clear hany
    induction kvs generalizing ds with
    | nil => cases h; exact .nil
    | cons p r ih =>
      cases h with
      | cons a b =>
        rename_i k' v' d' ds
        rw [List.map_cons,List.map_cons]
        by_cases hk : k' = k
        · simp only [hk,if_true]; exact .cons hv (ih b)
        · simp only [hk,if_false]; exact .cons a (ih b)
  · exact h.append (.cons hv .nil)
theorem KRels.del {kvs : List (Int × Value)} {ds : List (Int × V)} (h : KRels prog w P kvs ds) (k : Int) : KRels prog w P (without kvs k) (ddel ds k):=by
  unfold without ddel
  induction kvs generalizing ds with
  | nil => cases h; exact .nil
  | cons p r ih =>
    cases h with
    | cons a b =>
      rename_i k' v' d' ds
      by_cases hk : k' = k
      · simp [List.filter_cons,hk]; simpa using ih b
      · simp [List.filter_cons,hk]; exact .cons a (by simpa using ih b)
theorem SRels.get {kvs : List (Str × Value)} {ds : List (Str × V)} (h : SRels prog w P kvs ds) (k : Str) :
    (∀ d,dget ds k = some d → ∃ v,valueAt kvs k = some v ∧ VRel prog w P v d) ∧ (dget ds k = none → valueAt kvs k = none):=by
  unfold dget valueAt
  induction kvs generalizing ds with
  | nil => cases h; exact ⟨(fun d e => nomatch e),fun Z => rfl⟩
  | cons p r ih =>
    cases h with
    | @cons k' v d' _ ds a b =>
      rw [List.find?_cons,List.find?_cons]
      cases hk : decide (k' = k) with
      | true => exact ⟨fun d e => ⟨v,rfl,Option.some.inj e ▸ a⟩,(fun e => nomatch e)⟩
      | false => exact ih b
end

inductive DRd (σ : Sto) : V → List (Int × V) → Prop
  | data {es : List (Int × V)} : DRd σ (.dict es) es
  | chg {a : Addr} {es : List (Int × V)} : (a,MO.dict es) ∈ σ → DRd σ (.raw (.ref a)) es
inductive LRd (σ : Sto) : V → List V → Prop
  | data {ds : List V} : LRd σ (.list ds) ds
  | chg {a : Addr} {ds : List V} : (a,MO.list ds) ∈ σ → LRd σ (.raw (.ref a)) ds
  | gchg {a : Addr} {ds : List V} : (a,MO.glist ds) ∈ σ → LRd σ (.raw (.ref a)) ds

section
variable {c : Cx} {ρ : Vars} {σ : Sto} {τ : List (Value × V)} {s : Shared} {Q : V → Sto → Prop}

inductive DictAt (c : Cx) (ρ : Vars) (σ : Sto) (τ : List (Value × V)) (s : Shared) (va : Value) (es : List (Int × V)) : Prop
  | mk (a : Addr) (kvs : List (Int × Value)) (fz : Led) (e : va = .ref a) (h1 : (a == sysModules) = false) (h2 : s.heap.DictOf (intKind c.prog c.w) a kvs) (h3 : KRels c.prog c.w (c.Knows fz) kvs es) (hz : ∀ v d,(v,d) ∈ τ → c.VR fz v d)
    (P0 : ∀ v d t,c.VR fz v d → St c ρ σ ((v,d) :: τ) { s with toks:=t }) : DictAt c ρ σ τ s va es
theorem St.dictAt {va : Value} {d : V} {es : List (Int × V)} (X : St c ρ σ τ s) (ha : (va,d) ∈ τ) (h : DRd σ d es) : DictAt c ρ σ τ s va es:=by
  cases h with
  | data =>
    obtain ⟨m,news,fz,F,N,hz,kn,P0,P1,P2⟩:=X.frame
    obtain ⟨_,_,_,rfl,p,h1,h2,h3⟩:=(hz _ _ ha).inv
    exact ⟨_,_,fz,rfl,h1,Heap.dictOf_iff.mpr ⟨_,kn _ _ p,h2⟩,h3,hz,P0⟩
  | chg hσ =>
    obtain rfl:=sRaw X ha
    obtain ⟨m,news,fz,F,N,hz,kn,P0,P1,b,o,ho,mr⟩:=X.frameM hσ
    obtain ⟨_,rfl,h1,h2,h3⟩:=mr.inv
    exact ⟨_,_,fz,rfl,h1,Heap.dictOf_iff.mpr ⟨_,ho,h2⟩,h3,hz,P0⟩
inductive ListAt (c : Cx) (ρ : Vars) (σ : Sto) (τ : List (Value × V)) (s : Shared) (va : Value) (ds : List V) : Prop
  | mk (m : Str → Option Value) (news : Led) (a : Addr) (vs : List Value) (fz : Led) (e : va = .ref a) (h1 : s.heap.IsList a vs.toArray) (h2 : VRels c.prog c.w (c.Knows fz) vs ds) (hz : ∀ v d,(v,d) ∈ τ → c.VR fz v d)
    (P0 : ∀ v d t,c.VR fz v d → St c ρ σ ((v,d) :: τ) { s with toks:=t }) (F : Fr c.h₀ c.fenv.locals s.heap m) (N : News c.h₀ c.fenv.locals s.heap news)
    (P1 : ∀ h' o d t,Fr c.h₀ c.fenv.locals h' m → News c.h₀ c.fenv.locals h' ((s.heap.objs.size,o) :: news) → c.VR ((s.heap.objs.size,o) :: fz) (.ref s.heap.objs.size) d → St c ρ σ ((.ref s.heap.objs.size,d) :: τ) { s with heap:=h',toks:=t }) : ListAt c ρ σ τ s va ds
theorem St.listAt {va : Value} {d : V} {ds : List V} (X : St c ρ σ τ s) (ha : (va,d) ∈ τ) (h : LRd σ d ds) : ListAt c ρ σ τ s va ds:=by
  cases h with
  | data =>
    obtain ⟨m,news,fz,F,N,hz,kn,P0,P1,P2⟩:=X.frame
    obtain ⟨_,_,_,_,rfl,p,h1,h2,h3⟩:=(hz _ _ ha).inv
    exact ⟨m,news,_,_,fz,rfl,⟨_,kn _ _ p,h1,_,h2⟩,h3,hz,P0,F,N,P1⟩
  | chg hσ =>
    obtain rfl:=sRaw X ha
    obtain ⟨m,news,fz,F,N,hz,kn,P0,P1,b,o,ho,mr⟩:=X.frameM hσ
    obtain ⟨_,_,rfl,rfl,r⟩:=mr.inv
    exact ⟨m,news,_,_,fz,rfl,isList_of ⟨_,ho⟩,r,hz,P0,F,N,P1⟩
  | gchg hσ =>
    obtain rfl:=sRaw X ha
    obtain ⟨m,news,fz,F,N,hz,kn,P0,P1,b,o,ho,mr⟩:=X.frameM hσ
    obtain ⟨_,_,rfl,h1,h2,r⟩:=mr.inv
    exact ⟨m,news,_,_,fz,rfl,⟨_,ho,h1,_,h2⟩,r,hz,P0,F,N,P1⟩
theorem KRels.there {prog : Program} {w : World} {P : Addr → Obj → Prop} {kvs : List (Int × Value)} {es : List (Int × V)} (h : KRels prog w P kvs es) (k : Int) : (valueAt kvs k).isSome = (dget es k).isSome:=by
  cases e : dget es k with
  | none => rw [(h.get k).2 e]; rfl
  | some x => obtain ⟨v,hv,_⟩:=(h.get k).1 x e; rw [hv]; rfl
theorem len1 {α : Type} {l : List α} (h : l.length = 1) : ∃ a,l = [a]:=List.length_eq_one_iff.mp h
theorem len2 {α : Type} {l : List α} (h : l.length = 2) : ∃ a b,l = [a,b]:=by
  cases l with
  | nil => cases h
  | cons a l => obtain ⟨b,rfl⟩:=len1 (Nat.succ.inj h); exact ⟨a,b,rfl⟩
theorem len3 {α : Type} {l : List α} (h : l.length = 3) : ∃ a b c,l = [a,b,c]:=by
  cases l with
  | nil => cases h
  | cons a l => obtain ⟨b,c,rfl⟩:=len2 (Nat.succ.inj h); exact ⟨a,b,c,rfl⟩
theorem len4 {α : Type} {l : List α} (h : l.length = 4) : ∃ a b c d,l = [a,b,c,d]:=by
  cases l with
  | nil => cases h
  | cons a l => obtain ⟨b,c,d,rfl⟩:=len3 (Nat.succ.inj h); exact ⟨a,b,c,d,rfl⟩

theorem gDict {value slice : Expr} {d x : V} {es : List (Int × V)} {k : Int} (hd : DRd σ d es) (hk : dget es k = some x) (hs : ∀ o i,subscripted slice false o i = operate [o,i] (getItem o i)) (q : Q x σ) : W2 c (subscriptTail value slice) d (.int k) ρ σ Q:=fun τ s va vb R ha hb X hR => by
  obtain ⟨t,rfl⟩:=sInt X hb
  obtain ⟨a,kvs,fz,rfl,h1,h2,h3,hz,P0⟩:=X.dictAt ha hd
  obtain ⟨v,hv,hr⟩:=(h3.get k).1 x hk
  exact tail_any h2.typeIs slot_dict_getitem.lookup (wpAny_getItem_of (intKind_is _ _ _ _) h2.mapOf hv (hR _ _ _ _ q (P0 v x _ hr))) (hs _ _)
theorem gSdict {value slice : Expr} {x : V} {es : List (Str × V)} {k : Str} (hk : dget es k = some x) (hs : ∀ o i,subscripted slice false o i = operate [o,i] (getItem o i)) (q : Q x σ) : W2 c (subscriptTail value slice) (.sdict es) (.str k) ρ σ Q:=fun τ s va vb R ha hb X hR => by
  obtain ⟨t,rfl⟩:=sStr X hb
  obtain ⟨m,news,fz,F,N,hz,kn,P0,P1,P2⟩:=X.frame
  obtain ⟨_,_,_,rfl,p,h1,h2,h3⟩:=(hz _ _ ha).inv
  have hD : s.heap.DictOf (strKind c.prog c.w) _ _:=Heap.dictOf_iff.mpr ⟨_,kn _ _ p,h2⟩
  obtain ⟨v,hv,hr⟩:=(h3.get k).1 x hk
  exact tail_any hD.typeIs slot_dict_getitem.lookup (wpAny_getItem_of (strKind_is _ _ _ _) hD.mapOf hv (hR _ _ _ _ q (P0 v x _ hr))) (hs _ _)
theorem gListM {value slice : Expr} {d x : V} {ds : List V} {i : Int} (hd : LRd σ d ds) (h0 : 0 ≤ i) (hhi : i < 2 ^ 63) (hx : ds[i.toNat]? = some x) (hs : ∀ o i,subscripted slice false o i = operate [o,i] (getItem o i)) (q : Q x σ) :
    W2 c (subscriptTail value slice) d (.int i) ρ σ Q:=fun τ s va vb R ha hb X hR => by
  obtain ⟨t,rfl⟩:=sInt X hb
  obtain ⟨m,news,a,vs,fz,rfl,h1,h2,hz,P0,_,_,_⟩:=X.listAt ha hd
  obtain ⟨v,hv,hr⟩:=h2.get hx
  exact tail_any h1.typeIs slot_list_getitem.lookup (wpAny_getItem_list h1 h0 hhi (by simpa using hv) (hR _ _ _ _ q (P0 v x _ hr))) (hs _ _)
theorem oInD {d : V} {es : List (Int × V)} {k : Int} (hd : DRd σ d es) (q : Q (.bool (dget es k).isSome) σ) : W2 c (compareOp .In) (.int k) d ρ σ Q:=fun τ s va vb R ha hb X hR => by
  obtain ⟨t,rfl⟩:=sInt X ha
  obtain ⟨a,kvs,fz,rfl,h1,h2,h3,hz,P0⟩:=X.dictAt hb hd
  refine wpAny_in_of (intKind_is _ _ _ _) h1 h2.mapOf (hR _ _ _ _ q ?_)
  rw [h3.there k]
  exact P0 _ _ _ (.bool _)
theorem oNotInD {d : V} {es : List (Int × V)} {k : Int} (hd : DRd σ d es) (q : Q (.bool !(dget es k).isSome) σ) : W2 c (compareOp .NotIn) (.int k) d ρ σ Q:=fun τ s va vb R ha hb X hR => by
  obtain ⟨t,rfl⟩:=sInt X ha
  obtain ⟨a,kvs,fz,rfl,h1,h2,h3,hz,P0⟩:=X.dictAt hb hd
  refine wpAny_notIn_of (intKind_is _ _ _ _) h1 h2.mapOf (hR _ _ _ _ q ?_)
  rw [h3.there k]
  exact P0 _ _ _ (.bool _)

theorem GM.dict {name : Str} {d : V} {es : List (Int × V)} {id : String} (hd : DRd σ d es) (slot : PySem.Slot "dict" name id) (hty : typeOf (.builtin id) = pure (.type "method_descriptor")) : GM c name d (.builtin id) ρ σ:=
  GM.builtin PySem.F.plainAttrs_dict slot hty fun τ s va hv X => by
    obtain ⟨a,kvs,fz,rfl,h1,h2,h3,hz,P0⟩:=X.dictAt hv hd
    exact ⟨h2.typeIs,fun b e => by cases e; exact h2.mapOf.noDict _ rfl⟩
theorem GM.mlist {name : Str} {a : Addr} {ds : List V} {id : String} (hd : (a,MO.list ds) ∈ σ) (slot : PySem.Slot "list" name id) (hty : typeOf (.builtin id) = pure (.type "method_descriptor")) : GM c name (.raw (.ref a)) (.builtin id) ρ σ:=
  GM.builtin PySem.F.plainAttrs_list slot hty fun τ s va hv X => by
    obtain rfl:=sRaw X hv
    obtain ⟨fz,b,o,ho,mr,_,_,_⟩:=X.peek hd
    obtain ⟨_,_,rfl,rfl,r⟩:=mr.inv
    exact ⟨⟨_,ho,rfl⟩,fun b e => by cases e; exact ⟨_,ho,rfl⟩⟩

theorem mGet {d : V} {es : List (Int × V)} {k : Int} (hd : DRd σ d es) (q : Q ((dget es k).getD .none) σ) : WC c (.builtin "dict.get") [d,.int k] ρ σ Q:=fun τ s vs R hv hm X hR => by
  obtain ⟨va,vb,rfl⟩:=len2 hv
  have ha:=hm (va,d) (.head _)
  have hb:=hm (vb,.int k) (.tail _ (.head _))
  obtain ⟨t,rfl⟩:=sInt X hb
  obtain ⟨a,kvs,fz,rfl,h1,h2,h3,hz,P0⟩:=X.dictAt ha hd
  refine call_meetsIn PySem.F.slot_dict_get h2.typeIs PySem.F.entry_dict_get (PySem.F.args_dict_get_2 _ _) (meets_dict_get (intKind c.prog c.w) a (intKind_is _ _ _ _) h1) ⟨_,h2.mapOf,?_⟩
  cases e : dget es k with
  | none => rw [(h3.get k).2 e]; rw [e] at q; exact hR _ _ _ _ q (P0 _ _ _ .none)
  | some x => obtain ⟨v,hv,hr⟩:=(h3.get k).1 x e; rw [hv]; rw [e] at q; exact hR _ _ _ _ q (P0 v x _ hr)
end
end
end Mine
end
section
set_option tactic.hygienic false
namespace Mine
noncomputable section
section
variable {c : Cx} {ρ : Vars} {σ : Sto} {τ : List (Value × V)} {s : Shared} {Q : V → Sto → Prop}


theorem eraseIdx_last {α : Type} {u : α} : ∀ us : List α,(us ++ [u]).eraseIdx us.length = us
  | [] => rfl
  | a :: us => by rw [List.cons_append,List.length_cons,List.eraseIdx_cons_succ,eraseIdx_last us]

theorem mAppend {σ₁ σ₂ : Sto} {a : Addr} {ds : List V} {d : V} (hsz : ds.length ≤ sizeLine) (q : Q .none (σ₁ ++ (a,.list (ds ++ [d])) :: σ₂)) : WC c (.builtin "list.append") [.raw (.ref a),d] ρ (σ₁ ++ (a,.list ds) :: σ₂) Q:=fun τ s vs R hv hm X hR => by
  obtain ⟨va,vb,rfl⟩:=len2 hv
  have ha:=hm (va,.raw (.ref a)) (.head _)
  have hb:=hm (vb,d) (.tail _ (.head _))
  obtain rfl:=sRaw X ha
  refine St.update (mo':=.list (ds ++ [d])) X fun fz b o mr ho hz kn up => ?_
  obtain ⟨ws,n,rfl,rfl,r⟩:=mr.inv
  refine call_meets PySem.F.slot_list_append ⟨_,ho,rfl⟩ PySem.F.entry_list_append (PySem.F.args_list_append_2 _ _) (list_append a ws.toArray n vb (by simpa [r.length] using hsz)) ⟨ho,?_⟩
  have e : (ws.toArray.push vb) = (ws ++ [vb]).toArray:=by simp
  have X':=up (s.heap.update a (Obj.mapSeq fun xs => xs.push vb)) s.toks (lstO (ws ++ [vb]) _) (Heap.SameBut.update ..) (by
    have:=IsL.update (h:=s.heap) ho (fun xs => xs.push vb)
    rw [e] at this; exact this) (.list (r.append (.cons (hz _ _ hb) .nil)))
  exact hR _ _ _ _ q (X'.hold fun Z => .none)

theorem mPop {σ₁ σ₂ : Sto} {a : Addr} {ds : List V} {d : V} (hsz : ds.length + 1 ≤ sizeLine) (q : Q d (σ₁ ++ (a,.list ds) :: σ₂)) : WC c (.builtin "list.pop") [.raw (.ref a)] ρ (σ₁ ++ (a,.list (ds ++ [d])) :: σ₂) Q:=fun τ s vs R hv hm X hR => by
  obtain ⟨va,rfl⟩:=len1 hv
  have ha:=hm (va,.raw (.ref a)) (.head _)
  obtain rfl:=sRaw X ha
  obtain ⟨fz',b',o',ho',mr',hz',kn',hold⟩:=X.peek mem_mid
  obtain ⟨ws,n,rfl,rfl,r⟩:=mr'.inv
  have hl:=r.length
  have hne : ws ≠ []:=fun e => by subst e; simp at hl
  obtain ⟨us,u,rfl⟩ : ∃ us u,ws = us ++ [u]:=⟨ws.dropLast,ws.getLast hne,(List.dropLast_concat_getLast hne).symm⟩
  have hul : us.length = ds.length:=by simpa using hl
  have hu : c.VR fz' u d:=by
    obtain ⟨v,hv,hr⟩:=VRels.get r (i:=ds.length) (d:=d) (by simp)
    have : v = u:=by
      rw [← hul] at hv
      simpa using hv.symm
    exact this ▸ hr
  have X1:=hold [(u,d)] s.toks fun v' d' q => by rw [List.mem_singleton] at q; cases q; exact hu
  refine St.update (mo':=.list ds) X1 fun fz b o mr ho hz kn up => ?_
  have hoo : s.heap.get? a = some (lstO (us ++ [u]) n):=ho'
  obtain ⟨ws2,n2,rfl,rfl,r2⟩:=mr.inv
  have ho2 : s.heap.get? a = some (lstO ws2 n2):=ho
  rw [hoo] at ho2
  have e2 : us ++ [u] = ws2 ∧ n = n2:=by
    injection ho2 with e; injection e with _ _ e _
    injection e with e e3
    exact ⟨by simpa using e,e3⟩
  obtain ⟨rfl,rfl⟩:=e2
  have hsz' : (us ++ [u]).toArray.size ≤ sizeLine:=by simp [hul]; assumption
  refine call_meets PySem.F.slot_list_pop ⟨_,ho,rfl⟩ PySem.F.entry_list_pop (PySem.F.args_list_pop_1 _) (MeetsSeq.list_pop_last a (us ++ [u]).toArray n u (by simp) hsz') ⟨ho,?_⟩
  have e : ((us ++ [u]).toArray.eraseIdxIfInBounds ((us ++ [u]).toArray.size - 1)) = us.toArray:=by
    simp [Array.eraseIdxIfInBounds,eraseIdx_last]
  have X':=up (s.heap.update a (Obj.mapSeq fun xs => xs.eraseIdxIfInBounds ((us ++ [u]).toArray.size - 1))) s.toks (lstO us _) (Heap.SameBut.update ..) (by
    have:=IsL.update (h:=s.heap) ho (fun xs => xs.eraseIdxIfInBounds ((us ++ [u]).toArray.size - 1))
    rw [e] at this; exact this) (.list (by
      have:=r2.take ds.length
      rwa [List.take_left' hul,List.take_left' rfl] at this))
  exact hR _ _ _ _ q X'

theorem mExtend {σ₁ σ₂ : Sto} {a b : Addr} {ds es : List V} (hsz : ds.length + es.length ≤ sizeLine) (q : Q .none (σ₁ ++ (a,.list (ds ++ es)) :: σ₂)) : WC c (.builtin "list.extend") [.raw (.ref a),.raw (.ref b)] ρ ((b,.list es) :: (σ₁ ++ (a,.list ds) :: σ₂)) Q:=fun τ s vs R hv hm X hR => by
  obtain ⟨va,vb,rfl⟩:=len2 hv
  have ha:=hm (va,.raw (.ref a)) (.head _)
  have hb:=hm (vb,.raw (.ref b)) (.tail _ (.head _))
  obtain rfl:=sRaw X ha
  obtain rfl:=sRaw X hb
  obtain ⟨fz',b',o',ho',mr',hz',kn',hold⟩:=X.peek (.head _)
  obtain ⟨ws,n,rfl,rfl,r'⟩:=mr'.inv
  have X1:=hold (ws.zip es) s.toks fun v d q => VRels.mem_zip r' q
  have X2 : St c ρ (σ₁ ++ (a,.list ds) :: σ₂) (ws.zip es ++ τ) s:=St.drop (σ₁:=[]) X1
  refine St.update (mo':=.list (ds ++ es)) X2 fun fz o₁ o mr ho hz kn up => ?_
  obtain ⟨us,n',rfl,rfl,r⟩:=mr.inv
  have hl : ws.length = es.length:=VRels.length r'
  have hsz' : us.toArray.size + ws.toArray.size ≤ sizeLine:=by simpa [r.length,hl] using hsz
  refine call_meets PySem.F.slot_list_extend ⟨_,ho,rfl⟩ PySem.F.entry_list_extend (PySem.F.args_list_extend_2 _ _) (AutoSeq1.list_extend_list_list_0 a us.toArray n' b ws.toArray n (extend_door hsz') (Nat.le_trans (Nat.le_add_right _ _) hsz') (Nat.le_succ_of_le hsz')) ⟨ho,ho',?_⟩
  have e : (us.toArray ++ ws.toArray) = (us ++ ws).toArray:=by simp
  have X':=up (s.heap.update a (Obj.mapSeq fun xs => xs ++ ws.toArray)) s.toks (lstO (us ++ ws) _) (Heap.SameBut.update ..) (by
    have:=IsL.update (h:=s.heap) ho (fun xs => xs ++ ws.toArray)
    rw [e] at this; exact this) (.list (r.append (VRels.of_mem hl fun p hp => hz p.1 p.2 (List.mem_append_left _ hp))))
  exact hR _ _ _ _ q (X'.rappl.hold fun Z => .none)

theorem mDictPop {σ₁ σ₂ : Sto} {a : Addr} {es : List (Int × V)} {k : Int} (hsz : es.length ≤ sizeLine) (q : ∀ d,Q d (σ₁ ++ (a,.dict (ddel es k)) :: σ₂)) : WC c (.builtin "dict.pop") [.raw (.ref a),.int k,.none] ρ (σ₁ ++ (a,.dict es) :: σ₂) Q:=fun τ s vs R hv hm X hR => by
  obtain ⟨va,vb,vc,rfl⟩:=len3 hv
  have ha:=hm (va,.raw (.ref a)) (.head _)
  have hb:=hm (vb,.int k) (.tail _ (.head _))
  have hc:=hm (vc,.none) (.tail _ (.tail _ (.head _)))
  obtain rfl:=sRaw X ha
  obtain ⟨t,rfl⟩:=sInt X hb
  obtain rfl:=sNone X hc
  refine St.update (mo':=.dict (ddel es k)) X fun fz b o mr ho hz kn up => ?_
  obtain ⟨kvs,rfl,h1,h2,h3⟩:=mr.inv
  have hD : s.heap.DictOf (intKind c.prog c.w) a kvs:=Heap.dictOf_iff.mpr ⟨_,ho,h2⟩
  cases e : dget es k with
  | none =>
    have hno : valueAt kvs k = none:=(h3.get k).2 e
    refine call_meetsIn PySem.F.slot_dict_pop hD.typeIs PySem.F.entry_dict_pop (PySem.F.args_dict_pop_3 _ _ _) (meets_dict_pop_default (intKind c.prog c.w) a (intKind_is _ _ _ _) h1 rfl .none) ⟨kvs,hD,hno,?_⟩
    have hdel : ddel es k = es:=by
      unfold ddel
      refine List.filter_eq_self.mpr fun p hp => ?_
      simp only [dget,Option.map_eq_none_iff,List.find?_eq_none] at e
      simpa using e p hp
    rw [hdel] at q up
    exact hR _ _ _ _ (q _) ((up s.heap (s.toks + 1) o ⟨rfl,fun Z Z => rfl⟩ ho (.dict h1 h2 h3)).hold fun Z => .none)
  | some x =>
    obtain ⟨v,hv,hr⟩:=(h3.get k).1 x e
    refine call_meetsIn PySem.F.slot_dict_pop hD.typeIs PySem.F.entry_dict_pop (PySem.F.args_dict_pop_3 _ _ _) (meets_dict_pop_there (intKind c.prog c.w) a (intKind_is _ _ _ _) [.none] (.inr ⟨_,rfl⟩) rfl) ⟨kvs,v,hD,(by rw [h3.length]; exact hsz),hv,fun h' hmm hs => ?_⟩
    obtain ⟨o',ho',hd'⟩:=Heap.dictOf_iff.mp hmm
    exact hR _ _ _ _ (q _) ((up h' (s.toks + 1) o' hs ho' (.dict h1 hd' (h3.del k))).hold fun Z => .raw _)

noncomputable def WI (c : Cx) (e k d : V) (ρ : Vars) (σ : Sto) (Q : Sto → Prop) : Prop:=
  ∀ τ s ve vk vd (R : Unit → Shared → Prop),(ve,e) ∈ τ → (vk,k) ∈ τ → (vd,d) ∈ τ → St c ρ σ τ s → (∀ σ' s',Q σ' → St c ρ σ' τ s' → R () s') → wpAny c.M c.A (setItem ve vk vd) R Nope s
variable {QX : Fl → Vars → Sto → Prop} {QS : Sto → Prop}
theorem xSetItem {o i value : Expr} {pos' pos : Pos} (hs : swapsWith value (some (.Subscript o i pos')) pos.line c.env = pure false)
    (h : WT c (eval value c.env) ρ σ fun d σ₁ => WT c (eval o c.env) ρ σ₁ fun e σ₂ => WT c (eval i c.env) ρ σ₂ fun k σ₃ => WI c e k d ρ σ₃ fun σ' => QX .next ρ σ') : WX c (exec (.Assign [.Subscript o i pos'] value pos) c.env) ρ σ QX:=fun τ s R X hR =>
  wpAny_Assign_Subscript (hs:=hs) (h τ s _ X fun v d σ₁ s₁ q X₁ => q _ s₁ _ X₁ fun ov e σ₂ s₂ q₂ X₂ => q₂ _ s₂ _ X₂ fun iv k σ₃ s₃ q₃ X₃ =>
    q₃ _ s₃ ov iv v _ (.tail _ (.head _)) (.head _) (.tail _ (.tail _ (.head _))) X₃ fun σ' s' q' X' => hR _ _ _ _ _ _ q' .next X'.tl.tl.tl)
theorem iList {σ₁ σ₂ : Sto} {a : Addr} {ds : List V} {i : Int} {d : V} (h0 : 0 ≤ i) (hfit : i < 2 ^ 63) (hn : i < ds.length) (q : QS (σ₁ ++ (a,.glist (ds.set i.toNat d)) :: σ₂)) : WI c (.raw (.ref a)) (.int i) d ρ (σ₁ ++ (a,.list ds) :: σ₂) QS:=fun τ s ve vk vd R he hk hd X hR => by
  obtain rfl:=sRaw X he
  obtain ⟨t,rfl⟩:=sInt X hk
  refine St.update (mo':=.glist (ds.set i.toNat d)) X fun fz o₁ o mr ho hz kn up => ?_
  obtain ⟨_,_,rfl,rfl,r⟩:=mr.inv
  refine wpAny_setItem_list (isList_of ⟨_,ho⟩) h0 hfit (by simpa [r.length] using hn) fun h' hl' hs => ?_
  obtain ⟨o',ho',hc',n',hd'⟩:=hl'
  exact hR _ _ q (up h' s.toks o' hs ho' (.glist hc' (n:=n') (by rw [hd']; simp) (VRels.set r (hz _ _ hd) i.toNat)))
theorem iGlist {σ₁ σ₂ : Sto} {a : Addr} {ds : List V} {i : Int} {d : V} (h0 : 0 ≤ i) (hfit : i < 2 ^ 63) (hn : i < ds.length) (q : QS (σ₁ ++ (a,.glist (ds.set i.toNat d)) :: σ₂)) : WI c (.raw (.ref a)) (.int i) d ρ (σ₁ ++ (a,.glist ds) :: σ₂) QS:=fun τ s ve vk vd R he hk hd X hR => by
  obtain rfl:=sRaw X he
  obtain ⟨t,rfl⟩:=sInt X hk
  refine St.update (mo':=.glist (ds.set i.toNat d)) X fun fz o₁ o mr ho hz kn up => ?_
  obtain ⟨_,_,rfl,e1,e2,r⟩:=mr.inv
  refine wpAny_setItem_list ⟨_,ho,e1,_,e2⟩ h0 hfit (by simpa [r.length] using hn) fun h' hl' hs => ?_
  obtain ⟨o',ho',hc',n',hd'⟩:=hl'
  exact hR _ _ q (up h' s.toks o' hs ho' (.glist hc' (n:=n') (by rw [hd']; simp) (VRels.set r (hz _ _ hd) i.toNat)))
theorem iDict {σ₁ σ₂ : Sto} {a : Addr} {es : List (Int × V)} {k : Int} {d : V} (hsz : es.length ≤ sizeLine) (q : QS (σ₁ ++ (a,.dict (dput es k d)) :: σ₂)) : WI c (.raw (.ref a)) (.int k) d ρ (σ₁ ++ (a,.dict es) :: σ₂) QS:=fun τ s ve vk vd R he hk hd X hR => by
  obtain rfl:=sRaw X he
  obtain ⟨t,rfl⟩:=sInt X hk
  refine St.update (mo':=.dict (dput es k d)) X fun fz o₁ o mr ho hz kn up => ?_
  obtain ⟨_,rfl,h1,h2,h3⟩:=mr.inv
  refine wpAny_setItem_pairs (knd:=intKind c.prog c.w) (intKind_is _ _ _ _) (Heap.dictOf_iff.mpr ⟨_,ho,h2⟩) (fun h' hm hs => ?_) (by rw [h3.length]; exact hsz)
  obtain ⟨o',ho',hd'⟩:=Heap.dictOf_iff.mp hm
  exact hR _ _ q (up h' _ o' hs ho' (.dict h1 hd' (h3.put (hz _ _ hd) k)))

theorem wFreezeL {t : Sem Value} (h : WT c t ρ σ fun d σ' => ∃ a σ₁ σ₂ ds,d = .raw (.ref a) ∧ (σ' = σ₁ ++ (a,.list ds) :: σ₂ ∨ σ' = σ₁ ++ (a,.glist ds) :: σ₂) ∧ Q (.list ds) (σ₁ ++ σ₂)) : WT c t ρ σ Q:=fun τ s R X hR =>
  h τ s R X fun v d σ' s' q X' => by
    obtain ⟨a,σ₁,σ₂,ds,rfl,h1,q⟩:=q
    obtain rfl:=sRaw X' (.head _)
    rcases h1 with rfl | rfl
    · exact hR _ _ _ _ q X'.freezeList.r1
    · exact hR _ _ _ _ q X'.freezeGlist.r1
theorem wFreezeD {t : Sem Value} (h : WT c t ρ σ fun d σ' => ∃ a σ₁ σ₂ es,d = .raw (.ref a) ∧ σ' = σ₁ ++ (a,.dict es) :: σ₂ ∧ Q (.dict es) (σ₁ ++ σ₂)) : WT c t ρ σ Q:=fun τ s R X hR =>
  h τ s R X fun v d σ' s' q X' => by
    obtain ⟨a,σ₁,σ₂,ds,rfl,rfl,q⟩:=q
    obtain rfl:=sRaw X' (.head _)
    exact hR _ _ _ _ q X'.freezeDict.r1
end
end
end Mine
end
section
set_option tactic.hygienic false
namespace Mine
noncomputable section
section
variable {c : Cx} {ρ : Vars} {σ : Sto} {τ : List (Value × V)} {s : Shared} {Q : V → Sto → Prop}

theorem one {f : Value} {a : V} (h : ∀ τ s va (R : Value → Shared → Prop),(va,a) ∈ τ → St c ρ σ τ s → (∀ v d σ' s',Q d σ' → St c ρ σ' ((v,d) :: τ) s' → R v s') → wpAny c.M c.A (call f [va]) R Nope s) : WC c f [a] ρ σ Q:=fun τ s vs R hv hm X hR => by
  obtain ⟨va,rfl⟩:=len1 hv
  exact h τ s va R (hm (va,a) (.head _)) X hR
theorem two {f : Value} {a b : V} (h : ∀ τ s va vb (R : Value → Shared → Prop),(va,a) ∈ τ → (vb,b) ∈ τ → St c ρ σ τ s → (∀ v d σ' s',Q d σ' → St c ρ σ' ((v,d) :: τ) s' → R v s') → wpAny c.M c.A (call f [va,vb]) R Nope s) : WC c f [a,b] ρ σ Q:=fun τ s vs R hv hm X hR => by
  obtain ⟨va,vb,rfl⟩:=len2 hv
  exact h τ s va vb R (hm (va,a) (.head _)) (hm (vb,b) (.tail _ (.head _))) X hR

theorem lt63 {n : Nat} (h : n < 2 ^ 62) : (n : Int) < 2 ^ 63:=by omega
theorem bLenL {d : V} {ds : List V} (hd : LRd σ d ds) (hsz : ds.length < 2 ^ 62) (q : Q (.int ds.length) σ) : WC c (.builtin "len") [d] ρ σ Q:=one fun τ s va R ha X hR => by
  obtain ⟨m,news,a,vs,fz,rfl,h1,h2,hz,P0,_,_,_⟩:=X.listAt ha hd
  have e : vs.toArray.size = ds.length:=h2.length
  refine Calls.call_len_list h1 (by rw [e]; exact lt63 hsz) ?_
  rw [e]
  exact hR _ _ _ _ q (P0 _ _ _ (.int _ _))
theorem bLenD {d : V} {es : List (Int × V)} (hd : DRd σ d es) (hsz : es.length < 2 ^ 62) (q : Q (.int es.length) σ) : WC c (.builtin "len") [d] ρ σ Q:=one fun τ s va R ha X hR => by
  obtain ⟨a,kvs,fz,rfl,h1,h2,h3,hz,P0⟩:=X.dictAt ha hd
  refine call_len_dict h1 h2 (by rw [h3.length]; exact lt63 hsz) ?_
  rw [h3.length]
  exact hR _ _ _ _ q (P0 _ _ _ (.int _ _))
theorem bLenR {a b : Int} (hab : a ≤ b) (hsz : b - a < 2 ^ 62) (q : Q (.int (b - a)) σ) : WC c (.builtin "len") [.rng a b] ρ σ Q:=one fun τ s va R ha X hR => by
  obtain ⟨r,t,u,v,rfl,h1⟩:=X.rangeAt ha
  have e2 : (((b - a).toNat : Nat) : Int) = b - a:=Int.toNat_of_nonneg (Int.sub_nonneg_of_le hab)
  have e : Builtin.Range.rangeSize a b 1 = ((b - a).toNat : Nat):=by
    rw [Mine.rangeSize_one,e2]
    split
    · rfl
    · rename_i h
      rw [Int.le_antisymm hab (Int.not_lt.mp h),Int.sub_self]
  refine call_len_range h1 e (by rw [e2]; exact Int.lt_trans hsz (by decide)) ?_
  rw [e2]
  exact hR _ _ _ _ q (X.toks.hold fun Z => .int _ _)
theorem bIntI {n : Int} (q : Q (.int n) σ) : WC c (.type "int") [.int n] ρ σ Q:=one fun τ s va R ha X hR => by
  obtain ⟨t,rfl⟩:=sInt X ha
  exact call_int_int (hR _ _ _ _ q (X.hold fun Z => .int _ _))
theorem bIntB {b : Bool} (q : Q (.int (if b then 1 else 0)) σ) : WC c (.type "int") [.bool b] ρ σ Q:=one fun τ s va R ha X hR => by
  obtain rfl:=sBool X ha
  exact call_int_bool (hR _ _ _ _ q (X.toks.hold fun Z => .int _ _))
theorem bMax {a b : Int} (q : Q (.int (if b > a then b else a)) σ) : WC c (.builtin "max") [.int a,.int b] ρ σ Q:=two fun τ s va vb R ha hb X hR => by
  obtain ⟨t,rfl⟩:=sInt X ha
  obtain ⟨u,rfl⟩:=sInt X hb
  refine max_two_ints X.ok.hd fun h' tk hk => ?_
  have X' : St c ρ σ τ { s with heap:=h',toks:=tk }:=X.grow hk
  by_cases e : b > a
  · rw [if_pos e] at q ⊢; exact hR _ _ _ _ q (X'.hold fun Z => .int _ _)
  · rw [if_neg e] at q ⊢; exact hR _ _ _ _ q (X'.hold fun Z => .int _ _)
theorem bRange1 {n : Int} (q : Q (.rng 0 n) σ) : WC c (.type "range") [.int n] ρ σ Q:=one fun τ s va R ha X hR => by
  obtain ⟨t,rfl⟩:=sInt X ha
  exact call_range_1 (hR _ _ _ _ q (X.push rfl fun fz hz hm => .rng (.inl hm)))
theorem bRange2 {a b : Int} (q : Q (.rng a b) σ) : WC c (.type "range") [.int a,.int b] ρ σ Q:=two fun τ s va vb R ha hb X hR => by
  obtain ⟨t,rfl⟩:=sInt X ha
  obtain ⟨u,rfl⟩:=sInt X hb
  exact call_range_2 (hR _ _ _ _ q (X.push rfl fun fz hz hm => .rng (.inl hm)))

theorem Lay.pushAt {m : Str → Option Value} {raw cl fz : Led} {h h' : Heap} {D : Addr} {o : Obj} (l : Lay c m raw cl fz h) (F : Fr c.h₀ c.fenv.locals h' (c.comp.getD m)) (N : News c.h₀ c.fenv.locals h' ((D,o) :: (raw ++ (cl ++ (c.rest ++ fz))))) (lt : ∀ p ∈ raw ++ (cl ++ (c.rest ++ fz)),p.1 < D) :
    Lay c m raw cl ((D,o) :: fz) h' ∧ Lay c m ((D,o) :: raw) cl fz h':=by
  have z : Stand c.h₀ c.fenv.locals h' ((D,o) :: (raw ++ (cl ++ (c.rest ++ fz)))):=⟨N,List.nodup_cons.mpr ⟨fun q => by
    obtain ⟨p,hp,e⟩:=List.mem_map.mp q
    have:=lt p hp
    rw [e] at this
    exact Nat.lt_irrefl _ this,l.nd⟩⟩
  exact ⟨l.of F (z.perm permZ),l.of (raw':=(D,o) :: raw) F z⟩

inductive FrameA (c : Cx) (ρ : Vars) (σ : Sto) (τ : List (Value × V)) (s : Shared) : Prop
  | mk (m : Str → Option Value) (news fz : Led) (F : Fr c.h₀ c.fenv.locals s.heap m) (N : News c.h₀ c.fenv.locals s.heap news) (hz : ∀ v d,(v,d) ∈ τ → c.VR fz v d) (kn : ∀ a o,c.Knows fz a o → s.heap.get? a = some o)
    (P1 : ∀ D h' o d t,Fr c.h₀ c.fenv.locals h' m → News c.h₀ c.fenv.locals h' ((D,o) :: news) → (∀ p ∈ news,p.1 < D) → c.VR ((D,o) :: fz) (.ref D) d → St c ρ σ ((.ref D,d) :: τ) { s with heap:=h',toks:=t })
    (P2 : ∀ x mo,(x,mo) ∈ σ → ∃ a o,s.heap.get? a = some o ∧ MRel c fz x mo a o)
    (P3 : ∀ D h' o mo t,Fr c.h₀ c.fenv.locals h' m → News c.h₀ c.fenv.locals h' ((D,o) :: news) → (∀ p ∈ news,p.1 < D) → MRel c fz D mo D o → St c ρ ((D,mo) :: σ) ((.ref D,.raw (.ref D)) :: τ) { s with heap:=h',toks:=t }) : FrameA c ρ σ τ s
theorem St.frameA (X : St c ρ σ τ s) : FrameA c ρ σ τ s:=by
  obtain ⟨ok,g,os,m,raw,cl,fz,r,l⟩:=X
  refine ⟨_,_,fz,l.fr,l.nw,r.tmp,l.knows ok,fun D h' o d t F N lt hd => ⟨ok,g,os,m,raw,cl,_,(r.mono fun Z q => .tail _ q).held hd,(l.pushAt F N lt).1⟩,fun x mo hx => ?_,fun D h' o mo t F N lt hd => ⟨ok,g,os,m,_,cl,fz,(r.withSto (SRelB.cons hd r.sto)).held (.raw _),(l.pushAt F N lt).2⟩⟩
  obtain ⟨a,o,h1,h2⟩:=r.sto.mem hx
  exact ⟨a,o,(l.nw (a,o) (List.mem_append_left _ h1)).1,h2⟩

theorem bListL {d : V} {ds : List V} (hd : LRd σ d ds) (hsz : ds.length ≤ sizeLine) (q : Q (.list ds) σ) : WC c (.type "list") [d] ρ σ Q:=one fun τ s va R ha X hR => by
  obtain ⟨m,news,fz,F,N,hz,kn,P1,P2,_⟩:=X.frameA
  have key : ∀ a vs,s.heap.IsList a vs.toArray → VRels c.prog c.w (c.Knows fz) vs ds → va = .ref a → wpAny c.M c.A (call (.type "list") [va]) R Nope s:=fun a vs h1 h2 e => by
    subst e
    exact list_copyK F N h1 (fun D c' h' F' N' lt => hR _ _ _ _ q (P1 D h' _ _ s.toks F' N' lt (.list (n:=c') (.inl (.head _)) rfl rfl h2.more))) (by simpa [h2.length] using hsz)
  cases hd with
  | data =>
    have:=hz _ _ ha
    obtain ⟨_,_,_,_,rfl,p,h1,h2,h3⟩:=this.inv
    exact key _ _ ⟨_,kn _ _ p,h1,_,h2⟩ h3 rfl
  | chg hσ =>
    obtain ⟨b,o,ho,mr⟩:=P2 _ _ hσ
    obtain ⟨_,_,rfl,rfl,r⟩:=mr.inv
    exact key _ _ (isList_of ⟨_,ho⟩) r (sRaw X ha)
  | gchg hσ =>
    obtain ⟨b,o,ho,mr⟩:=P2 _ _ hσ
    obtain ⟨_,_,rfl,h1,h2,r⟩:=mr.inv
    exact key _ _ ⟨_,ho,h1,_,h2⟩ r (sRaw X ha)
theorem bListT {ds : List V} (hsz : ds.length ≤ sizeLine) (q : Q (.list ds) σ) : WC c (.type "list") [.tup ds] ρ σ Q:=one fun τ s va R ha X hR => by
  obtain ⟨m,news,fz,F,N,hz,kn,P1,P2,_⟩:=X.frameA
  have:=hz _ _ ha
  obtain ⟨_,_,_,rfl,p,r⟩:=this.inv
  exact list_copyKT F N (isTup_of ⟨_,kn _ _ p⟩) (fun D c' h' F' N' lt => hR _ _ _ _ q (P1 D h' _ _ s.toks F' N' lt (.list (n:=c') (.inl (.head _)) rfl rfl r.more))) (by simpa [r.length] using hsz)
theorem bTupT {ds : List V} (q : Q (.tup ds) σ) : WC c (.type "tuple") [.tup ds] ρ σ Q:=one fun τ s va R ha X hR => by
  obtain ⟨m,news,fz,F,N,hz,kn,P0,P1,P2⟩:=X.frame
  have h:=hz _ _ ha
  obtain ⟨_,_,_,rfl,p,r⟩:=h.inv
  exact call_tuple_same (isTuple_of ⟨_,kn _ _ p⟩) (hR _ _ _ _ q (P0 _ _ s.toks (hz _ _ ha)))
theorem bTupL {ds : List V} (hsz : ds.length ≤ sizeLine) (q : Q (.tup ds) σ) : WC c (.type "tuple") [.list ds] ρ σ Q:=one fun τ s va R ha X hR => by
  obtain ⟨a,vs,rfl,h2,hl',_,k⟩:=X.seqList ha
  refine call_tuple_list h2 (fun h' hk => ?_) (by simpa [hl'] using hsz)
  have X':=k h' s.toks hk
  exact hR _ _ _ _ q (X'.push (d:=.tup ds) rfl fun fz hz hm => .tup (n:=_) (.inl hm) (VRels.of_mem hl' fun p hp => hz p.1 p.2 (List.mem_append_left _ hp))).rapp
theorem bDict {d : V} {es : List (Int × V)} (hd : DRd σ d es) (hsz : es.length ≤ sizeLine) (q : ∀ a,Q (.raw (.ref a)) ((a,.dict es) :: σ)) : WC c (.type "dict") [d] ρ σ Q:=one fun τ s va R ha X hR => by
  have big : sysModules < c.h₀.objs.size:=modules_low X.ok.T.nolimit
  obtain ⟨ok,g,os,m,raw,cl,fz,r,l⟩:=X
  have key : ∀ a kvs,va = .ref a → (a == sysModules) = false → s.heap.DictOf (intKind c.prog c.w) a kvs → KRels c.prog c.w (c.Knows fz) kvs es → wpAny c.M c.A (call (.type "dict") [va]) R Nope s:=fun a kvs e h1 h2 h3 => by
    subst e
    refine kt_call_dict h1 h2 (by rw [h3.length]; exact hsz) fun h' hm hs => ?_
    obtain ⟨o',ho',hd'⟩:=Heap.dictOf_iff.mp hm
    have l1:=l.pushM { cls:=.type "dict",data:=.dict #[] } rfl
    have l2:=Lay.update (r₁:=[]) l1 hs ho'
    exact hR _ _ _ _ (q _) ⟨ok,g,os,m,_,cl,fz,(r.withSto (SRelB.cons (.dict (l.fr.notModules big) hd' h3) r.sto)).held (.raw _),l2⟩
  cases hd with
  | data =>
    have:=r.tmp _ _ ha
    obtain ⟨_,_,_,rfl,p,h1,h2,h3⟩:=this.inv
    exact key _ _ rfl h1 (Heap.dictOf_iff.mpr ⟨_,l.knows ok _ _ p,h2⟩) h3
  | @chg a _ hσ =>
    have e : va = .ref a:=(r.tmp _ _ ha).inv
    obtain ⟨b,o,hm,mr⟩:=r.sto.mem hσ
    obtain ⟨_,rfl,h1,h2,h3⟩:=mr.inv
    exact key _ _ e h1 (Heap.dictOf_iff.mpr ⟨_,(l.nw (_,o) (List.mem_append_left _ hm)).1,h2⟩) h3
theorem bIsBool {d : V} {b : Bool} (h : (∃ x,d = .bool x ∧ b = true) ∨ (∃ x,d = .int x ∧ b = false) ) (q : Q (.bool b) σ) : WC c (.builtin "isinstance") [d,.raw (.type "bool")] ρ σ Q:=two fun τ s va vb R ha hb X hR => by
  obtain rfl:=sRaw X hb
  rcases h with ⟨x,rfl,rfl⟩ | ⟨x,rfl,rfl⟩
  · obtain rfl:=sBool X ha
    exact IsiPair.bool_bool (hR _ _ _ _ q (X.hold fun Z => .bool _))
  · obtain ⟨t,rfl⟩:=sInt X ha
    exact IsiPair.int_bool (hR _ _ _ _ q (X.toks.hold fun Z => .bool _))

theorem nums_perm : ∀ {es : List (Int × V)} {vs : List Value},vs.length = es.length → (∀ (j : Nat) (v : Value),vs[j]? = some v → ∃ (k : Int) (t : Tok),(es[j]?).map Prod.fst = some k ∧ v = Value.int k t) → kf_ints vs = true ∧ lks_nums vs = es.map (·.1)
  | [],[],_,_ => ⟨rfl,rfl⟩
  | e :: es,v :: vs,hl,h => by
    obtain ⟨k,t,h1,rfl⟩:=h 0 v rfl
    have h1' : e.1 = k:=by simpa using h1
    obtain ⟨a,b⟩:=nums_perm (es:=es) (vs:=vs) (Nat.succ.inj hl) fun j u hu => h (j + 1) u (by simpa using hu)
    exact ⟨a,by show k :: lks_nums vs = _; rw [b,List.map_cons,h1']⟩
  | [],_ :: _,h,_ => by cases h
  | _ :: _,[],h,_ => by cases h
theorem asc_of : ∀ {l : List Int},l.Pairwise (· ≤ ·) → lks_asc l = true
  | [],_ => rfl
  | a :: l,h => by
    rw [List.pairwise_cons] at h
    show (l.all (fun b => decide (a ≤ b)) && lks_asc l) = true
    rw [asc_of h.2,Bool.and_true,List.all_eq_true]
    exact fun b hb => decide_eq_true (h.1 b hb)
theorem vals_get : ∀ (q : List Int) (i : Nat) (t : Nat → Tok) {prog : Program} {w : World} {P : Addr → Obj → Prop},VRels prog w P (lks_vals q i t) (q.map V.int)
  | [],_,_,_,_,_ => .nil
  | a :: q,i,t,_,_,_ => .cons (.int a _) (vals_get q (i + 1) t)

theorem KRels.keysEq {prog : Program} {w : World} {P : Addr → Obj → Prop} {kvs : List (Int × Value)} {ds : List (Int × V)} (h : KRels prog w P kvs ds) : kvs.map (·.1) = ds.map (·.1):=by
  induction kvs generalizing ds with
  | nil => cases h; rfl
  | cons p r ih => cases h with | cons a b => simp [ih b]
theorem bSorted {d : V} {es : List (Int × V)} (hd : DRd σ d es) (hsz : es.length < 64) (hne : es ≠ []) (q : ∀ ns : List Int,ns.Perm (es.map (·.1)) → Q (.list (ns.map V.int)) σ) : WC c (.builtin "sorted") [d] ρ σ Q:=one fun τ s va R ha X hR => by
  obtain ⟨a,kvs,fz₀,rfl,h1,h2,h3,_,_⟩:=X.dictAt ha hd
  obtain ⟨m,news,fz,F,N,hz,kn,P1,P2,P3⟩:=X.frameA
  obtain ⟨ep,hat⟩:=h2.dictAt
  have hk : kvs.length ≤ sizeLine:=by rw [h3.length]; exact Nat.le_trans (Nat.le_of_lt hsz) (by decide)
  refine kdu_sorted (kdl_dict (knd:=intKind c.prog c.w) (kvs:=kvs) (ep:=ep) h1) X.ok.hd F N hat hk fun D h' tk vs F' N' lt hl hv => ?_
  have hks : kvs.map (·.1) = es.map (·.1):=h3.keysEq
  obtain ⟨n1,n2⟩:=nums_perm (es:=es) (vs:=vs) (by rw [hl,h3.length]) fun j v hv' => by
    obtain ⟨k,x,e1,e2⟩:=hv j v hv'
    have : (es[j]?).map (·.1) = some k:=by
      have e : (kvs.map (·.1))[j]? = some k:=by simp [e1]
      rw [hks] at e
      simpa using e
    obtain ⟨t,rfl⟩ : ∃ t,v = .int k t:=by
      have : Value.isInt k v = true:=e2
      cases v <;> simp [Value.isInt] at this
      exact ⟨_,by rw [this]⟩
    exact ⟨k,t,this,rfl⟩
  let ns:=(lks_nums vs).mergeSort (fun a b => decide (a ≤ b))
  have hp : ns.Perm (lks_nums vs):=List.mergeSort_perm _ _
  have hs : ns.Pairwise (· ≤ ·):=(List.pairwise_mergeSort (le:=fun a b : Int => decide (a ≤ b)) (fun a b c h1 h2 => by simp at *; omega) (fun a b => by simp; omega) _).imp fun h => by simpa using h
  have hok : lks_ok vs ns = true:=by
    unfold lks_ok
    rw [Bool.and_eq_true]
    exact ⟨List.isPerm_iff.mpr hp.symm,asc_of hs⟩
  have vne : vs.isEmpty = false:=by
    cases vs with
    | nil => exact absurd (List.eq_nil_of_length_eq_zero (by rw [← h3.length,← hl]; rfl)) hne
    | cons _ _ => rfl
  refine lks_sort F' N' (fun t => Upd.head fun p hp e => ?_) (by simpa using n1) (by simpa using hok) (by simpa using vne) (by simp [hl,h3.length]; exact hsz) fun t h'' F'' N'' => ?_
  · have:=lt p hp
    rw [e] at this
    exact Nat.lt_irrefl _ this
  · exact hR _ _ _ _ (q ns (n2 ▸ hp)) (P1 D h'' _ _ tk F'' N'' lt (.list (n:=_) (.inl (.head _)) rfl rfl (vals_get ns 0 t)))
end
end
end Mine
end
section
set_option tactic.hygienic false
namespace Mine
noncomputable section
set_option genInjectivity false in
set_option genSizeOf false in
structure Itr (d : V) (ds : List V) where
  G : Type
  kd : G → V
  J : G → Value → Addr → Nat → Led → Prop
  noc : ∀ {g va it i ps},J g va it i ps → NoCells ps
  T : Expr → Prop
  next : ∀ {c : Cx} {ρ : Vars} {σ : Sto} {τ : List (Value × V)} {s : Shared} {g : G} {va : Value} {it : Addr} {i : Nat} {ps : Led} {x : V} {R : Option Value → Shared → Prop} {E : Value → Shared → Prop},St (c.pins ps) ρ σ τ s → (va,d) ∈ τ → (va,kd g) ∈ τ → J g va it i ps → ds[i]? = some x →
    (∀ v s',(∀ {target : Expr} {R' : Unit → Shared → Prop} {E' : Value → Shared → Prop},T target → (∀ ps' s'',J g va it (i + 1) ps' → NoCells ps' → St (c.pins ps') ρ σ ((v,x) :: τ) s'' → R' () s'') → wpAny c.M c.A (letOwnedTupleGo target (.ref it) v) R' E' s') → R (some v) s') → wpAny c.M c.A (pyNext (.ref it)) R E s
  fin : ∀ {c : Cx} {ρ : Vars} {σ : Sto} {τ : List (Value × V)} {s : Shared} {g : G} {va : Value} {it : Addr} {i : Nat} {ps : Led} {R : Option Value → Shared → Prop} {E : Value → Shared → Prop},St (c.pins ps) ρ σ τ s → (va,d) ∈ τ → (va,kd g) ∈ τ → J g va it i ps → ds[i]? = none →
    (∀ h' t,St c ρ σ τ { s with heap:=h',toks:=t } → R none { s with heap:=h',toks:=t }) → wpAny c.M c.A (pyNext (.ref it)) R E s
  self : ∀ {c : Cx} {ρ : Vars} {σ : Sto} {τ : List (Value × V)} {s : Shared} {g : G} {va : Value} {it : Addr} {i : Nat} {ps : Led} {R : Value → Shared → Prop} {E : Value → Shared → Prop},St (c.pins ps) ρ σ τ s → J g va it i ps → R (.ref it) s → wpAny c.M c.A (pyIter (.ref it)) R E s

noncomputable def Itr.Starts {d : V} {ds : List V} (I : Itr d ds) : Prop:=(∀ t,I.T t) ∧ ∀ {c : Cx} {ρ : Vars} {σ : Sto} {τ : List (Value × V)} {s : Shared} {va : Value} {R : Value → Shared → Prop} {E : Value → Shared → Prop},St c ρ σ τ s → (va,d) ∈ τ →
    (∀ g it ps h' t,I.J g va it 0 ps → St (c.pins ps) ρ σ ((va,I.kd g) :: τ) { s with heap:=h',toks:=t } → R (.ref it) { s with heap:=h',toks:=t }) → wpAny c.M c.A (pyIter va) R E s

noncomputable def Itr.of {d : V} {ds : List V} (h : d.elems = some ds) : Itr d ds where
  G:=Unit
  kd _:=d
  J _ va it i ps:=∃ o,ps = [(it,o)] ∧ ItObj va d i o
  noc:=fun ⟨o,e,hi⟩ => e ▸ noCells_one hi.noCell
  T _:=True
  next:=fun X ha Z hj hx k => by
    obtain ⟨o,rfl,hi⟩:=hj
    exact iterNext X ha h hi hx fun v o' h' t hi' X' => k v _ fun Z k' => letOwned (X'.pinned (.head _)) hi' (k' _ _ ⟨o',rfl,hi'⟩ (noCells_one hi'.noCell) X')
  fin:=fun X ha Z hj hx k => by
    obtain ⟨o,rfl,hi⟩:=hj
    exact iterEnd X ha h hi hx k
  self:=fun {c ρ σ τ s g va it i ps R E} X hj k => by
    obtain ⟨o,rfl,hi⟩:=hj
    have ho:=X.pinned (.head _)
    cases d with
    | tup _ =>
      obtain ⟨t,_,hc,hdt⟩:=hi
      exact wpAny_pyIter_tupleiter ⟨o,ho,hc,hdt⟩ k
    | list _ =>
      obtain ⟨t,_,hc,hdt⟩:=hi
      exact wpAny_pyIter_listiter ⟨o,ho,hc,hdt⟩ k
    | rng a b =>
      have hi' : o = _:=hi
      subst hi'
      exact wpAny_pyIter_rangeiter ho k
    | _ => exact False.elim hi

theorem Itr.of_starts {d : V} {ds : List V} (h : d.elems = some ds) : (Itr.of h).Starts:=⟨fun Z => trivial,fun {c ρ σ τ s va R E} X ha k => iterStart X ha h fun it o h' t hi ho X' => k () it _ h' t ⟨o,rfl,hi⟩ (X'.sub fun p hp => by
    rcases List.mem_cons.mp hp with rfl | hp
    · exact ha
    · exact hp)⟩
theorem kind_of_isInt {k : Int} {v : Value} (h : Value.isInt k v = true) : ∃ t,v = .int k t:=by
  cases v <;> simp [Value.isInt] at h
  exact ⟨_,by rw [h]⟩

inductive KeyIt (es : List (Int × V)) (o : Obj) (va : Value) (it : Addr) (i : Nat) (ps : Led) : Prop
  | mk (oi : Obj) (d : Addr) (ep : Nat) (es' : Array DictEntry) (e : ps = [(it,oi)]) (e2 : va = .ref d) (hc : oi.cls = .type "dict_keyiterator") (hd : oi.data = .fields #[.ref d,.int i 0,.int es.length 0,.int ep 0]) (ho : o.data = .dict es' ep) : KeyIt es o va it i ps
theorem KeyIt.noc {es : List (Int × V)} {o : Obj} {va : Value} {it : Addr} {i : Nat} {ps : Led} (h : KeyIt es o va it i ps) : NoCells ps:=by
  obtain ⟨oi,d,ep,es',rfl,_,_,hd,_⟩:=h
  exact noCells_one fun v => by rw [hd]; exact fun q => nomatch q
inductive KeyAt (c : Cx) (s : Shared) (es : List (Int × V)) (o : Obj) (va : Value) (it : Addr) (i : Nat) (ps : Led) : Prop
  | mk (oi : Obj) (d : Addr) (ep : Nat) (kvs : List (Int × Value)) (e : ps = [(it,oi)]) (hn : ∀ v,oi.data ≠ .cell v) (hat : s.heap.DictAt (intKind c.prog c.w) d kvs ep) (hit : s.heap.IsKeyIter it d i kvs.length ep) (hk : kvs.map (·.1) = es.map (·.1))
    (more : ∀ (j : Nat) (oi' : Obj),oi'.cls = .type "dict_keyiterator" → oi'.data = .fields #[.ref d,.int j 0,.int kvs.length 0,.int ep 0] → KeyIt es o va it j [(it,oi')]) : KeyAt c s es o va it i ps
theorem keyAt {es : List (Int × V)} {c : Cx} {ρ : Vars} {σ : Sto} {τ : List (Value × V)} {s : Shared} {g : Obj} {va : Value} {it : Addr} {i : Nat} {ps : Led} (X : St (c.pins ps) ρ σ τ s) (ha : (va,V.dict es) ∈ τ) (hg : (va,V.known g) ∈ τ) (hj : KeyIt es g va it i ps) : KeyAt c s es g va it i ps:=by
  obtain ⟨oi,d,ep,es',rfl,rfl,e1,e2,e3⟩:=hj
  obtain ⟨fz,hz,kn⟩:=X.two
  obtain ⟨_,e,p'⟩:=(hz _ _ hg).inv
  cases e
  obtain ⟨_,o,kvs,e,p,h1,h2,h3⟩:=(hz _ _ ha).inv
  cases e
  obtain rfl : o = g:=Option.some.inj ((kn _ _ p).symm.trans (kn _ _ p'))
  obtain ⟨es'',ep',q1,q2,q3,q4,q5⟩:=id h2
  obtain rfl : ep' = ep:=by rw [q2] at e3; cases e3; rfl
  exact ⟨oi,d,ep',kvs,rfl,(fun v => by rw [e2]; exact fun q => nomatch q),⟨o,es'',kn _ _ p,q1,q2,q3,q4,q5⟩,⟨oi,X.pinned (.head _),e1,by rw [e2,h3.length]⟩,h3.keysEq,fun j oi' hc hd => ⟨oi',d,ep',es',rfl,rfl,hc,by rw [hd,h3.length],e3⟩⟩
noncomputable def Itr.keys {es : List (Int × V)} : Itr (.dict es) (es.map fun p => V.int p.1) where
  G:=Obj
  kd o:=.known o
  J:=KeyIt es
  noc:=KeyIt.noc
  T _:=True
  next:=fun {c ρ σ τ s g va it i ps x R E} X ha hg hj hx k => by
    obtain ⟨oi,d,ep,kvs,rfl,hn,hat,hit,hk,more⟩:=keyAt X ha hg hj
    obtain ⟨kv,hkv,rfl⟩:=Option.map_eq_some_iff.mp (List.getElem?_map ▸ hx)
    have e : (kvs.map (·.1))[i]? = some kv.1:=by rw [hk,List.getElem?_map,hkv]; rfl
    obtain ⟨⟨k',v⟩,hv,rfl⟩:=Option.map_eq_some_iff.mp (List.getElem?_map ▸ e)
    refine wpAny_pyNext_dict_item hit hat hv fun key h' hkey hit' hs => ?_
    obtain ⟨t,rfl⟩:=kind_of_isInt hkey
    obtain ⟨oi',ho',hc',hd'⟩:=hit'
    have X' : St (c.pins [(it,oi')]) ρ σ ((.int _ t,.int kv.1) :: τ) { s with heap:=h',toks:=s.toks }:=St.repin (p₁:=[]) (p₂:=[]) (X.hold fun Z => .int _ t) hn hs ho'
    exact k _ _ fun Z k' => letOwned2 (X'.pinned (.head _)) hc' (by decide +kernel) (k' [(it,oi')] _ (more _ oi' hc' hd') (more _ oi' hc' hd').noc X')
  fin:=fun {c ρ σ τ s g va it i ps R E} X ha hg hj hx k => by
    obtain ⟨oi,d,ep,kvs,rfl,hn,hat,hit,hk,more⟩:=keyAt X ha hg hj
    have hnone : kvs[i]? = none:=by
      rw [List.getElem?_eq_none_iff] at hx ⊢
      rw [List.length_map] at hx
      rwa [show kvs.length = es.length from by rw [← List.length_map (f:=(·.1)),hk,List.length_map]]
    exact wpAny_pyNext_dict_end X.ok.hd hit hat hnone fun h' hs => k h' s.toks (St.unpin1 (p₁:=[]) (p₂:=[]) X hn hs)
  self:=fun {c ρ σ τ s g va it i ps R E} X hj k => by
    obtain ⟨oi,d,ep,es',rfl,rfl,e1,e2,e3⟩:=hj
    exact wpAny_pyIter_keyiter ⟨oi,X.pinned (.head _),e1,e2⟩ k
theorem Itr.keys_starts {es : List (Int × V)} : (Itr.keys (es:=es)).Starts:=by
    refine ⟨fun Z => trivial,fun {c ρ σ τ s va R E} X ha k => ?_⟩
    obtain ⟨m,news,fz,F,N,hz,kn,P0,P1,P2⟩:=X.frame
    obtain ⟨a,o,kvs,rfl,p,h1,h2,h3⟩:=(hz _ _ ha).inv
    obtain ⟨es',ep,q1,q2,q3,q4,q5⟩:=id h2
    have hat : s.heap.DictAt (intKind c.prog c.w) a kvs ep:=⟨o,es',kn _ _ p,q1,q2,q3,q4,q5⟩
    exact wpAny_pyIter_dict h1 hat (k o _ [(s.heap.objs.size,{ cls:=.type "dict_keyiterator",data:=.fields #[.ref a,.int 0 0,.int kvs.length 0,.int ep 0] })] _ s.toks ⟨_,a,ep,es',rfl,rfl,rfl,by rw [← h3.length]; rfl,q2⟩ (St.pin1 (P0 (.ref a) (.known o) s.toks (.known p))))
end
end Mine
end
section
set_option tactic.hygienic false
namespace Mine
noncomputable section
noncomputable def frees : List (Str × NameKind) → List Str
  | [] => []
  | (x,k) :: r => if k == .free then x :: frees r else frees r
noncomputable def cellAt (env : Env) (x : Str) : Addr:=(env.cells.lookup x).getD 0

theorem nodup_map_on {α β : Type} {f : α → β} : ∀ {l : List α},l.Nodup → (∀ x ∈ l,∀ y ∈ l,f x = f y → x = y) → (l.map f).Nodup
  | [],_,_ => List.nodup_nil
  | a :: l,h,hi => by
    rw [List.nodup_cons] at h
    rw [List.map_cons,List.nodup_cons]
    refine ⟨fun q => ?_,nodup_map_on h.2 fun x hx y hy => hi x (.tail _ hx) y (.tail _ hy)⟩
    obtain ⟨b,hb,e⟩:=List.mem_map.mp q
    exact h.1 (hi b (.tail _ hb) a (.head _) e ▸ hb)

theorem closure_run (env : Env) : ∀ (names : List (Str × NameKind)) (acc : List (Str × Addr)),(∀ x ∈ frees names,(env.cells.lookup x).isSome = true) →
    (forIn names acc fun x r => match x with
      | (name,kind) => do
        if (kind == .free) = true then do
          let a ← cellOf env name
          pure (ForInStep.yield ((name,a) :: r))
        else pure (ForInStep.yield r) : Sem (List (Str × Addr))) = pure (((frees names).reverse.map fun x => (x,cellAt env x)) ++ acc)
  | [],acc,_ => rfl
  | (x,k) :: r,acc,h => by
    rw [List.forIn_cons]
    by_cases hk : (k == NameKind.free) = true
    · have hx : (env.cells.lookup x).isSome = true:=h x (by unfold frees; rw [if_pos hk]; exact .head _)
      obtain ⟨a,ha⟩:=Option.isSome_iff_exists.mp hx
      have e : cellOf env x = pure a:=by unfold cellOf; rw [ha]
      have ih:=closure_run env r ((x,a) :: acc) fun y hy => h y (by unfold frees; rw [if_pos hk]; exact .tail _ hy)
      simp only [hk,if_true,e]
      show (forIn r ((x,a) :: acc) _ : Sem _) = _
      rw [ih]
      have ea : cellAt env x = a:=by unfold cellAt; rw [ha]; rfl
      have ef : frees ((x,k) :: r) = x :: frees r:=by rw [frees,if_pos hk]
      rw [ef,List.reverse_cons,List.map_append,List.map_cons,List.map_nil,List.append_assoc,ea]
      rfl
    · have ef : frees ((x,k) :: r) = frees r:=by rw [frees,if_neg hk]
      have ih:=closure_run env r acc fun y hy => h y (by rw [ef]; exact hy)
      simp only [hk,if_false]
      show (forIn r acc _ : Sem _) = _
      rw [ef]
      exact ih
theorem closure_of {scope : Scope} {env : Env} (h : ∀ x ∈ frees scope.names,(env.cells.lookup x).isSome = true) : closureFor scope env = pure ((frees scope.names).reverse.map fun x => (x,cellAt env x)):=by
  have:=closure_run env scope.names [] h
  rw [List.append_nil] at this
  show (forIn scope.names [] _ : Sem _) >>= _ = _
  exact (congrArg (· >>= fun r => pure r) this).trans rfl
theorem lookup_map_cell {env : Env} {x : Str} : ∀ {l : List Str},x ∈ l → (l.map fun x => (x,cellAt env x)).lookup x = some (cellAt env x)
  | y :: l,h => by
    rw [List.map_cons,List.lookup_cons]
    by_cases hy : x = y
    · subst hy; simp
    · have : (x == y) = false:=by simpa using hy
      rw [this]
      exact lookup_map_cell ((List.mem_cons.mp h).resolve_left hy)
noncomputable def compOk (scope cs : Scope) (vs fv gn : List Str) : Bool:=
  vs.all (fun x => !(x == ("__debug__" : Str)) && cs.names.lookup x == some .local)
  && fv.all (fun x => !(x == ("__debug__" : Str)) && (cs.names.lookup x == some .free && scope.names.lookup x == some .cell))
  && gn.all (fun x => !(x == ("__debug__" : Str)) && cs.names.lookup x == some .globalImplicit)
  && decide ((vs ++ (fv ++ gn)).Nodup) && decide (frees cs.names).Nodup && (frees cs.names).all (fun x => fv.contains x)
  && cs.kind == .function && scope.kind == .function && cs.names.all (fun x => x.2 != .cell) && cs.names.all (fun x => x.2 != .local || cs.names.lookup x.1 == some .local)
structure CompOk (scope cs : Scope) (vs fv gn : List Str) : Prop where
  hv : ∀ x ∈ vs,(x == ("__debug__" : Str)) = false ∧ cs.names.lookup x = some .local
  hf : ∀ x ∈ fv,(x == ("__debug__" : Str)) = false ∧ cs.names.lookup x = some .free ∧ scope.names.lookup x = some .cell
  hg : ∀ x ∈ gn,(x == ("__debug__" : Str)) = false ∧ cs.names.lookup x = some .globalImplicit
  nodup : (vs ++ (fv ++ gn)).Nodup
  fnd : (frees cs.names).Nodup
  fin : ∀ x ∈ frees cs.names,x ∈ fv
  kind : cs.kind = .function
  outer : scope.kind = .function
  cell : ∀ x ∈ cs.names,x.2 ≠ .cell
  names : ∀ x ∈ cs.names,x.2 = .local → cs.names.lookup x.1 = some .local
theorem CompOk.of {scope cs : Scope} {vs fv gn : List Str} (h : compOk scope cs vs fv gn = true) : CompOk scope cs vs fv gn:=by
  simp only [compOk,Bool.and_eq_true,List.all_eq_true,decide_eq_true_eq,Bool.not_eq_true',beq_iff_eq,bne_iff_ne,ne_eq,Bool.or_eq_true,List.contains_eq_mem] at h
  obtain ⟨⟨⟨⟨⟨⟨⟨⟨⟨h1,h2⟩,h3⟩,h4⟩,h5⟩,h6⟩,h7⟩,h8⟩,h9⟩,h10⟩:=h
  exact ⟨h1,h2,h3,h4,h5,h6,h7,h8,h9,fun x hx e => (h10 x hx).resolve_left fun q => q e⟩

theorem lookup_relabel_free {env : Env} (hk : env.scope.kind = .function) {x : Str} (hc : env.kindOf x = some .cell) : ∀ {names : List (Str × NameKind)},names.lookup x = some .free →
    (names.map fun (n,k) => if (k == NameKind.free && env.scope.kind == .function && env.kindOf n == some .cell) then (n,NameKind.cell) else (n,k)).lookup x = some .cell
  | (n,k) :: r,h => by
    have ih:=lookup_relabel_free hk hc (names:=r)
    show List.lookup x ((if (k == NameKind.free && env.scope.kind == .function && env.kindOf n == some .cell) = true then (n,NameKind.cell) else (n,k)) :: _) = _
    rw [List.lookup_cons] at h
    split at h
    · rename_i e
      have e' : x = n:=by simpa using e
      subst e'
      cases h
      rw [if_pos (by rw [hk,hc]; rfl),List.lookup_cons]
      simp
    · rename_i e
      split
      · rw [List.lookup_cons,e]; exact ih h
      · rw [List.lookup_cons,e]; exact ih h
theorem lookup_relabel_glob {env : Env} {x : Str} : ∀ {names : List (Str × NameKind)},names.lookup x = some .globalImplicit →
    (names.map fun (n,k) => if (k == NameKind.free && env.scope.kind == .function && env.kindOf n == some .cell) then (n,NameKind.cell) else (n,k)).lookup x = some .globalImplicit
  | (n,k) :: r,h => by
    have ih:=lookup_relabel_glob (env:=env) (x:=x) (names:=r)
    show List.lookup x ((if (k == NameKind.free && env.scope.kind == .function && env.kindOf n == some .cell) = true then (n,NameKind.cell) else (n,k)) :: _) = _
    rw [List.lookup_cons] at h
    split at h
    · rename_i e
      cases h
      rw [if_neg (by simp),List.lookup_cons,e]
    · rename_i e
      split
      · rw [List.lookup_cons,e]; exact ih h
      · rw [List.lookup_cons,e]; exact ih h

theorem frees_mem {x : Str} : ∀ {names : List (Str × NameKind)},names.lookup x = some .free → x ∈ frees names
  | (n,k) :: r,h => by
    rw [List.lookup_cons] at h
    split at h
    · rename_i e
      have e' : x = n:=by simpa using e
      subst e'
      cases h
      rw [frees,if_pos (by rfl)]; exact .head _
    · have:=frees_mem h
      rw [frees]
      split
      · exact .tail _ this
      · exact this
noncomputable def Cx.inner (c : Cx) (env : Env) (m : Str → Option Value) (cl : Led) : Cx:={ c with env:=env,comp:=some m,rest:=cl ++ c.rest }
noncomputable def compVars (vs : List Str) (fv gl : List (Str × V)) : Vars:=vs.map (fun x => (x,Slot.own Option.none)) ++ (fv.map (fun p => (p.1,Slot.ro p.2)) ++ gl.map (fun p => (p.1,Slot.ro p.2)))

section
variable {c : Cx} {ρ : Vars} {σ : Sto} {τ : List (Value × V)} {s : Shared} {Q : V → Sto → Prop}

theorem St.cellsThere {scope : Scope} (X : St c ρ σ τ s) (hsc : c.env.scope = scope) {fv : List (Str × V)} (hfv : ∀ p ∈ fv,(p.1,Slot.own (some p.2)) ∈ ρ ∨ (p.1,Slot.ro p.2) ∈ ρ) (hk : ∀ x ∈ fv.map (·.1),scope.names.lookup x = some .cell) :
    ∀ x ∈ fv.map (·.1),(c.env.cells.lookup x).isSome = true:=fun x hx => by
  obtain ⟨ok,g,os,m,raw,cl,fz,r,l⟩:=X
  obtain ⟨p,hp,rfl⟩:=List.mem_map.mp hx
  obtain ⟨v,lk,_⟩ : ∃ v,Look c m cl p.1 v ∧ c.VR fz v p.2:=(hfv p hp).elim (r.own p.1 p.2) (r.ro p.1 p.2)
  obtain ⟨_,lk⟩:=lk
  have e : c.env.kindOf p.1 = some .cell:=by show c.env.scope.names.lookup p.1 = _; rw [hsc]; exact hk _ hx
  rw [e] at lk
  obtain ⟨a,o,h1,_⟩:=lk
  rw [h1]; rfl

theorem compVars_eq {vs : List Str} {fv gl : List (Str × V)} : compVars vs fv gl = startVars [] vs (fv ++ gl) []:=by
  unfold compVars startVars
  rw [List.map_append]; rfl
theorem permE {raw cl ps R fz : Led} {x : Addr × Obj} : (x :: raw ++ (cl ++ ((ps ++ R) ++ fz))).Perm (raw ++ ([x] ++ ((ps ++ (cl ++ R)) ++ fz))):=by
  refine List.Perm.trans (List.Perm.cons x (List.Perm.append_left raw ?_)) List.perm_middle.symm
  rw [List.append_assoc ps,List.append_assoc ps,List.append_assoc cl]; exact List.perm_append_comm_assoc cl ps _
theorem permF {raw cl R fz : Led} {x : Addr × Obj} : (raw ++ (cl ++ (([x] ++ R) ++ fz))).Perm (raw ++ ([x] ++ ((cl ++ R) ++ fz))):=
  List.Perm.append_left raw (by rw [List.append_assoc cl]; exact List.perm_middle)
theorem Cx.Ok.inner {cs : Scope} {fvn : List Str} {env : Env} {m : Str → Option Value} {cl : Led} (ok : c.Ok) (hk : cs.kind = .function) (fnd : (frees cs.names).Nodup) (fin : ∀ x ∈ frees cs.names,x ∈ fvn) (hcells : ∀ x ∈ fvn,(c.env.cells.lookup x).isSome = true)
    (e1 : env.scope = relabel cs c.env) (e3 : env.globals = c.env.globals) (e4 : env.builtins = c.env.builtins) (e5 : env.cells = (frees cs.names).reverse.map fun x => (x,cellAt c.env x)) : (c.inner env m cl).Ok where
  kb:=ok.kb
  T:=ok.T
  B:=ok.B
  fr:=ok.fr
  ff:=ok.ff
  fk:=ok.fk
  ek:=by show env.scope.kind = _; rw [e1]; exact hk
  eg:=e3.trans ok.eg
  eb:=e4.trans ok.eb
  hd:=ok.hd
  depth:=ok.depth
  units:=ok.units
  same:=fun q => by cases q
  cells:=by
    show (env.cells.map (·.2)).Nodup
    rw [e5,List.map_map]
    refine nodup_map_on ((List.reverse_perm _).nodup_iff.mpr fnd) fun x hx y hy e => ?_
    obtain ⟨a,ha⟩:=Option.isSome_iff_exists.mp (hcells x (fin x (List.mem_reverse.mp hx)))
    obtain ⟨b,hb⟩:=Option.isSome_iff_exists.mp (hcells y (fin y (List.mem_reverse.mp hy)))
    have e' : cellAt c.env x = cellAt c.env y:=e
    unfold cellAt at e'
    rw [ha,hb] at e'
    have e' : a = b:=e'
    subst e'
    exact lookup_val_inj ok.cells ha hb
theorem look_in {cs : Scope} {env : Env} {m m' : Str → Option Value} {cl ps : Led} {x : Str} {v : Value} {q : Addr × Obj} (hek : c.env.scope.kind = .function) (hk : c.env.kindOf x = some .cell) (hf : cs.names.lookup x = some .free)
    (e1 : env.scope = relabel cs c.env) (e5 : env.cells = (frees cs.names).reverse.map fun x => (x,cellAt c.env x)) (lk : Look (c.pins ps) m cl x v) : Look ((c.inner env m' cl).pins ps) (fun Z => Option.none) [q] x v:=by
  obtain ⟨d,lk⟩:=lk
  have lk : LookK m c.K c.env.cells (cl ++ (ps ++ c.rest)) x v (c.env.kindOf x):=lk
  rw [hk] at lk
  obtain ⟨a,o,h1,h2,h3⟩:=lk
  refine ⟨d,?_⟩
  show LookK _ c.K env.cells ([q] ++ (ps ++ (cl ++ c.rest))) x v (env.scope.names.lookup x)
  rw [e1,show (relabel cs c.env).names.lookup x = some .cell from lookup_relabel_free hek hk hf]
  refine ⟨a,o,?_,List.mem_append_right _ ((List.mem_append.mp h2).elim (fun h => List.mem_append_right _ (List.mem_append_left _ h)) fun h => (List.mem_append.mp h).elim (List.mem_append_left _) fun h => List.mem_append_right _ (List.mem_append_right _ h)),h3⟩
  rw [e5,lookup_map_cell (List.mem_reverse.mpr (frees_mem hf))]
  unfold cellAt
  rw [h1]; rfl
inductive Left (c : Cx) (ρ : Vars) (σ' : Sto) (τ : List (Value × V)) (s' : Shared) (C : Addr) : Prop
  | mk (oC : Obj) (m' : Str → Option Value) (ns : ∀ h : Heap,h.get? C = some oC → h.Ns C m') (nc : ∀ v,oC.data ≠ .cell v) (X : St (c.pins [(C,oC)]) ρ σ' τ s') : Left c ρ σ' τ s' C
inductive Entered (c : Cx) (ρ : Vars) (σ : Sto) (τ : List (Value × V)) (s' : Shared) (C : Addr) (env : Env) (ps : Led) (ρ₁ : Vars) : Prop
  | mk (c' : Cx) (π : List (Value × V)) (lk : c.Like c') (hn : c'.n = c.n) (he : c'.env = env) (hA : c'.A = c.A) (hc : c'.comp.isSome = true) (X : St (c'.pins ps) ρ₁ σ (π ++ τ) s')
    (out : ∀ ρ' σ' τ' s',St c' ρ' σ' (τ' ++ (π ++ τ)) s' → Left c ρ σ' (τ' ++ τ) s' C) : Entered c ρ σ τ s' C env ps ρ₁
theorem St.enter {scope cs : Scope} {vs : List Str} {fv gl : List (Str × V)} {ps : Led} (noc : NoCells ps) (X : St (c.pins ps) ρ σ τ s) (hcomp : c.comp = Option.none) (hsc : c.env.scope = scope) (sg : CompOk scope cs vs (fv.map (·.1)) (gl.map (·.1)))
    (hfv : ∀ p ∈ fv,(p.1,Slot.own (some p.2)) ∈ ρ ∨ (p.1,Slot.ro p.2) ∈ ρ) (hg : ∀ p ∈ gl,∃ v,GV c.K p.1 v ∧ ∀ fz,c.VR fz v p.2) {h' : Heap} {t : Nat} {C : Addr} (hC : C = s.heap.objs.size)
    (hns : h'.Ns C (fun Z => Option.none)) (hsb : Heap.SameBut C (s.heap.push { cls:=.type "dict",data:=.dict #[] }) h') {env : Env}
    (e1 : env.scope = relabel cs c.env) (e2 : env.locals = C) (e3 : env.globals = c.env.globals) (e4 : env.builtins = c.env.builtins) (e5 : env.cells = (frees cs.names).reverse.map fun x => (x,cellAt c.env x)) :
    Entered c ρ σ τ { s with heap:=h',toks:=t } C env ps (compVars vs fv gl):=by
  have hcells : ∀ x ∈ fv.map (·.1),(c.env.cells.lookup x).isSome = true:=St.cellsThere X hsc hfv fun x hx => (sg.hf x hx).2.2
  obtain ⟨okp,g,os,m,raw,cl,fz,r,l⟩:=X
  have ok : c.Ok:=okp.unpins
  obtain ⟨π,hπ,hπo,hπr⟩:=r.all
  obtain ⟨oC,es,ep,hoC,hdC,hkC,hfC⟩:=hns
  have hcn : c.comp.getD m = m:=by rw [hcomp]; rfl
  have l1 : Lay (c.pins ps) m ((C,oC) :: raw) cl fz h':=by
    have p1:=l.pushM { cls:=.type "dict",data:=.dict #[] } rfl
    rw [← hC] at p1
    exact Lay.update (r₁:=[]) p1 hsb hoC
  have rel : Rel ((c.inner env m cl).pins ps) (compVars vs fv gl) σ (π ++ τ) (fun Z => Option.none) raw [(C,oC)] fz:=by
    rw [compVars_eq]
    refine Rel.start (by rw [List.map_append]; exact sg.nodup) rfl r.sto (fun x hx => ?_) (fun x d h => nomatch h) (fun x d h => ?_) fun v d h => (List.mem_append.mp h).elim (hπ _) (r.tmp _ _)
    · have hx:=hx.resolve_left List.not_mem_nil
      refine ⟨(sg.hv x hx).1,.inl ?_⟩
      show env.scope.names.lookup x = _
      rw [e1]
      exact lookup_relabel_local (sg.hv x hx).2
    · rcases List.mem_append.mp h with h | h
      · obtain ⟨v,lk,hv⟩ : ∃ v,Look (c.pins ps) m cl x v ∧ c.VR fz v d:=(hfv _ h).elim (r.own x d) (r.ro x d)
        obtain ⟨_,q2,q3⟩:=sg.hf x (List.mem_map.mpr ⟨_,h,rfl⟩)
        exact ⟨v,look_in ok.ek (by show c.env.scope.names.lookup x = _; rw [hsc]; exact q3) q2 e1 e5 lk,hv⟩
      · obtain ⟨v,h1,h2⟩:=hg _ h
        obtain ⟨q1,q2⟩:=sg.hg x (List.mem_map.mpr ⟨_,h,rfl⟩)
        refine ⟨v,⟨q1,?_⟩,h2 fz⟩
        show LookK _ c.K _ _ x v (env.scope.names.lookup x)
        rw [e1,show (relabel cs c.env).names.lookup x = some .globalImplicit from lookup_relabel_glob q2]
        exact h1
  have z:=l1.standP.perm permE.symm
  refine ⟨c.inner env m cl,π,⟨rfl,rfl,rfl,rfl⟩,rfl,rfl,rfl,rfl,⟨(ok.inner sg.kind sg.fnd sg.fin hcells e1 e3 e4 e5).pins ps,g,os,_,raw,[(C,oC)],fz,rel,⟨(show Fr c.h₀ c.fenv.locals h' m from hcn ▸ l1.fr),z.nw,z.nd,fun Z => ⟨oC,es,ep,?_,hdC,hkC,hfC⟩⟩⟩,fun ρ' σ' τ' s' X' => ?_⟩
  · show [(C,oC)] = [(env.locals,oC)]
    rw [e2]
  · clear z rel l1 hsb hdC hkC hfC hoC
    obtain ⟨ok',g',os',m',raw',cl',fz',r',l'⟩:=X'
    obtain ⟨o',es',ep',ecl,hd',hk',hf'⟩:=l'.cm rfl
    obtain rfl : cl' = [(C,o')]:=by rw [ecl]; show [(env.locals,o')] = _; rw [e2]
    have hp : ∀ p ∈ π ++ τ,VRel c.prog c.w (c.Knows fz') p.1 p.2:=fun p hp => r'.tmp p.1 p.2 (List.mem_append_right _ hp)
    have base : Rel (c.pins ps) ρ σ' (τ' ++ τ) m raw' cl fz':=⟨r'.sto,fun x d h => by obtain ⟨u,h1,h2⟩:=hπo x d h; exact ⟨u,h1,hp _ (List.mem_append_left _ h2)⟩,
      fun x d h => by obtain ⟨u,h1,h2⟩:=hπr x d h; exact ⟨u,h1,hp _ (List.mem_append_left _ h2)⟩,r.mine,r.nodup,fun u e h => (List.mem_append.mp h).elim (fun h => r'.tmp u e (List.mem_append_left _ h)) fun h => hp _ (List.mem_append_right _ h)⟩
    have z':=Stand.perm (h₀:=c.h₀) (L:=c.fenv.locals) ⟨l'.nw,l'.nd⟩ permF
    exact ⟨o',m',fun h e => ⟨o',es',ep',e,hd',hk',hf'⟩,(fun v => by rw [hd']; exact fun q => nomatch q),ok.pins _,g',os',m,raw',cl,fz',base.repin (noCells_sub noc),⟨(show Fr c.h₀ c.fenv.locals s'.heap (c.comp.getD m) from hcn.symm ▸ l'.fr),z'.nw,z'.nd,fun q => by
      have : c.comp.isSome = true:=q
      rw [hcomp] at this; cases this⟩⟩

noncomputable def testsOf (ifs : List Expr) (env : Env) : Sem Bool:=forIn ifs true fun c r => if r = true then do let ok ← isTrue c env (eval c env); pure (ForInStep.yield ok) else pure (ForInStep.yield r)
theorem tNone' {ρ : Vars} {QB : Bool → Sto → Prop} (q : QB true σ) : WB c (testsOf [] c.env) ρ σ QB:=fun τ s R X hR => wpAny_pure (hR _ _ _ q X)
theorem tOne {e : Expr} {QB : Bool → Sto → Prop} (h : WB c (isTrue e c.env (eval e c.env)) ρ σ QB) : WB c (testsOf [e] c.env) ρ σ QB:=fun τ s R X hR => by
  unfold testsOf
  exact wpAny_tests_one (h τ s R X hR)

noncomputable def CGo (c : Cx) (D : Addr) (target : Expr) (ifs : List Expr) (elt : Expr) (K : List V → Sto → Prop) : List V → List V → Vars → Sto → Prop
  | [],acc,_,σ => K acc σ
  | x :: xs,acc,ρ,σ => ∀ ps,NoCells ps → WU (c.pins ps) (assign target c.env) x ρ ((D,.list acc) :: σ) fun ρ₁ σ₁ => WB (c.pins ps) (testsOf ifs c.env) ρ₁ σ₁ fun b σ₂ =>
      (b = true → WT (c.pins ps) (eval elt c.env) ρ₁ σ₂ fun y σ₃ => ∃ σ',σ₃ = (D,.list acc) :: σ' ∧ acc.length < 1000000 ∧ CGo c D target ifs elt K xs (acc ++ [y]) ρ₁ σ') ∧
      (b = false → ∃ σ',σ₂ = (D,.list acc) :: σ' ∧ CGo c D target ifs elt K xs acc ρ₁ σ')

theorem codeAny_compLoop_any {prog : Program} {w : World} {A : Around} {R : Result → Shared → Prop} {s : Shared} {elt target iter : Expr} {ifs : List Expr} {scope : Scope} {pos : Pos} {it acc : Value} {env : Env} (I : Nat → Shared → Prop)
    (turn : ∀ n s,I n s → wpAny (model prog w) A (pyNext it) (fun r s₁ => match r with
      | none => R (.ok .next) s₁
      | some v => wpAny (model prog w) A (letOwnedTupleGo target it v) (fun Z s₁' => wpAny (model prog w) A (assign target env v) (fun Z s₂ =>
          wpAny (model prog w) A (testsOf ifs env) (fun ok s₃ =>
            if ok = true then wpAny (model prog w) A (eval elt env) (fun x s₄ =>
              wpAny (model prog w) A (call (.builtin "list.append") [acc,x]) (fun Z s₅ => ∃ m,m < n ∧ I m s₅) Nope s₄) Nope s₃
            else ∃ m,m < n ∧ I m s₃) Nope s₂) Nope s₁') Nope s₁) Nope s)
    (n : Nat) (h : I n s) : codeAny (model prog w) A (.compLoop (.ListComp elt [⟨target,iter,ifs,0⟩] scope pos) 0 it acc env) R s:=by
  refine codeAny_loop rfl I (fun n s hI => ?_) n h
  show wpAny _ A ((compTurn (.ListComp elt [⟨target,iter,ifs,0⟩] scope pos) 0 it acc env).onRaise (fun x => do noteFrame x env; theTreesLotGoes x)) _ _ s
  refine wpAny_noted ?_
  rw [compTurn_list]
  refine wpAny_bind (wpAny_standAt (wpAny_bind (wpAny_mono (turn n s hI) (fun r s₁ h₁ => ?_) fun Z Z h' => h'.elim)))
  cases r with
  | none => exact wpAny_pure h₁
  | some v =>
    refine wpAny_bind (wpAny_mono h₁ (fun Z s₁' h₁ => ?_) fun Z Z h' => h'.elim)
    refine wpAny_bind (wpAny_mono h₁ (fun Z s₂ h₂ => wpAny_bind (wpAny_mono h₂ (fun ok s₃ h₃ => ?_) fun Z Z h' => h'.elim)) fun Z Z h' => h'.elim)
    cases ok with
    | false => exact wpAny_pure ⟨rfl,h₃⟩
    | true =>
      exact wpAny_bind (wpAny_bind (wpAny_mono h₃ (fun x s₄ h₄ => wpAny_bind (wpAny_mono h₄ (fun Z s₅ h₅ => wpAny_pure (wpAny_pure ⟨rfl,h₅⟩)) fun Z Z h' => h'.elim)) fun Z Z h' => h'.elim))

inductive CGoI {c : Cx} {d : V} {ds : List V} (I : Itr d ds) (g : I.G) (D : Addr) (target elt : Expr) (ifs : List Expr) (K : List V → Sto → Prop) (va : Value) (it : Addr) (τ : List (Value × V)) (n : Nat) (s : Shared) : Prop
  | mk (i : Nat) (ps : Led) (acc : List V) (ρ : Vars) (σ : Sto) (hn : n + i = ds.length) (hj : I.J g va it i ps) (X : St (c.pins ps) ρ ((D,.list acc) :: σ) τ s) (hw : CGo c D target ifs elt K (ds.drop i) acc ρ σ) : CGoI I g D target elt ifs K va it τ n s
theorem mem_two {α : Type} {x y p : α} {l : List α} (h : p ∈ [x,y]) : p ∈ x :: y :: l:=by
  rcases List.mem_cons.mp h with rfl | h
  · exact .head _
  · rw [List.mem_singleton] at h; subst h; exact .tail _ (.head _)
theorem less_of {n i l : Nat} (hn : n + i = l) (hlt : i < l) : ∃ m,m < n ∧ m + (i + 1) = l:=by
  cases n with
  | zero => rw [Nat.zero_add] at hn; exact absurd (hn ▸ hlt) (Nat.lt_irrefl _)
  | succ n => exact ⟨n,Nat.lt_succ_self n,by rw [← hn,Nat.succ_add]; rfl⟩
theorem runCGo {c : Cx} {D : Addr} {d : V} {ds : List V} (I : Itr d ds) {g : I.G} {elt target iter : Expr} {ifs : List Expr} {scope : Scope} {pos : Pos} {K : List V → Sto → Prop} {va : Value} {it : Addr} {ps : Led} {ρ : Vars} {σ : Sto} {τ : List (Value × V)} {s : Shared} {R : Result → Shared → Prop}
    (hT : I.T target) (hj : I.J g va it 0 ps) (X : St (c.pins ps) ρ ((D,.list []) :: σ) τ s) (hd : (va,d) ∈ τ) (hg : (va,I.kd g) ∈ τ) (h : CGo c D target ifs elt K ds [] ρ σ)
    (done : ∀ acc ρ' σ' s',K acc σ' → St c ρ' ((D,.list acc) :: σ') τ s' → R (.ok .next) s') :
    codeAny c.M c.A (.compLoop (.ListComp elt [⟨target,iter,ifs,0⟩] scope pos) 0 (.ref it) (.ref D) c.env) R s:=by
  refine codeAny_compLoop_any (CGoI I g D target elt ifs K va it τ) ?_ ds.length ⟨0,ps,[],ρ,σ,rfl,hj,X,h⟩
  clear hj X h
  rintro n s ⟨i,ps,acc,ρ,σ,hn,hj,X,hw⟩
  cases hx : ds[i]? with
  | none =>
    rw [List.drop_eq_nil_of_le (List.getElem?_eq_none_iff.mp hx)] at hw
    exact I.fin X hd hg hj hx fun h' t X' => done _ _ _ _ hw X'
  | some x =>
    obtain ⟨hlt,hx'⟩:=List.getElem?_eq_some_iff.mp hx
    rw [List.drop_eq_getElem_cons hlt,hx'] at hw
    obtain ⟨k,hk,hn'⟩:=less_of hn hlt
    refine I.next X hd hg hj hx fun v s' own => own hT fun ps₂ s₂ hj₂ noc₂ X₂ => ?_
    refine hw ps₂ noc₂ _ _ v _ (.head _) X₂ fun ρ₁ σ₁ s₃ q X₃ => q _ _ _ X₃ fun b σ₂ s₄ q₂ X₄ => ?_
    cases b with
    | false =>
      obtain ⟨σ',rfl,q₃⟩:=q₂.2 rfl
      exact ⟨k,hk,i + 1,ps₂,acc,ρ₁,σ',hn',hj₂,X₄.tl,q₃⟩
    | true =>
      refine q₂.1 rfl _ _ _ X₄ fun y e σ₃ s₅ q₃ X₅ => ?_
      obtain ⟨σ',rfl,hsz,q₄⟩:=q₃
      exact mAppend (c:=c.pins ps₂) (σ₁:=[]) (σ₂:=σ') (ρ:=ρ₁) (Q:=fun Z σ'' => σ'' = (D,.list (acc ++ [e])) :: σ') (Nat.le_trans (Nat.le_of_lt hsz) (by decide)) rfl _ s₅ [.ref D,y] _ rfl
        (fun p hp => mem_two hp) (X₅.hold fun Z => .raw _) fun u d' σ'' s' q' X7 => by
          subst q'
          exact ⟨k,hk,i + 1,ps₂,acc ++ [e],ρ₁,σ',hn',hj₂,X7.tl.tl.tl.tl,q₄⟩
end
end
end Mine
end
section
set_option tactic.hygienic false
namespace Mine
noncomputable section
noncomputable def CompOf (c : Cx) (vs : List Str) (fv gl : List (Str × V)) (target : Expr) (ifs : List Expr) (elt : Expr) (ds : List V) (σ : Sto) (K : Addr → List V → Sto → Prop) : Prop:=
  ∀ c' : Cx,c.Like c' → c'.n = c.n → ∀ D,CGo c' D target ifs elt (K D) ds [] (compVars vs fv gl) σ

section
variable {c : Cx} {ρ : Vars} {σ : Sto} {τ : List (Value × V)} {s : Shared} {Q : V → Sto → Prop}

theorem compFrame {cs scope : Scope} {vs : List Str} {fv gl : List (Str × V)} {ps : Led} {mk : Env → Code} {RR : Addr → Result → Shared → Prop} (hcomp : c.comp = Option.none) (hsc : c.env.scope = scope) (sg : CompOk scope cs vs (fv.map (·.1)) (gl.map (·.1)))
    (hfv : ∀ p ∈ fv,(p.1,Slot.own (some p.2)) ∈ ρ ∨ (p.1,Slot.ro p.2) ∈ ρ) (hg : ∀ p ∈ gl,∃ v,GV c.K p.1 v ∧ ∀ fz,c.VR fz v p.2) (noc : NoCells ps) (X : St (c.pins ps) ρ σ τ s)
    (run : ∀ c' π s',c.Like c' → c'.n = c.n → St (c'.pins ps) (compVars vs fv gl) σ (π ++ τ) s' → (∀ ρ' σ' τ' s'',St c' ρ' σ' (τ' ++ (π ++ τ)) s'' → Left c ρ σ' (τ' ++ τ) s'' s.heap.objs.size) → codeAny c'.M c'.A (mk c'.env) (RR s.heap.objs.size) s') :
    wpAny c.M c.A (newFunctionEnv cs c.env.globals ((frees cs.names).reverse.map fun x => (x,cellAt c.env x)) [] c.env.qual Option.none .none (some c.env)) (fun cenv s₄ => codeAny c.M c.A (mk { cenv with scope:=relabel cs c.env }) (RR cenv.locals) s₄) Nope s:=by
  refine wpAny_newFunctionEnv sg.cell (by intro y hy; simp at hy) (fun h₂ hns hsb => ?_) sg.kind
  obtain ⟨c',π,hlike,hn,he,hA,_,X₃,out⟩:=St.enter (t:=s.toks) noc X hcomp hsc sg hfv hg rfl hns hsb
    (env:={ (newEnv cs s.heap.objs.size c.env.globals ((frees cs.names).reverse.map fun x => (x,cellAt c.env x)) c.env.qual Option.none .none (some c.env) builtinsNs) with scope:=relabel cs c.env }) rfl rfl rfl rfl rfl
  have hM : c'.M = c.M:=by show model c'.prog c'.w = model c.prog c.w; rw [hlike.prog,hlike.w]
  have:=run c' π _ hlike hn X₃ out
  rw [he,hM,hA] at this
  exact this
theorem compCore {d : V} {ds : List V} (I : Itr d ds) {elt target iter : Expr} {ifs : List Expr} {cs scope : Scope} {pos : Pos} {vs : List Str} {fv gl : List (Str × V)} {K : Addr → List V → Sto → Prop} {va : Value} {RR : Value → Addr → Result → Shared → Prop}
    (hcomp : c.comp = Option.none) (hsc : c.env.scope = scope) (sg : CompOk scope cs vs (fv.map (·.1)) (gl.map (·.1)))
    (hfv : ∀ p ∈ fv,(p.1,Slot.own (some p.2)) ∈ ρ ∨ (p.1,Slot.ro p.2) ∈ ρ) (hg : ∀ p ∈ gl,∃ v,GV c.K p.1 v ∧ ∀ fz,c.VR fz v p.2)
    (hd : (va,d) ∈ τ) (hT : I.T target)
    (start : ∀ (R : Value → Shared → Prop) (E : Value → Shared → Prop),(∀ g it ps h' t,I.J g va it 0 ps → St (c.pins ps) ρ σ ((va,I.kd g) :: τ) { s with heap:=h',toks:=t } → R (.ref it) { s with heap:=h',toks:=t }) → wpAny c.M c.A (pyIter va) R E s) (h : CompOf c vs fv gl target ifs elt ds σ K)
    (done : ∀ D C oC m' acc σ' s',K D acc σ' → St (c.pins [(C,oC)]) ρ ((D,.list acc) :: σ') ((.ref D,.raw (.ref D)) :: τ) s' → (∀ h : Heap,h.get? C = some oC → h.Ns C m') → (∀ v,oC.data ≠ .cell v) → RR (.ref D) C (.ok .next) s') :
    wpAny c.M c.A (pyIter va) (fun it s₂ => wpAny c.M c.A (newList []) (fun acc s₃ =>
      wpAny c.M c.A (newFunctionEnv cs c.env.globals ((frees cs.names).reverse.map fun x => (x,cellAt c.env x)) [] c.env.qual Option.none .none (some c.env)) (fun cenv s₄ =>
        codeAny c.M c.A (.compStart (.ListComp elt [⟨target,iter,ifs,0⟩] cs pos) 0 it acc { cenv with scope:=relabel cs c.env }) (RR acc cenv.locals) s₄) Nope s₃) Nope s₂) Nope s:=by
  refine start _ _ fun g it ps h₁ t₁ hj X₁ => ?_
  refine wpAny_newObj_type ?_
  have X₂ : St (c.pins ps) ρ ((h₁.objs.size,.list []) :: σ) ((.ref h₁.objs.size,.raw (.ref h₁.objs.size)) :: (va,I.kd g) :: τ) { s with heap:=h₁.push { cls:=.type "list",data:=.seq ([] : List Value).toArray },toks:=t₁ } :=
    X₁.pushM (mo:=.list []) rfl fun fz hz => .list (n:=_) .nil
  refine compFrame (mk:=fun env => .compStart (.ListComp elt [⟨target,iter,ifs,0⟩] cs pos) 0 (.ref it) (.ref h₁.objs.size) env) (RR:=RR (.ref h₁.objs.size)) hcomp hsc sg hfv hg (I.noc hj) X₂ fun c' π s' hlike hn X₃ out => ?_
  have loop:=runCGo (iter:=iter) (scope:=cs) (pos:=pos) I hT hj X₃ (List.mem_append_right _ (.tail _ (.tail _ hd))) (List.mem_append_right _ (.tail _ (.head _))) (h c' hlike hn _) (R:=RR (.ref h₁.objs.size) _) fun acc ρ' σ' s' hK X₄ => by
    obtain ⟨oC,m',hns',hnc,X₅⟩:=out ρ' _ [] s' X₄
    exact done _ _ oC m' acc σ' s' hK X₅.r1 hns' hnc
  exact codeAny_compStart_list loop (I.self X₃ hj loop)

theorem cells_of {scope cs : Scope} {vs : List Str} {fv gl : List (Str × V)} (X : St c ρ σ τ s) (hsc : c.env.scope = scope) (sg : CompOk scope cs vs (fv.map (·.1)) (gl.map (·.1)))
    (hfv : ∀ p ∈ fv,(p.1,Slot.own (some p.2)) ∈ ρ ∨ (p.1,Slot.ro p.2) ∈ ρ) : closureFor cs c.env = pure ((frees cs.names).reverse.map fun x => (x,cellAt c.env x)):=
  closure_of fun x hx => X.cellsThere hsc hfv (fun y hy => (sg.hf y hy).2.2) x (sg.fin x hx)

theorem wListComp {elt target iter : Expr} {ifs : List Expr} {cs : Scope} (scope : Scope) {pos : Pos} (vs : List Str) (fv gl : List (Str × V))
    (hcomp : c.comp = Option.none) (hsc : c.env.scope = scope) (sg : CompOk scope cs vs (fv.map (·.1)) (gl.map (·.1)))
    (hfv : ∀ p ∈ fv,(p.1,Slot.own (some p.2)) ∈ ρ ∨ (p.1,Slot.ro p.2) ∈ ρ) (hg : ∀ p ∈ gl,∃ v,GV c.K p.1 v ∧ ∀ fz,c.VR fz v p.2) (hs : ∀ x,foldedSetIterable iter c.env x = pure x)
    (h : WT c (eval iter c.env) ρ σ fun d σ₁ => ∃ ds,∃ I : Itr d ds,I.Starts ∧ CompOf c vs fv gl target ifs elt ds σ₁ fun D acc σ' => Q (.raw (.ref D)) ((D,.list acc) :: σ')) :
    WT c (eval (.ListComp elt [⟨target,iter,ifs,0⟩] cs pos) c.env) ρ σ Q:=fun τ s R X hR => by
  rw [eval_ListComp]
  refine wpAny_comprehension_free (use:=Option.none) rfl hs (cells_of X hsc sg hfv) sg.kind sg.names (h τ s _ X fun va d σ₁ s₁ q X₁ => ?_)
  obtain ⟨ds,I,hI,hk⟩:=q
  refine compCore (RR:=fun acc C => compPost c.M c.A Nope Option.none R acc C) I hcomp hsc sg hfv hg (.head _) (hI.1 _) (fun R E k => hI.2 X₁ (.head _) k) hk fun D C oC m' acc σ' s' q X₂ hns hnc => ?_
  refine ⟨m',hns _ (X₂.pinned (.head _)),fun h' hs' => ?_⟩
  exact hR _ _ _ _ q (St.unpin1 (p₁:=[]) (p₂:=[]) (t:=s'.toks) X₂ hnc hs'.extBut).r1

variable {QX : Fl → Vars → Sto → Prop}
theorem xSetComp {x : Str} {p spos : Pos} {elt target iter : Expr} {ifs : List Expr} {cs : Scope} (scope : Scope) {pos : Pos} (vs : List Str) (fv gl : List (Str × V))
    (hsw : swapsWith (.ListComp elt [⟨target,iter,ifs,0⟩] cs pos) (some (.Name x p)) spos.line c.env = pure true)
    (hcomp : c.comp = Option.none) (hsc : c.env.scope = scope) (sg : CompOk scope cs vs (fv.map (·.1)) (gl.map (·.1)))
    (hfv : ∀ p ∈ fv,(p.1,Slot.own (some p.2)) ∈ ρ ∨ (p.1,Slot.ro p.2) ∈ ρ) (hg : ∀ p ∈ gl,∃ v,GV c.K p.1 v ∧ ∀ fz,c.VR fz v p.2) (hs : ∀ x,foldedSetIterable iter c.env x = pure x)
    (h : WT c (eval iter c.env) ρ σ fun d σ₁ => ∃ ds,∃ I : Itr d ds,I.Starts ∧ CompOf c vs fv gl target ifs elt ds σ₁ fun D acc σ' => ∃ ρ',Puts ρ x (.raw (.ref D)) ρ' ∧ QX .next ρ' ((D,.list acc) :: σ')) :
    WX c (exec (.Assign [.Name x p] (.ListComp elt [⟨target,iter,ifs,0⟩] cs pos) spos) c.env) ρ σ QX:=fun τ s R X hR => by
  rw [exec_Assign_Name_used _ _ _ _ hsw,arm_evalThenUse_ListComp]
  refine wpAny_bind (wpAny_standAt (wpAny_bind ?_))
  have key : wpAny c.M c.A (comprehension (.ListComp elt [⟨target,iter,ifs,0⟩] cs pos) cs c.env (firstIterPos [⟨target,iter,ifs,0⟩] pos) (newList []) (firstAsync [⟨target,iter,ifs,0⟩]) (firstIter [⟨target,iter,ifs,0⟩] c.env) (some (assign (.Name x p) c.env)))
      (fun Z s' => R .next s') Nope s:=by
    refine wpAny_comprehension_free rfl hs (cells_of X hsc sg hfv) sg.kind sg.names (h τ s _ X fun va d σ₁ s₁ q X₁ => ?_)
    obtain ⟨ds,I,hI,hk⟩:=q
    refine compCore (RR:=fun acc C => compPost c.M c.A Nope (some (assign (.Name x p) c.env)) (fun Z s' => R .next s') acc C) I hcomp hsc sg hfv hg (.head _) (hI.1 _) (fun R E k => hI.2 X₁ (.head _) k) hk fun D C oC m' acc σ' s' q X₂ hns hnc => ?_
    obtain ⟨ρ',hp,q⟩:=q
    refine wpAny_assign_Name (St.store (c:=c.pins [(C,oC)]) X₂ (.head _) hp fun s'' X₃ => ?_)
    refine ⟨m',hns _ (X₃.pinned (.head _)),fun h' hs' => ?_⟩
    exact hR _ _ _ _ _ _ q .next (St.unpin1 (p₁:=[]) (p₂:=[]) (t:=s''.toks) X₃ hnc hs'.extBut).tl.tl
  exact wpAny_bind (wpAny_mono key (fun Z s' r => wpAny_pure (wpAny_pure r)) fun Z Z x => x)
end
end
end Mine
end
section
set_option tactic.hygienic false
namespace Mine
noncomputable section
noncomputable def DGo (c : Cx) (D : Addr) (target : Expr) (ifs : List Expr) (kx vx : Expr) (K : List (Int × V) → Sto → Prop) : List V → List (Int × V) → Vars → Sto → Prop
  | [],acc,_,σ => K acc σ
  | x :: xs,acc,ρ,σ => ∀ ps,NoCells ps → WU (c.pins ps) (assign target c.env) x ρ ((D,.dict acc) :: σ) fun ρ₁ σ₁ => WB (c.pins ps) (testsOf ifs c.env) ρ₁ σ₁ fun b σ₂ =>
      (b = true → WT (c.pins ps) (eval kx c.env) ρ₁ σ₂ fun k σ₃ => WT (c.pins ps) (eval vx c.env) ρ₁ σ₃ fun y σ₄ => ∃ i σ',k = .int i ∧ σ₄ = (D,.dict acc) :: σ' ∧ acc.length < 1000000 ∧ DGo c D target ifs kx vx K xs (dput acc i y) ρ₁ σ') ∧
      (b = false → ∃ σ',σ₂ = (D,.dict acc) :: σ' ∧ DGo c D target ifs kx vx K xs acc ρ₁ σ')

theorem codeAny_compLoop_anyD {prog : Program} {w : World} {A : Around} {R : Result → Shared → Prop} {s : Shared} {kx vx target iter : Expr} {ifs : List Expr} {scope : Scope} {pos : Pos} {it : Value} {D : Addr} {env : Env} (I : Nat → Shared → Prop)
    (turn : ∀ n s,I n s → wpAny (model prog w) A (pyNext it) (fun r s₁ => match r with
      | none => R (.ok .next) s₁
      | some v => wpAny (model prog w) A (letOwnedTupleGo target it v) (fun Z s₁' => wpAny (model prog w) A (assign target env v) (fun Z s₂ =>
          wpAny (model prog w) A (testsOf ifs env) (fun ok s₃ =>
            if ok = true then wpAny (model prog w) A (eval kx env) (fun kv s₄ => wpAny (model prog w) A (eval vx env) (fun vv s₅ =>
              wpAny (model prog w) A (dictSet D kv vv) (fun Z s₆ => ∃ m,m < n ∧ I m s₆) Nope s₅) Nope s₄) Nope s₃
            else ∃ m,m < n ∧ I m s₃) Nope s₂) Nope s₁') Nope s₁) Nope s)
    (n : Nat) (h : I n s) : codeAny (model prog w) A (.compLoop (.DictComp kx vx [⟨target,iter,ifs,0⟩] scope pos) 0 it (.ref D) env) R s:=by
  refine codeAny_loop rfl I (fun n s hI => ?_) n h
  show wpAny _ A ((compTurn (.DictComp kx vx [⟨target,iter,ifs,0⟩] scope pos) 0 it (.ref D) env).onRaise (fun x => do noteFrame x env; theTreesLotGoes x)) _ _ s
  refine wpAny_noted ?_
  rw [compTurn_dict]
  refine wpAny_bind (wpAny_standAt (wpAny_bind (wpAny_mono (turn n s hI) (fun r s₁ h₁ => ?_) fun Z Z h' => h'.elim)))
  cases r with
  | none => exact wpAny_pure h₁
  | some v =>
    refine wpAny_bind (wpAny_mono h₁ (fun Z s₁' h₁ => ?_) fun Z Z h' => h'.elim)
    refine wpAny_bind (wpAny_mono h₁ (fun Z s₂ h₂ => wpAny_bind (wpAny_mono h₂ (fun ok s₃ h₃ => ?_) fun Z Z h' => h'.elim)) fun Z Z h' => h'.elim)
    cases ok with
    | false => exact wpAny_pure ⟨rfl,h₃⟩
    | true =>
      exact wpAny_bind (wpAny_bind (wpAny_mono h₃ (fun kv s₄ h₄ => wpAny_bind (wpAny_holding (wpAny_mono h₄ (fun vv s₅ h₅ => wpAny_bind (wpAny_standAt (wpAny_holding (wpAny_mono h₅ (fun Z s₆ h₆ => wpAny_pure ⟨rfl,h₆⟩) fun Z Z h' => h'.elim)))) fun Z Z h' => h'.elim))) fun Z Z h' => h'.elim))

theorem St.dictSet {c : Cx} {ρ : Vars} {τ : List (Value × V)} {s : Shared} {σ₁ σ₂ : Sto} {a : Addr} {es : List (Int × V)} {k : Int} {d : V} {vk vd : Value} (hsz : es.length ≤ sizeLine) (hk : (vk,.int k) ∈ τ) (hd : (vd,d) ∈ τ) (X : St c ρ (σ₁ ++ (a,.dict es) :: σ₂) τ s)
    {R : Unit → Shared → Prop} (q : ∀ s',St c ρ (σ₁ ++ (a,.dict (dput es k d)) :: σ₂) τ s' → R () s') : wpAny c.M c.A (PySem.dictSet a vk vd) R Nope s:=by
  obtain ⟨t,rfl⟩:=sInt X hk
  refine St.update (mo':=.dict (dput es k d)) X fun fz o₁ o mr ho hz kn up => ?_
  obtain ⟨_,rfl,h1,h2,h3⟩:=mr.inv
  refine wpAny_dictSet_pairs (knd:=intKind c.prog c.w) (intKind_is _ _ _ _) (Heap.dictOf_iff.mpr ⟨_,ho,h2⟩) (fun h' hm hs => ?_) (by rw [h3.length]; exact hsz)
  obtain ⟨o',ho',hd'⟩:=Heap.dictOf_iff.mp hm
  exact q _ (up h' _ o' hs ho' (.dict h1 hd' (h3.put (hz _ _ hd) k)))

inductive DGoI {c : Cx} {d : V} {ds : List V} (I : Itr d ds) (g : I.G) (D : Addr) (target kx vx : Expr) (ifs : List Expr) (K : List (Int × V) → Sto → Prop) (va : Value) (it : Addr) (τ : List (Value × V)) (n : Nat) (s : Shared) : Prop
  | mk (i : Nat) (ps : Led) (acc : List (Int × V)) (ρ : Vars) (σ : Sto) (hn : n + i = ds.length) (hj : I.J g va it i ps) (X : St (c.pins ps) ρ ((D,.dict acc) :: σ) τ s) (hw : DGo c D target ifs kx vx K (ds.drop i) acc ρ σ) : DGoI I g D target kx vx ifs K va it τ n s
theorem runDGo {c : Cx} {D : Addr} {d : V} {ds : List V} (I : Itr d ds) {g : I.G} {kx vx target iter : Expr} {ifs : List Expr} {scope : Scope} {pos : Pos} {K : List (Int × V) → Sto → Prop} {va : Value} {it : Addr} {ps : Led} {ρ : Vars} {σ : Sto} {τ : List (Value × V)} {s : Shared} {R : Result → Shared → Prop}
    (hT : I.T target) (hj : I.J g va it 0 ps) (X : St (c.pins ps) ρ ((D,.dict []) :: σ) τ s) (hd : (va,d) ∈ τ) (hg : (va,I.kd g) ∈ τ) (h : DGo c D target ifs kx vx K ds [] ρ σ)
    (done : ∀ acc ρ' σ' s',K acc σ' → St c ρ' ((D,.dict acc) :: σ') τ s' → R (.ok .next) s') :
    codeAny c.M c.A (.compLoop (.DictComp kx vx [⟨target,iter,ifs,0⟩] scope pos) 0 (.ref it) (.ref D) c.env) R s:=by
  refine codeAny_compLoop_anyD (DGoI I g D target kx vx ifs K va it τ) ?_ ds.length ⟨0,ps,[],ρ,σ,rfl,hj,X,h⟩
  clear hj X h
  rintro n s ⟨i,ps,acc,ρ,σ,hn,hj,X,hw⟩
  cases hx : ds[i]? with
  | none =>
    rw [List.drop_eq_nil_of_le (List.getElem?_eq_none_iff.mp hx)] at hw
    exact I.fin X hd hg hj hx fun h' t X' => done _ _ _ _ hw X'
  | some x =>
    obtain ⟨hlt,hx'⟩:=List.getElem?_eq_some_iff.mp hx
    rw [List.drop_eq_getElem_cons hlt,hx'] at hw
    obtain ⟨k,hk,hn'⟩:=less_of hn hlt
    refine I.next X hd hg hj hx fun v s' own => own hT fun ps₂ s₂ hj₂ noc₂ X₂ => ?_
    refine hw ps₂ noc₂ _ _ v _ (.head _) X₂ fun ρ₁ σ₁ s₃ q X₃ => q _ _ _ X₃ fun b σ₂ s₄ q₂ X₄ => ?_
    cases b with
    | false =>
      obtain ⟨σ',rfl,q₃⟩:=q₂.2 rfl
      exact ⟨k,hk,i + 1,ps₂,acc,ρ₁,σ',hn',hj₂,X₄.tl,q₃⟩
    | true =>
      refine q₂.1 rfl _ _ _ X₄ fun y e σ₃ s₅ q₃ X₅ => q₃ _ _ _ X₅ fun z f σ₄ s₆ q₄ X₆ => ?_
      obtain ⟨j,σ',rfl,rfl,hsz,q₅⟩:=q₄
      exact St.dictSet (σ₁:=[]) (c:=c.pins ps₂) (Nat.le_trans (Nat.le_of_lt hsz) (by decide)) (.tail _ (.head _)) (.head _) X₆ fun s' X7 => ⟨k,hk,i + 1,ps₂,dput acc j f,ρ₁,σ',hn',hj₂,X7.tl.tl.tl,q₅⟩

noncomputable def DCompOf (c : Cx) (vs : List Str) (fv gl : List (Str × V)) (target : Expr) (ifs : List Expr) (kx vx : Expr) (ds : List V) (σ : Sto) (K : Addr → List (Int × V) → Sto → Prop) : Prop:=
  ∀ c' : Cx,c.Like c' → c'.n = c.n → ∀ D,DGo c' D target ifs kx vx (K D) ds [] (compVars vs fv gl) σ

section
variable {c : Cx} {ρ : Vars} {σ : Sto} {τ : List (Value × V)} {s : Shared} {Q : V → Sto → Prop}

theorem compCoreD {d : V} {ds : List V} (I : Itr d ds) {kx vx target iter : Expr} {ifs : List Expr} {cs scope : Scope} {pos : Pos} {vs : List Str} {fv gl : List (Str × V)} {K : Addr → List (Int × V) → Sto → Prop} {va ve : Value} {RR : Value → Addr → Result → Shared → Prop}
    (hcomp : c.comp = Option.none) (hsc : c.env.scope = scope) (sg : CompOk scope cs vs (fv.map (·.1)) (gl.map (·.1)))
    (hfv : ∀ p ∈ fv,(p.1,Slot.own (some p.2)) ∈ ρ ∨ (p.1,Slot.ro p.2) ∈ ρ) (hg : ∀ p ∈ gl,∃ v,GV c.K p.1 v ∧ ∀ fz,c.VR fz v p.2)
    (hd : (va,d) ∈ τ) (hT : I.T target) (big : sysModules < c.h₀.objs.size)
    (start : ∀ (R : Value → Shared → Prop) (E : Value → Shared → Prop),(∀ g it ps h' t,I.J g va it 0 ps → St (c.pins ps) ρ σ ((va,I.kd g) :: τ) { s with heap:=h',toks:=t } → R (.ref it) { s with heap:=h',toks:=t }) → wpAny c.M c.A (pyIter ve) R E s) (h : DCompOf c vs fv gl target ifs kx vx ds σ K)
    (done : ∀ D C oC m' acc σ' s',K D acc σ' → St (c.pins [(C,oC)]) ρ ((D,.dict acc) :: σ') ((.ref D,.raw (.ref D)) :: τ) s' → (∀ h : Heap,h.get? C = some oC → h.Ns C m') → (∀ v,oC.data ≠ .cell v) → RR (.ref D) C (.ok .next) s') :
    wpAny c.M c.A (pyIter ve) (fun it s₂ => wpAny c.M c.A newDict (fun acc s₃ =>
      wpAny c.M c.A (newFunctionEnv cs c.env.globals ((frees cs.names).reverse.map fun x => (x,cellAt c.env x)) [] c.env.qual Option.none .none (some c.env)) (fun cenv s₄ =>
        codeAny c.M c.A (.compStart (.DictComp kx vx [⟨target,iter,ifs,0⟩] cs pos) 0 it acc { cenv with scope:=relabel cs c.env }) (RR acc cenv.locals) s₄) Nope s₃) Nope s₂) Nope s:=by
  refine start _ _ fun g it ps h₁ t₁ hj X₁ => ?_
  unfold newDict
  refine wpAny_newObj_type ?_
  have X₂ : St (c.pins ps) ρ ((h₁.objs.size,.dict []) :: σ) ((.ref h₁.objs.size,.raw (.ref h₁.objs.size)) :: (va,I.kd g) :: τ) { s with heap:=h₁.push { cls:=.type "dict",data:=.dict #[] },toks:=t₁ }:=by
    obtain ⟨ok,g',os,m,raw,cl,fz,r,l⟩:=X₁
    have lo : (h₁.objs.size == sysModules) = false:=l.fr.notModules big
    refine ⟨ok,g',os,m,_,cl,fz,(r.withSto (SRelB.cons (MRelB.dict lo ?_ .nil) r.sto)).held (.raw _),l.pushM _⟩
    obtain ⟨o,ho,hd⟩:=Heap.dictOf_iff.mp (Heap.DictOf.new (knd:=intKind c.prog c.w) h₁)
    have : o = { cls:=.type "dict",data:=.dict #[] }:=by
      rw [Heap.get?_push_size _ rfl] at ho
      exact (Option.some.inj ho).symm
    exact this ▸ hd
  refine compFrame (mk:=fun env => .compStart (.DictComp kx vx [⟨target,iter,ifs,0⟩] cs pos) 0 (.ref it) (.ref h₁.objs.size) env) (RR:=RR (.ref h₁.objs.size)) hcomp hsc sg hfv hg (I.noc hj) X₂ fun c' π s' hlike hn X₃ out => ?_
  have loop:=runDGo (iter:=iter) (scope:=cs) (pos:=pos) I hT hj X₃ (List.mem_append_right _ (.tail _ (.tail _ hd))) (List.mem_append_right _ (.tail _ (.head _))) (h c' hlike hn _) (R:=RR (.ref h₁.objs.size) _) fun acc ρ' σ' s' hK X₄ => by
    obtain ⟨oC,m',hns',hnc,X₅⟩:=out ρ' _ [] s' X₄
    exact done _ _ oC m' acc σ' s' hK X₅.r1 hns' hnc
  exact codeAny_compStart_dict loop (I.self X₃ hj loop)

variable {QX : Fl → Vars → Sto → Prop}
theorem xSetDComp {x : Str} {p spos : Pos} {kx vx target iter : Expr} {ifs : List Expr} {cs : Scope} (scope : Scope) {pos : Pos} (vs : List Str) (fv gl : List (Str × V))
    (hsw : swapsWith (.DictComp kx vx [⟨target,iter,ifs,0⟩] cs pos) (some (.Name x p)) spos.line c.env = pure true)
    (hcomp : c.comp = Option.none) (hsc : c.env.scope = scope) (sg : CompOk scope cs vs (fv.map (·.1)) (gl.map (·.1)))
    (hfv : ∀ p ∈ fv,(p.1,Slot.own (some p.2)) ∈ ρ ∨ (p.1,Slot.ro p.2) ∈ ρ) (hg : ∀ p ∈ gl,∃ v,GV c.K p.1 v ∧ ∀ fz,c.VR fz v p.2) (hs : ∀ x,foldedSetIterable iter c.env x = pure x)
    (h : WT c (eval iter c.env) ρ σ fun d σ₁ => ∃ ds,∃ I : Itr d ds,I.Starts ∧ DCompOf c vs fv gl target ifs kx vx ds σ₁ fun D acc σ' => ∃ ρ',Puts ρ x (.raw (.ref D)) ρ' ∧ QX .next ρ' ((D,.dict acc) :: σ')) :
    WX c (exec (.Assign [.Name x p] (.DictComp kx vx [⟨target,iter,ifs,0⟩] cs pos) spos) c.env) ρ σ QX:=fun τ s R X hR => by
  rw [exec_Assign_Name_used _ _ _ _ hsw,arm_evalThenUse_DictComp]
  refine wpAny_bind (wpAny_standAt (wpAny_bind ?_))
  have key : wpAny c.M c.A (comprehension (.DictComp kx vx [⟨target,iter,ifs,0⟩] cs pos) cs c.env (firstIterPos [⟨target,iter,ifs,0⟩] pos) newDict (firstAsync [⟨target,iter,ifs,0⟩]) (firstIter [⟨target,iter,ifs,0⟩] c.env) (some (assign (.Name x p) c.env)))
      (fun Z s' => R .next s') Nope s:=by
    refine wpAny_comprehension_free rfl hs (cells_of X hsc sg hfv) sg.kind sg.names (h τ s _ X fun va d σ₁ s₁ q X₁ => ?_)
    obtain ⟨ds,I,hI,hk⟩:=q
    refine compCoreD (RR:=fun acc C => compPost c.M c.A Nope (some (assign (.Name x p) c.env)) (fun Z s' => R .next s') acc C) I hcomp hsc sg hfv hg (.head _) (hI.1 _) (modules_low X.ok.T.nolimit) (fun R E k => hI.2 X₁ (.head _) k) hk fun D C oC m' acc σ' s' q X₂ hns hnc => ?_
    obtain ⟨ρ',hp,q⟩:=q
    refine wpAny_assign_Name (St.store (c:=c.pins [(C,oC)]) X₂ (.head _) hp fun s'' X₃ => ?_)
    refine ⟨m',hns _ (X₃.pinned (.head _)),fun h' hs' => ?_⟩
    exact hR _ _ _ _ _ _ q .next (St.unpin1 (p₁:=[]) (p₂:=[]) (t:=s''.toks) X₃ hnc hs'.extBut).tl.tl
  exact wpAny_bind (wpAny_mono key (fun Z s' r => wpAny_pure (wpAny_pure r)) fun Z Z x => x)
end
end
end Mine
end
section
set_option tactic.hygienic false
set_option backward.match.sparseCases false
namespace Mine
noncomputable section
noncomputable def stmtAt (i : Nat) : Stmt:=(PySem.Challenge.pw_nz0129_01.main.body)[i]?.getD (.Pass ⟨0,0,0,0⟩)
noncomputable def bodyOf : Stmt → List Stmt | .FunctionDef _ _ b .. => b | .ClassDef _ _ _ b .. => b | _ => []
noncomputable def scopeOf : Stmt → Scope | .FunctionDef _ _ _ _ _ _ s .. => s | _ => default
noncomputable def parsOf : Stmt → Arguments | .FunctionDef _ p .. => p | _ => default
noncomputable def partOf (i j : Nat) : Stmt:=(bodyOf (stmtAt i))[j]?.getD (.Pass ⟨0,0,0,0⟩)
end
end Mine
end
section
set_option tactic.hygienic false
namespace Mine
noncomputable section
noncomputable abbrev Fn (K : Frag) (f : Addr) (i : Nat) : Prop:=FnIs K f (parsOf (stmtAt i)) (bodyOf (stmtAt i)) (scopeOf (stmtAt i)) .none
noncomputable abbrev Me (K : Frag) (f : Addr) (i j : Nat) : Prop:=FnIs K f (parsOf (partOf i j)) (bodyOf (partOf i j)) (scopeOf (partOf i j)) .none

noncomputable def bitsV : V:=.sdict [("i8",.int 8),("i16",.int 16),("i32",.int 32),("i64",.int 64),("u8",.int 8),("u16",.int 16),("u32",.int 32),("u64",.int 64),("usize",.int 64)]

noncomputable def compdV : V:=.tup [.str "==",.str "!=",.str "<",.str "<=",.str ">",.str ">="]
noncomputable def plainV : V:=.tup [.str "int",.str "bool"]
set_option genInjectivity false in
set_option genSizeOf false in
structure Tab where
  is_signed : Addr
  least : Addr
  greatest : Addr
  fits : Addr
  wrapped : Addr
  cast_int : Addr
  exact : Addr
  checked : Addr
  compared : Addr
  successors : Addr
  copied : Addr
  operands_of : Addr
  with_operands : Addr
  is_followed : Addr
  lent_locals : Addr
  reckoned_binary : Addr
  with_constants : Addr
  l_pool : Addr
  l_take : Addr
  l_one : Addr
  l_body : Addr
  l_begun : Addr
  l_operand : Addr
  l_truth : Addr
  l_statement : Addr
  l_end : Addr
  l_read : Addr
  l_worked : Addr
  l_made : Addr
  l_run : Addr
  l_next : Addr
  l_operands : Addr
  l_is_plain : Addr
  l_meeting_right : Addr
  Facts : Addr
  FactsI : Addr
  f_at_place : Addr
  f_at_operand : Addr
  f_forget : Addr
  Constants : Addr
  ConstantsI : Addr
  c_type_of : Addr
  c_value_of : Addr
  c_of_two : Addr
  c_of_one : Addr
  c_of_cast : Addr
  c_step : Addr
  c_behind : Addr
  c_gone_on : Addr
  c_known_target : Addr
  c_meet : Addr
  c_follow : Addr
  c_put : Addr
  c_put_rvalue : Addr
  c_put_statement : Addr
  c_put_terminator : Addr
  Body : Addr
  BodyI : Addr
  bodyD : Value
  bits : Addr
  compd : Addr
  plain : Addr

structure MethOf (K : Frag) (C : Addr) (name : Str) (f : Addr) (i j : Nat) (ns : List Str) : Prop where
  get : plainGet K C name = true
  find : findIn K (.ref C) name = some (some (.ref f))
  fn : isFn K (.ref f) = true
  me : Me K f i j
  no : name ∉ ns
structure ClsOf (K : Frag) (C fI : Addr) (x : Str) (i : Nat) (dV : Value) : Prop where
  gv : GV K x (.ref C)
  make : makesIn K C = true
  find : findIn K (.ref C) "__init__" = some (some (.ref fI))
  fn : isFn K (.ref fI) = true
  keep : keepIn K (.ref C) = true
  me : FnIs K fI (parsOf (partOf i 0)) (bodyOf (partOf i 0)) (scopeOf (partOf i 0)) dV
structure HasOf (t : Tab) (prog : Program) (w : World) (K : Frag) (base : Heap) : Prop where
  is_signed : GV K "is_signed" (.ref t.is_signed) ∧ Fn K t.is_signed 6
  least : GV K "least" (.ref t.least) ∧ Fn K t.least 7
  greatest : GV K "greatest" (.ref t.greatest) ∧ Fn K t.greatest 8
  fits : GV K "fits" (.ref t.fits) ∧ Fn K t.fits 9
  wrapped : GV K "wrapped" (.ref t.wrapped) ∧ Fn K t.wrapped 10
  cast_int : GV K "cast_int" (.ref t.cast_int) ∧ Fn K t.cast_int 11
  exact : GV K "exact" (.ref t.exact) ∧ Fn K t.exact 13
  checked : GV K "checked" (.ref t.checked) ∧ Fn K t.checked 14
  compared : GV K "compared" (.ref t.compared) ∧ Fn K t.compared 16
  successors : GV K "successors" (.ref t.successors) ∧ Fn K t.successors 19
  copied : GV K "copied" (.ref t.copied) ∧ Fn K t.copied 20
  operands_of : GV K "operands_of" (.ref t.operands_of) ∧ Fn K t.operands_of 21
  with_operands : GV K "with_operands" (.ref t.with_operands) ∧ Fn K t.with_operands 22
  is_followed : GV K "is_followed" (.ref t.is_followed) ∧ Fn K t.is_followed 26
  lent_locals : GV K "lent_locals" (.ref t.lent_locals) ∧ Fn K t.lent_locals 27
  reckoned_binary : GV K "reckoned_binary" (.ref t.reckoned_binary) ∧ Fn K t.reckoned_binary 29
  with_constants : GV K "with_constants" (.ref t.with_constants) ∧ Fn K t.with_constants 31
  l_pool : GV K "_law_pool" (.ref t.l_pool) ∧ Fn K t.l_pool 33
  l_take : GV K "_law_take" (.ref t.l_take) ∧ Fn K t.l_take 34
  l_one : GV K "_law_one" (.ref t.l_one) ∧ Fn K t.l_one 35
  l_body : GV K "_law_body" (.ref t.l_body) ∧ Fn K t.l_body 36
  l_begun : GV K "_law_begun" (.ref t.l_begun) ∧ Fn K t.l_begun 37
  l_operand : GV K "_law_operand" (.ref t.l_operand) ∧ Fn K t.l_operand 38
  l_truth : GV K "_law_truth" (.ref t.l_truth) ∧ Fn K t.l_truth 39
  l_statement : GV K "_law_statement" (.ref t.l_statement) ∧ Fn K t.l_statement 40
  l_end : GV K "_law_end" (.ref t.l_end) ∧ Fn K t.l_end 41
  l_read : GV K "_law_read" (.ref t.l_read) ∧ Fn K t.l_read 42
  l_worked : GV K "_law_worked" (.ref t.l_worked) ∧ Fn K t.l_worked 43
  l_made : GV K "_law_made" (.ref t.l_made) ∧ Fn K t.l_made 44
  l_run : GV K "_law_run" (.ref t.l_run) ∧ Fn K t.l_run 45
  l_next : GV K "_law_next" (.ref t.l_next) ∧ Fn K t.l_next 46
  l_operands : GV K "_law_operands" (.ref t.l_operands) ∧ Fn K t.l_operands 47
  l_is_plain : GV K "_law_is_plain" (.ref t.l_is_plain) ∧ Fn K t.l_is_plain 48
  l_meeting_right : GV K "_law_meeting_right" (.ref t.l_meeting_right) ∧ Fn K t.l_meeting_right 49
  Facts : ClsOf K t.Facts t.FactsI "Facts" 28 .none
  f_at_place : MethOf K t.Facts "at_place" t.f_at_place 28 1 ["known"]
  f_at_operand : MethOf K t.Facts "at_operand" t.f_at_operand 28 2 ["known"]
  f_forget : MethOf K t.Facts "forget" t.f_forget 28 3 ["known"]
  g_Facts_known : AttrOf K t.Facts "known"
  s_Facts_known : SetOf K t.Facts "known"
  Constants : ClsOf K t.Constants t.ConstantsI "Constants" 30 .none
  c_type_of : MethOf K t.Constants "type_of" t.c_type_of 30 1 ["body", "followed", "begins"]
  c_value_of : MethOf K t.Constants "value_of" t.c_value_of 30 2 ["body", "followed", "begins"]
  c_of_two : MethOf K t.Constants "of_two" t.c_of_two 30 3 ["body", "followed", "begins"]
  c_of_one : MethOf K t.Constants "of_one" t.c_of_one 30 4 ["body", "followed", "begins"]
  c_of_cast : MethOf K t.Constants "of_cast" t.c_of_cast 30 5 ["body", "followed", "begins"]
  c_step : MethOf K t.Constants "step" t.c_step 30 6 ["body", "followed", "begins"]
  c_behind : MethOf K t.Constants "behind" t.c_behind 30 7 ["body", "followed", "begins"]
  c_gone_on : MethOf K t.Constants "gone_on" t.c_gone_on 30 8 ["body", "followed", "begins"]
  c_known_target : MethOf K t.Constants "known_target" t.c_known_target 30 9 ["body", "followed", "begins"]
  c_meet : MethOf K t.Constants "meet" t.c_meet 30 10 ["body", "followed", "begins"]
  c_follow : MethOf K t.Constants "follow" t.c_follow 30 11 ["body", "followed", "begins"]
  c_put : MethOf K t.Constants "put" t.c_put 30 12 ["body", "followed", "begins"]
  c_put_rvalue : MethOf K t.Constants "put_rvalue" t.c_put_rvalue 30 13 ["body", "followed", "begins"]
  c_put_statement : MethOf K t.Constants "put_statement" t.c_put_statement 30 14 ["body", "followed", "begins"]
  c_put_terminator : MethOf K t.Constants "put_terminator" t.c_put_terminator 30 15 ["body", "followed", "begins"]
  g_Constants_body : AttrOf K t.Constants "body"
  s_Constants_body : SetOf K t.Constants "body"
  g_Constants_followed : AttrOf K t.Constants "followed"
  s_Constants_followed : SetOf K t.Constants "followed"
  g_Constants_begins : AttrOf K t.Constants "begins"
  s_Constants_begins : SetOf K t.Constants "begins"
  Body : ClsOf K t.Body t.BodyI "Body" 18 t.bodyD
  bodyD : ∃ a o n,t.bodyD = .ref a ∧ K.lookup a = some o ∧ o.data = .seq #[.none,.none] n
  g_Body_name : AttrOf K t.Body "name"
  s_Body_name : SetOf K t.Body "name"
  g_Body_arg_count : AttrOf K t.Body "arg_count"
  s_Body_arg_count : SetOf K t.Body "arg_count"
  g_Body_locals : AttrOf K t.Body "locals"
  s_Body_locals : SetOf K t.Body "locals"
  g_Body_blocks : AttrOf K t.Body "blocks"
  s_Body_blocks : SetOf K t.Body "blocks"
  g_Body_spots : AttrOf K t.Body "spots"
  s_Body_spots : SetOf K t.Body "spots"
  bits : GV K "BITS" (.ref t.bits) ∧ ∀ fz : Led,VRel prog w (fun a o => (a,o) ∈ fz ∨ base.get? a = some o) (.ref t.bits) bitsV
  compd : GV K "COMPARED" (.ref t.compd) ∧ ∀ fz : Led,VRel prog w (fun a o => (a,o) ∈ fz ∨ base.get? a = some o) (.ref t.compd) compdV
  plain : GV K "PLAIN" (.ref t.plain) ∧ ∀ fz : Led,VRel prog w (fun a o => (a,o) ∈ fz ∨ base.get? a = some o) (.ref t.plain) plainV
  b_int : GV K "int" (.type "int")
  b_len : GV K "len" (.builtin "len")
  b_range : GV K "range" (.type "range")
  b_list : GV K "list" (.type "list")
  b_tuple : GV K "tuple" (.type "tuple")
  b_dict : GV K "dict" (.type "dict")
  b_sorted : GV K "sorted" (.builtin "sorted")
  b_enumerate : GV K "enumerate" (.type "enumerate")
  b_isinstance : GV K "isinstance" (.builtin "isinstance")
  b_bool : GV K "bool" (.type "bool")
  b_max : GV K "max" (.builtin "max")

noncomputable abbrev Has (t : Tab) (c : Cx) : Prop:=HasOf t c.prog c.w c.K c.base
theorem HasOf.like {t : Tab} {c c' : Cx} (h : Has t c) (l : c.Like c') : Has t c':=by
  obtain ⟨e1,e2,e3,e4⟩:=l
  show HasOf t c'.prog c'.w c'.K c'.base
  rw [e1,e2,e3,e4]
  exact h

section
variable {c : Cx} {ρ : Vars} {σ : Sto} {Q : V → Sto → Prop} {QX : Fl → Vars → Sto → Prop}
theorem thenNext {rest : List Stmt} (h : WX c (execs rest c.env) ρ σ QX) : Then c rest QX .next ρ σ:=h
theorem oEqStrF {a b : Str} (h : (a == b) = false) (q : Q (.bool false) σ) : W2 c (compareOp .Eq) (.str a) (.str b) ρ σ Q:=oEqStr (by rw [h]; exact q)
theorem oInT {a b : V} {x y : PyData} {xs : List PyData} (hx : Rd σ a x) (hy : Rd σ b y) (hs : Seq y xs) (sx : SeqAt.shaped x = true) (sy : PyData.canLayAll0 xs = true) (h : (xs.any fun y => PyData.eqv y x) = true) (q : Q (.bool true) σ) : W2 c (compareOp .In) a b ρ σ Q:=oIn hx hy hs sx sy (by rw [h]; exact q)
theorem oInF {a b : V} {x y : PyData} {xs : List PyData} (hx : Rd σ a x) (hy : Rd σ b y) (hs : Seq y xs) (sx : SeqAt.shaped x = true) (sy : PyData.canLayAll0 xs = true) (h : (xs.any fun y => PyData.eqv y x) = false) (q : Q (.bool false) σ) : W2 c (compareOp .In) a b ρ σ Q:=oIn hx hy hs sx sy (by rw [h]; exact q)
end

section
variable {t : Tab} {c : Cx} {ρ : Vars} {σ : Sto} {Q : V → Sto → Prop}

noncomputable def Gl (c : Cx) (x : Str) (d : V) : Prop:=∃ v,GV c.K x v ∧ ∀ fz,c.VR fz v d
theorem gF {x : Str} {v : Value} (h : GV c.K x v) : Gl c x (.raw v):=⟨v,h,fun fz => .raw v⟩
theorem gnil : ∀ p ∈ ([] : List (Str × V)),∃ v,GV c.K p.1 v ∧ ∀ fz,c.VR fz v p.2:=fun p hp => nomatch hp
theorem gcons {x : Str} {d : V} {gl : List (Str × V)} (h : Gl c x d) (r : ∀ p ∈ gl,∃ v,GV c.K p.1 v ∧ ∀ fz,c.VR fz v p.2) : ∀ p ∈ (x,d) :: gl,∃ v,GV c.K p.1 v ∧ ∀ fz,c.VR fz v p.2:=List.forall_mem_cons.mpr ⟨h,r⟩

theorem HasOf.gBits (H : Has t c) : Gl c "BITS" bitsV:=⟨_,H.bits.1,H.bits.2⟩

end
end
end Mine
end
section
set_option tactic.hygienic false
namespace Mine
noncomputable section
section
variable {t : Tab} {c : Cx} {ρ : Vars} {σ : Sto} {Q : V → Sto → Prop}

inductive Ar where
  | add | sub | mul | and | or | xor
noncomputable def Ar.str : Ar → Str
  | .add => "+" | .sub => "-" | .mul => "*" | .and => "&" | .or => "|" | .xor => "^"
noncomputable def Ar.run (o : Ar) (a b : Int) : Int:=match o with
  | .add => a + b
  | .sub => a - b
  | .mul => a * b
  | .and => Builtin.bitAnd a b
  | .or => Builtin.bitOr a b
  | .xor => Builtin.bitXor a b
inductive Cm where
  | eq | ne | lt | le | gt | ge
noncomputable def Cm.str : Cm → Str
  | .eq => "==" | .ne => "!=" | .lt => "<" | .le => "<=" | .gt => ">" | .ge => ">="
noncomputable def Cm.run (o : Cm) (a b : Int) : Bool:=match o with
  | .eq => a == b
  | .ne => a != b
  | .lt => decide (a < b)
  | .le => decide (a ≤ b)
  | .gt => decide (a > b)
  | .ge => decide (a ≥ b)

noncomputable def small (a : Int) : Prop:=0 ≤ a ∧ a < 256
theorem mulOk {a b : Int} (ha : small a) (hb : small b) : IntMulOk a b:=by
  obtain ⟨h1,h2⟩:=ha
  exact IntMulOk.of_left (intBits_le_64 (by omega) (by exact Int.lt_of_lt_of_le (by assumption) (by decide)))

noncomputable def over (r : Int) : Bool:=!(decide (0 ≤ r) && decide (r ≤ 255))
end
end
end Mine
end
section
set_option tactic.hygienic false
namespace Mine
noncomputable section
inductive Vl where
  | n (i : Int)
  | b (x : Bool)
  | p (i : Int) (x : Bool)
noncomputable def Vl.v : Vl → V
  | .n i => .int i
  | .b x => .bool x
  | .p i x => .tup [.int i,.bool x]
noncomputable def optV : Option Vl → V
  | some x => x.v
  | Option.none => .none
inductive Ty where
  | byte | bit | pair
noncomputable abbrev byteV : V:=.tup [.str "int",.str "u8"]
noncomputable abbrev bitV : V:=.tup [.str "bool"]
noncomputable def Ty.v : Ty → V
  | .byte => byteV
  | .bit => bitV
  | .pair => .tup [.str "tuple",.tup [byteV,bitV]]
inductive Opd where
  | num (n : Int)
  | bit (b : Bool)
  | loc (l : Nat)
  | part (l : Nat) (k : Bool)
noncomputable def kI (k : Bool) : Int:=if k then 1 else 0
noncomputable abbrev placeV (l : Nat) : V:=.tup [.int l,.tup []]
noncomputable abbrev partV (l : Nat) (k : Bool) : V:=.tup [.int l,.tup [.tup [.str "field",.int (kI k)]]]
noncomputable def Opd.v : Opd → V
  | .num n => .tup [.str "const",byteV,.int n]
  | .bit b => .tup [.str "const",bitV,.bool b]
  | .loc l => .tup [.str "copy",placeV l]
  | .part l k => .tup [.str "copy",partV l k]
inductive Bo where
  | ar (o : Ar)
  | cm (o : Cm)
noncomputable def Bo.str : Bo → Str
  | .ar o => o.str
  | .cm o => o.str
inductive Rv where
  | use (o : Opd)
  | tuple (a b : Opd)
  | binary (o : Bo) (a b : Opd)
  | checked (o : Ar) (a b : Opd)
  | inv (a : Opd)
  | neg (a : Opd)
  | cast (a : Opd)
noncomputable def Rv.v : Rv → V
  | .use o => .tup [.str "use",o.v]
  | .tuple a b => .tup [.str "tuple",.tup [a.v,b.v]]
  | .binary o a b => .tup [.str "binary",.str o.str,a.v,b.v]
  | .checked o a b => .tup [.str "checked",.str o.str,a.v,b.v]
  | .inv a => .tup [.str "unary",.str "!",a.v]
  | .neg a => .tup [.str "unary",.str "-",a.v]
  | .cast a => .tup [.str "cast",a.v,byteV]
inductive Stm where
  | asg (l : Nat) (r : Rv)
  | print (o : Opd)
  | nop
noncomputable def Stm.v : Stm → V
  | .asg l r => .tup [.str "assign",placeV l,r.v]
  | .print o => .tup [.str "print",o.v]
  | .nop => .tup [.str "nop"]
inductive Trm where
  | ret | panic
  | goto (b : Nat)
  | swB (o : Opd) (x d : Nat)
  | sw1 (o : Opd) (x d : Nat)
  | swN (o : Opd) (x y d : Nat)
  | asrt (o : Opd) (x : Nat)
noncomputable def Trm.v : Trm → V
  | .ret => .tup [.str "return"]
  | .panic => .tup [.str "panic",.str "end"]
  | .goto b => .tup [.str "goto",.int b]
  | .swB o x d => .tup [.str "switch",o.v,.tup [.tup [.bool false,.int x]],.int d]
  | .sw1 o x d => .tup [.str "switch",o.v,.tup [.tup [.int 0,.int x]],.int d]
  | .swN o x y d => .tup [.str "switch",o.v,.tup [.tup [.int 0,.int x],.tup [.int 255,.int y]],.int d]
  | .asrt o x => .tup [.str "assert",o.v,.bool false,.str "goes over",.int x]
noncomputable abbrev Blk:=List Stm × Trm
noncomputable def blkV (b : Blk) : V:=.list [.list (b.1.map Stm.v),b.2.v]

noncomputable def Rv.ops : Rv → List Opd
  | .use o => [o]
  | .tuple a b => [a,b]
  | .binary _ a b => [a,b]
  | .checked _ a b => [a,b]
  | .inv a => [a]
  | .neg a => [a]
  | .cast a => [a]
noncomputable def Rv.map (f : Opd → Opd) : Rv → Rv
  | .use o => .use (f o)
  | .tuple a b => .tuple (f a) (f b)
  | .binary o a b => .binary o (f a) (f b)
  | .checked o a b => .checked o (f a) (f b)
  | .inv a => .inv (f a)
  | .neg a => .neg (f a)
  | .cast a => .cast (f a)

section
variable {c : Cx} {ρ : Vars} {σ : Sto} {Q : V → Sto → Prop} {QX : Fl → Vars → Sto → Prop}
theorem xExpr' {e : Expr} {pos : Pos} (hs : swapsWith e Option.none pos.line c.env = pure false) (h : WT c (eval e c.env) ρ σ fun Z σ₁ => QX .next ρ σ₁) : WX c (exec (.Expr e pos) c.env) ρ σ QX:=fun τ s R X hR =>
  xExpr (by unfold interactive; rw [X.ok.ek]; rfl) hs h τ s R X hR
theorem elemsAnd {d : V} {ds : List V} {P : List V → Prop} (h : d.elems = some ds) (p : P ds) : ∃ ds,d.elems = some ds ∧ P ds:=⟨ds,h,p⟩
theorem WFor.run {α : Type} (f : α → V) (I : List α → Vars → Sto → Prop) {target : Expr} {body : List Stmt} {K : Fl → Vars → Sto → Prop}
    (turn : ∀ x xs ρ σ,I (x :: xs) ρ σ → ∀ ps,NoCells ps → WU (c.pins ps) (assign target c.env) (f x) ρ σ fun ρ₁ σ₁ => WX (c.pins ps) (execs body c.env) ρ₁ σ₁ fun fl ρ₂ σ₂ => match fl with
      | .next => I xs ρ₂ σ₂
      | .cont => I xs ρ₂ σ₂
      | .brk => K .next ρ₂ σ₂
      | .ret d => K (.ret d) ρ₂ σ₂)
    (fin : ∀ ρ σ,I [] ρ σ → K .next ρ σ) : ∀ xs ρ σ,I xs ρ σ → WFor c target body K (xs.map f) ρ σ
  | [],ρ,σ,h => fin ρ σ h
  | x :: xs,ρ,σ,h => fun ps noc => by
    have:=turn x xs ρ σ h ps noc
    intro τ s va R ha X hR
    refine this τ s va R ha X fun ρ₁ σ₁ s₁ q X₁ => hR ρ₁ σ₁ s₁ ?_ X₁
    intro τ s R X hR
    refine q τ s R X fun fl f' ρ₂ σ₂ s₂ τ' q' fr X₂ => hR fl f' ρ₂ σ₂ s₂ τ' ?_ fr X₂
    cases f' with
    | next => exact WFor.run f I turn fin xs _ _ q'
    | cont => exact WFor.run f I turn fin xs _ _ q'
    | brk => exact q'
    | ret d => exact q'
theorem wSlice {value : Expr} {a : Nat} {k : Nat} {p1 p pos : Pos} (ht : ∀ o r,letTemporaryGo value o r = pure ()) (h1 : 1 ≤ a)
    (h : WT c (eval value c.env) ρ σ fun d σ₁ => ∃ ds,d = .tup ds ∧ a ≤ ds.length ∧ ds.length ≤ sizeLine ∧ Q (.tup (ds.drop a)) σ₁) :
    WT c (eval (.Subscript value (.Slice (some (.Constant (.int a) k p1)) Option.none Option.none p) pos) c.env) ρ σ Q:=fun τ s R X hR => by
  refine wpAny_Subscript_Slice (T := "tuple") slot_tuple_getitem.lookup (h τ s _ X fun va d σ₁ s₁ q X₁ => ?_) ht
  obtain ⟨ds,rfl,ha,hsz,q⟩:=q
  refine wpAny_Slice ?_
  show wpAny _ _ (eval _ c.env) _ _ _
  refine wpAny_Constant_int ?_
  refine wpAny_pure (wpAny_pure ?_)
  have X2 : St c ρ σ₁ ((va,.tup ds) :: τ) { s₁ with heap:=s₁.heap.push { cls:=.type "slice",data:=.fields #[.int a s₁.toks,.none,.none] },toks:=s₁.toks + 1 }:=X₁.junk
  obtain ⟨m,news,fz,F,N,hz,kn,P0,P1,P2⟩:=X2.frame
  have hv:=hz _ _ (.head _)
  obtain ⟨b,vs,n,rfl,p,r⟩:=hv.inv
  have hT : IsTup (s₁.heap.push { cls:=.type "slice",data:=.fields #[.int a s₁.toks,.none,.none] }) b vs.toArray:=isTup_of ⟨_,kn _ _ p⟩
  refine ⟨hT.typeIs,getItem_tuple_from hT ⟨_,Heap.get?_push_size _ rfl,rfl,rfl⟩ h1 (by simpa [r.length] using ha) ?_ (by simpa [r.length] using hsz)⟩
  have X3:=P1 _ (tupO (vs.drop a) 0) (.tup (ds.drop a)) (s₁.toks + 1) (F.push _) (News.push F N (tupO (vs.drop a) 0) rfl) (.tup (n:=_) (.inl (.head _)) (r.drop a).more)
  exact hR _ _ _ _ q X3.r1
end
end
end Mine
end
section
set_option tactic.hygienic false
namespace Mine
noncomputable section
section
variable {t : Tab} {c : Cx} {ρ : Vars} {σ : Sto} {Q : V → Sto → Prop}

noncomputable def dedup : List Nat → List Nat → List Nat
  | acc,[] => acc
  | acc,x :: xs => if acc.contains x then dedup acc xs else dedup (acc ++ [x]) xs
noncomputable def Trm.told : Trm → List Nat
  | .ret => []
  | .panic => []
  | .goto b => [b]
  | .swB _ x d => [x,d]
  | .sw1 _ x d => [x,d]
  | .swN _ x y d => [x,y,d]
  | .asrt _ x => [x]
noncomputable def natV (n : Nat) : V:=.int n
noncomputable def Trm.succ (m : Trm) : List Nat:=dedup [] m.told

end
end
end Mine
end
section
set_option tactic.hygienic false
namespace Mine
noncomputable section
noncomputable abbrev Kn:=List (Int × Vl)
noncomputable def kget (kn : Kn) (k : Int) : Option Vl:=(kn.find? fun p => p.1 = k).map (·.2)
noncomputable def enc (kn : Kn) : List (Int × V):=kn.map fun p => (p.1,p.2.v)
theorem dget_enc (kn : Kn) (k : Int) : (dget (enc kn) k).getD .none = optV (kget kn k):=by
  induction kn with
  | nil => rfl
  | cons p kn ih =>
    by_cases h : p.1 = k
    · simp [enc,dget,kget,List.find?_cons,h,optV]
    · have e1 : dget (enc (p :: kn)) k = dget (enc kn) k:=by simp [enc,dget,List.find?_cons,h]
      have e2 : kget (p :: kn) k = kget kn k:=by simp [kget,List.find?_cons,h]
      rw [e1,e2,ih]
noncomputable def atO (kn : Kn) : Opd → Option Vl
  | .num n => some (.n n)
  | .bit b => some (.b b)
  | .loc l => kget kn l
  | .part l k => match kget kn l with
    | some (.p i x) => some (if k then .b x else .n i)
    | _ => Option.none
noncomputable def PartOk (kn : Kn) : Opd → Prop
  | .part l _ => ∀ v,kget kn l = some v → ∃ i x,v = .p i x
  | _ => True

section
variable {t : Tab} {c : Cx} {ρ : Vars} {σ : Sto} {Q : V → Sto → Prop}
noncomputable abbrev factsV (t : Tab) (k : Addr) : V:=.obj t.Facts [("known",.raw (.ref k))]

noncomputable def kdel (kn : Kn) (k : Int) : Kn:=kn.filter fun p => decide (p.1 ≠ k)
theorem ddel_enc (kn : Kn) (k : Int) : ddel (enc kn) k = enc (kdel kn k):=by
  unfold ddel enc kdel
  rw [List.filter_map]
  rfl
end
end
end Mine
end
section
set_option tactic.hygienic false
namespace Mine
noncomputable section
noncomputable def toy (sc : Scope) : Env:={ scope:=sc,locals:=0,globals:=mainGlobals,cells:=[],qual := "",func:=Option.none,code:=.none,frame:=some 0,builtins:=builtinsNs }
section
variable {c : Cx} {ρ : Vars} {σ : Sto} {QX : Fl → Vars → Sto → Prop} {QU : Vars → Sto → Prop}
theorem swapsWith_env {env : Env} {sc : Scope} {v : Expr} {tg : Option Expr} {n : Nat} (h : env.scope = sc) : swapsWith v tg n env = swapsWith v tg n (toy sc):=by
  subst h
  rfl

inductive PutsAll : Vars → List Str → List V → Vars → Prop
  | nil {ρ : Vars} : PutsAll ρ [] [] ρ
  | cons {ρ ρ₁ ρ₂ : Vars} {x : Str} {xs : List Str} {d : V} {ds : List V} : Puts ρ x d ρ₁ → PutsAll ρ₁ xs ds ρ₂ → PutsAll ρ (x :: xs) (d :: ds) ρ₂
theorem PutsAll.length {ρ ρ' : Vars} {xs : List Str} {ds : List V} (h : PutsAll ρ xs ds ρ') : xs.length = ds.length:=by
  induction h with
  | nil => rfl
  | cons _ _ ih => simp [ih]
theorem PutsAll.wus : ∀ {xs : List Str} {ds : List V} {ρ ρ₂ : Vars},PutsAll ρ xs ds ρ₂ → QU ρ₂ σ → WUs c (xs.map fun n v => bindName c.env n v) ds ρ σ QU
  | _,_,_,_,.nil,q => q
  | _,_,_,_,.cons h r,q => uBind h (PutsAll.wus r q)
theorem PutsAll.wus2 : ∀ {es : List Expr} {ts : List (Value → Sem Unit)} {xs : List Str} {ds : List V} {ρ ρ₂ : Vars},PutsAll ρ xs ds ρ₂ → (∀ (i : Nat) (t : Value → Sem Unit),ts[i]? = some t → ∃ x pos,xs[i]? = some x ∧ t = assign (.Name x pos) c.env) → ts.length = xs.length → QU ρ₂ σ → WUs c ts ds ρ σ QU
  | _,[],_,_,_,_,.nil,_,_,q => q
  | es,t :: ts,_,_,_,_,.cons h r,hi,hl,q => by
    obtain ⟨x,pos,e1,rfl⟩:=hi 0 t rfl
    have e1 : _ = x:=Option.some.inj e1
    subst e1
    exact uName h (PutsAll.wus2 (es:=es) r (fun i t hit => hi (i + 1) t hit) (Nat.succ.inj hl) q)

noncomputable abbrev Apart (elts : List Expr) (xs : List Str) : Prop:=∀ env,(assignEach elts env).findIdx? (·.1) = Option.none ∧ ((assignEach elts env).map (·.2)).length = xs.length ∧ ∀ (i : Nat) (t : Value → Sem Unit),((assignEach elts env).map (·.2))[i]? = some t → ∃ x pos,xs[i]? = some x ∧ t = assign (.Name x pos) env
theorem apart2 {x y : Str} {p q : Pos} : Apart [.Name x p,.Name y q] [x,y]:=fun env => ⟨rfl,rfl,fun i t h => match i,h with
  | 0,h => ⟨_,_,rfl,(Option.some.inj h).symm⟩
  | 1,h => ⟨_,_,rfl,(Option.some.inj h).symm⟩⟩
variable {Q : V → Sto → Prop}
theorem cgoNil {D : Addr} {target : Expr} {ifs : List Expr} {elt : Expr} {K : List V → Sto → Prop} {acc : List V} (q : K acc σ) : CGo c D target ifs elt K [] acc ρ σ:=q
theorem cgoCons {D : Addr} {target : Expr} {ifs : List Expr} {elt : Expr} {K : List V → Sto → Prop} {acc : List V} {x : V} {xs : List V} (h : ∀ ps,NoCells ps → WU (c.pins ps) (assign target c.env) x ρ ((D,.list acc) :: σ) fun ρ₁ σ₁ => WB (c.pins ps) (testsOf ifs c.env) ρ₁ σ₁ fun b σ₂ =>
      (b = true → WT (c.pins ps) (eval elt c.env) ρ₁ σ₂ fun y σ₃ => ∃ σ',σ₃ = (D,.list acc) :: σ' ∧ acc.length < 1000000 ∧ CGo c D target ifs elt K xs (acc ++ [y]) ρ₁ σ') ∧
      (b = false → ∃ σ',σ₂ = (D,.list acc) :: σ' ∧ CGo c D target ifs elt K xs acc ρ₁ σ')) : CGo c D target ifs elt K (x :: xs) acc ρ σ:=h
theorem itrAnd {d : V} {ds : List V} {P : List V → Prop} (h : d.elems = some ds) (p : P ds) : ∃ ds,∃ I : Itr d ds,I.Starts ∧ P ds:=⟨ds,Itr.of h,Itr.of_starts h,p⟩
theorem CGo.run {α : Type} (f : α → V) (g : α → V) {D : Addr} {target elt : Expr} {K : List V → Sto → Prop} (I : List α → Vars → Sto → Prop)
    (turn : ∀ x xs ρ σ acc,I (x :: xs) ρ σ → ∀ ps,NoCells ps → WU (c.pins ps) (assign target c.env) (f x) ρ ((D,.list acc) :: σ) fun ρ₁ σ₁ => WT (c.pins ps) (eval elt c.env) ρ₁ σ₁ fun y σ₃ => ∃ σ',σ₃ = (D,.list acc) :: σ' ∧ y = g x ∧ I xs ρ₁ σ') :
    ∀ (xs : List α) (acc : List V) (ρ : Vars) (σ : Sto),acc.length + xs.length < 1000000 → I xs ρ σ → (∀ ρ σ,I [] ρ σ → K (acc ++ xs.map g) σ) → CGo c D target [] elt K (xs.map f) acc ρ σ
  | [],acc,ρ,σ,hl,h,fin => by
    have:=fin ρ σ h
    rw [List.map_nil,List.append_nil] at this
    exact this
  | x :: xs,acc,ρ,σ,hl,h,fin => fun ps noc => by
    have tn:=turn x xs ρ σ acc h ps noc
    intro τ s va R ha X hR
    refine tn τ s va R ha X fun ρ₁ σ₁ s₁ q X₁ => hR ρ₁ σ₁ s₁ ?_ X₁
    refine tNone' (c:=c.pins ps) ⟨fun Z => ?_,fun e => nomatch e⟩
    refine q.mono fun y σ₃ q => ?_
    obtain ⟨σ',rfl,rfl,hi⟩:=q
    rw [List.length_cons] at hl
    refine ⟨σ',rfl,by omega,CGo.run f g I turn xs (acc ++ [g x]) ρ₁ σ' (by rw [List.length_append]; simp; omega) hi fun ρ σ hf => ?_⟩
    have:=fin ρ σ hf
    rwa [List.map_cons,List.append_cons] at this

theorem fvNil : ∀ p ∈ ([] : List (Str × V)),(p.1,Slot.own (some p.2)) ∈ ρ ∨ (p.1,Slot.ro p.2) ∈ ρ:=fun p hp => nomatch hp
theorem fvCons {x : Str} {d : V} {fv : List (Str × V)} (h : (x,Slot.own (some d)) ∈ ρ ∨ (x,Slot.ro d) ∈ ρ) (r : ∀ p ∈ fv,(p.1,Slot.own (some p.2)) ∈ ρ ∨ (p.1,Slot.ro p.2) ∈ ρ) : ∀ p ∈ (x,d) :: fv,(p.1,Slot.own (some p.2)) ∈ ρ ∨ (p.1,Slot.ro p.2) ∈ ρ:=List.forall_mem_cons.mpr ⟨h,r⟩

theorem oIsNotY {a : V} (e : a.isNone = some false) (q : Q (.bool true) σ) : W2 c (compareOp .IsNot) a .none ρ σ Q:=oIsNot e q
theorem uUnpack {elts : List Expr} {k : Nat} {pos : Pos} {xs : List Str} {d : V} {ds : List V} {ρ' : Vars} (he : Apart elts xs) (hd : d = .tup ds ∨ d = .list ds) (hp : PutsAll ρ xs ds ρ') (q : QU ρ' σ) : WU c (assign (.Tuple elts k pos) c.env) d ρ σ QU:=by
  obtain ⟨h1,h2,h3⟩:=he c.env
  refine uTuple hd ?_ h1 (PutsAll.wus2 (es:=elts) hp h3 h2 q)
  rw [← hp.length,← h2,List.length_map]
inductive Turns : Vars → Str → V → V → Vars → Prop
  | hd {x : Str} {d d' : V} {r : Vars} : Turns ((x,.own (some d)) :: r) x d d' ((x,.own (some d')) :: r)
  | tl {p : Str × Slot} {x : Str} {d d' : V} {r r' : Vars} : Turns r x d d' r' → Turns (p :: r) x d d' (p :: r')
theorem Turns.names {x : Str} {d d' : V} {ρ ρ' : Vars} (h : Turns ρ x d d' ρ') : ρ'.map (·.1) = ρ.map (·.1):=by
  induction h with
  | hd => rfl
  | tl _ ih => simp [ih]
theorem Turns.cases {x : Str} {d d' : V} {ρ ρ' : Vars} (h : Turns ρ x d d' ρ') : (∀ y sl,(y,sl) ∈ ρ' → (y,sl) ∈ ρ ∨ (y = x ∧ sl = .own (some d') ∧ (x,Slot.own (some d)) ∈ ρ)):=by
  induction h with
  | @hd x d d' r =>
    intro y sl hy
    rcases List.mem_cons.mp hy with e | hy
    · cases e; exact .inr ⟨rfl,rfl,.head _⟩
    · exact .inl (.tail _ hy)
  | @tl p x d d' r r' _ ih =>
    intro y sl hy
    rcases List.mem_cons.mp hy with e | hy
    · exact .inl (e ▸ .head _)
    · exact (ih y sl hy).imp (.tail _) fun ⟨a,b,e⟩ => ⟨a,b,.tail _ e⟩
theorem St.turn {τ : List (Value × V)} {s : Shared} {x : Str} {v : Value} {d' : V} {ρ' : Vars} (X : St c ρ σ τ s) (h : Turns ρ x (.raw v) d' ρ') (hm : (v,d') ∈ τ) : St c ρ' σ τ s:=by
  obtain ⟨ok,g,os,m,raw,cl,fz,r,l⟩:=X
  refine ⟨ok,g,os,m,raw,cl,fz,⟨r.sto,fun y e hy => ?_,fun y e hy => ?_,fun y o hy => ?_,by rw [h.names]; exact r.nodup,r.tmp⟩,l⟩
  · rcases h.cases _ _ hy with hy | ⟨rfl,e',h0⟩
    · exact r.own y e hy
    · cases e'
      obtain ⟨u,h1,h2⟩:=r.own _ _ h0
      have : u = v:=by cases h2; rfl
      exact ⟨u,h1,this ▸ r.tmp _ _ hm⟩
  · rcases h.cases _ _ hy with hy | ⟨rfl,e',h0⟩
    · exact r.ro y e hy
    · cases e'
  · rcases h.cases _ _ hy with hy | ⟨rfl,e',h0⟩
    · exact r.mine y o hy
    · exact r.mine _ _ h0
theorem xFreezeD {tr : Sem Flow} {x : Str} {a : Addr} {es : List (Int × V)} {σ₁ σ₂ : Sto} {ρ' : Vars} (h : Turns ρ x (.raw (.ref a)) (.dict es) ρ') (k : WX c tr ρ' (σ₁ ++ σ₂) QX) : WX c tr ρ (σ₁ ++ (a,.dict es) :: σ₂) QX:=fun τ s R X hR =>
  k τ s R (St.turn X.freezeDict h (.head _)).tl hR
theorem xFreezeL {tr : Sem Flow} {x : Str} {a : Addr} {ds : List V} {σ₁ σ₂ : Sto} {ρ' : Vars} (h : Turns ρ x (.raw (.ref a)) (.list ds) ρ') (k : WX c tr ρ' (σ₁ ++ σ₂) QX) : WX c tr ρ (σ₁ ++ (a,.list ds) :: σ₂) QX:=fun τ s R X hR =>
  k τ s R (St.turn X.freezeList h (.head _)).tl hR
theorem xDropPre {tr : Sem Flow} {p : Addr × MO} {σ₁ σ₂ : Sto} (k : WX c tr ρ (σ₁ ++ σ₂) QX) : WX c tr ρ (σ₁ ++ p :: σ₂) QX:=fun τ s R X hR => k τ s R X.drop hR

theorem wSliceI {value : Expr} {i : Int} {k : Nat} {p1 p pos : Pos} (ht : ∀ o r,letTemporaryGo value o r = pure ()) (hi : i = ((i.toNat : Nat) : Int)) (h1 : 1 ≤ i.toNat)
    (h : WT c (eval value c.env) ρ σ fun d σ₁ => ∃ ds,d = .tup ds ∧ i.toNat ≤ ds.length ∧ ds.length ≤ sizeLine ∧ Q (.tup (ds.drop i.toNat)) σ₁) :
    WT c (eval (.Subscript value (.Slice (some (.Constant (.int i) k p1)) Option.none Option.none p) pos) c.env) ρ σ Q:=by
  rw [hi]
  exact wSlice ht h1 h

theorem gmAppend {a : Addr} {ds : List V} {P : Value → Prop} (hd : (a,MO.list ds) ∈ σ) (p : P (.builtin "list.append")) : ∃ f,GM c "append" (.raw (.ref a)) f ρ σ ∧ P f:=⟨_,GM.mlist hd PySem.F.slot_list_append PySem.F.type_list_append,p⟩
theorem gmPopL {a : Addr} {ds : List V} {P : Value → Prop} (hd : (a,MO.list ds) ∈ σ) (p : P (.builtin "list.pop")) : ∃ f,GM c "pop" (.raw (.ref a)) f ρ σ ∧ P f:=⟨_,GM.mlist hd PySem.F.slot_list_pop PySem.F.type_list_pop,p⟩
end
end
end Mine
end
section
set_option tactic.hygienic false
namespace Mine
noncomputable section
section
variable {c : Cx} {ρ : Vars} {σ : Sto} {Q : V → Sto → Prop}
theorem wDict0 {pos : Pos} (q : ∀ a,Q (.raw (.ref a)) ((a,.dict []) :: σ)) : WT c (eval (.Dict [] [] pos) c.env) ρ σ Q:=fun τ s R X hR => by
  have big : sysModules < c.h₀.objs.size:=modules_low X.ok.T.nolimit
  obtain ⟨ok,g',os,m,raw,cl,fz,r,l⟩:=X
  have lo : (s.heap.objs.size == sysModules) = false:=l.fr.notModules big
  obtain ⟨o,ho,hd⟩:=Heap.dictOf_iff.mp (Heap.DictOf.new (knd:=intKind c.prog c.w) s.heap)
  have e : o = { cls:=.type "dict",data:=.dict #[] }:=by
    rw [Heap.get?_push_size _ rfl] at ho
    exact (Option.some.inj ho).symm
  subst e
  exact wpAny_Dict_empty (hR _ _ _ _ (q _) ⟨ok,g',os,m,_,cl,fz,(r.withSto (SRelB.cons (MRelB.dict lo hd .nil) r.sto)).held (.raw _),l.pushM _ rfl⟩)
end
theorem FRels.swap {prog : Program} {w : World} {P : Addr → Obj → Prop} {n : Str} {v : Value} {d' : V} (hv : VRel prog w P v d') {f2 : List (Str × V)} : ∀ {f1 : List (Str × V)} {es : List DictEntry},FRels prog w P es (f1 ++ (n,.raw v) :: f2) → FRels prog w P es (f1 ++ (n,d') :: f2)
  | [],_,.cons h r => by
    cases h
    exact .cons hv r
  | _ :: _,_,.cons h r => .cons h (FRels.swap hv r)
section
variable {c : Cx} {ρ : Vars} {QX : Fl → Vars → Sto → Prop}
theorem St.turnIn {τ : List (Value × V)} {s : Shared} {x C : Addr} {n : Str} {v : Value} {d' : V} {f1 f2 : List (Str × V)} {σ₁ σ₂ : Sto} (X : St c ρ (σ₁ ++ (x,.inst C (f1 ++ (n,.raw v) :: f2)) :: σ₂) τ s) (hm : (v,d') ∈ τ) : St c ρ (σ₁ ++ (x,.inst C (f1 ++ (n,d') :: f2)) :: σ₂) τ s:=by
  obtain ⟨ok,g,os,m,raw,cl,fz,r,l⟩:=X
  obtain ⟨r1,a,o,r2,rfl,h1,h2,h3⟩:=r.sto.split
  have hv:=r.tmp _ _ hm
  refine ⟨ok,g,os,m,_,cl,fz,r.withSto (SRelB.join h1 ?_ h3),l⟩
  obtain ⟨_,_,rfl,k1,k2,k3⟩:=h2.inv
  exact .inst k1 (FRels.swap hv k2) (by simpa using k3)
theorem xFreezeInD {tr : Sem Flow} {x C F : Addr} {n : Str} {es : List (Int × V)} {f1 f2 : List (Str × V)} {σ σ₁ σ₂ τ₁ τ₂ : Sto} (e : σ = τ₁ ++ (F,.dict es) :: τ₂) (e2 : τ₁ ++ τ₂ = σ₁ ++ (x,.inst C (f1 ++ (n,.raw (.ref F)) :: f2)) :: σ₂)
    (k : WX c tr ρ (σ₁ ++ (x,.inst C (f1 ++ (n,.dict es) :: f2)) :: σ₂) QX) : WX c tr ρ σ QX:=fun τ s R X hR => by
  subst e
  have X1:=X.freezeDict
  rw [e2] at X1
  exact k τ s R (St.turnIn X1 (.head _)).tl hR
end
section
variable {c : Cx} {ρ : Vars} {σ : Sto} {Q : V → Sto → Prop}
theorem St.turnObj {τ : List (Value × V)} {s : Shared} {C : Addr} {n : Str} {v u : Value} {d' : V} {f1 f2 : List (Str × V)} (X : St c ρ σ τ s) (h1 : (v,V.obj C (f1 ++ (n,.raw u) :: f2)) ∈ τ) (h2 : (u,d') ∈ τ) : St c ρ σ ((v,.obj C (f1 ++ (n,d') :: f2)) :: τ) s:=by
  obtain ⟨ok,g,os,m,raw,cl,fz,r,l⟩:=X
  have hv:=r.tmp _ _ h1
  have hu:=r.tmp _ _ h2
  refine ⟨ok,g,os,m,_,cl,fz,r.held ?_,l⟩
  obtain ⟨_,_,_,_,rfl,k1,k2,k3,k4⟩:=hv.inv
  exact .obj k1 k2 (FRels.swap hu k3) (by simpa using k4)
theorem wFreezeObjL {t : Sem Value} (h : WT c t ρ σ fun d σ' => ∃ C a n f1 f2 σ₁ σ₂ ds,d = .obj C (f1 ++ (n,.raw (.ref a)) :: f2) ∧ (σ' = σ₁ ++ (a,.list ds) :: σ₂ ∨ σ' = σ₁ ++ (a,.glist ds) :: σ₂) ∧ Q (.obj C (f1 ++ (n,.list ds) :: f2)) (σ₁ ++ σ₂)) : WT c t ρ σ Q:=fun τ s R X hR =>
  h τ s R X fun v d σ' s' q X' => by
    obtain ⟨C,a,n,f1,f2,σ₁,σ₂,ds,rfl,h1,q⟩:=q
    rcases h1 with rfl | rfl
    · exact hR _ _ _ _ q (St.turnObj X'.freezeList (.tail _ (.head _)) (.head _)).r1.r1
    · exact hR _ _ _ _ q (St.turnObj X'.freezeGlist (.tail _ (.head _)) (.head _)).r1.r1
end
section
variable {c : Cx} {ρ : Vars} {σ : Sto} {Q : V → Sto → Prop}
theorem St.newD {τ : List (Value × V)} {s : Shared} (X : St c ρ σ τ s) : St c ρ ((s.heap.objs.size,.dict []) :: σ) ((.ref s.heap.objs.size,.raw (.ref s.heap.objs.size)) :: τ) { s with heap:=s.heap.push { cls:=.type "dict",data:=.dict #[] } }:=by
  have big : sysModules < c.h₀.objs.size:=modules_low X.ok.T.nolimit
  obtain ⟨ok,g',os,m,raw,cl,fz,r,l⟩:=X
  have lo : (s.heap.objs.size == sysModules) = false:=l.fr.notModules big
  obtain ⟨o,ho,hd⟩:=Heap.dictOf_iff.mp (Heap.DictOf.new (knd:=intKind c.prog c.w) s.heap)
  have e : o = { cls:=.type "dict",data:=.dict #[] }:=by
    rw [Heap.get?_push_size _ rfl] at ho
    exact (Option.some.inj ho).symm
  subst e
  exact ⟨ok,g',os,m,_,cl,fz,(r.withSto (SRelB.cons (MRelB.dict lo hd .nil) r.sto)).held (.raw _),l.pushM _ rfl⟩
theorem wDict1 {k v : Expr} {pos : Pos} (h : ∀ a,WT c (eval k c.env) ρ ((a,.dict []) :: σ) fun kd σ₁ => WT c (eval v c.env) ρ σ₁ fun d σ₂ => ∃ (i : Int) (σ₃ σ₄ : Sto),kd = .int i ∧ σ₂ = σ₃ ++ (a,.dict []) :: σ₄ ∧ Q (.raw (.ref a)) (σ₃ ++ (a,.dict [(i,d)]) :: σ₄)) : WT c (eval (.Dict [some k] [v] pos) c.env) ρ σ Q:=fun τ s R X hR => by
  refine wpAny_Dict_walk (knd:=intKind c.prog c.w) rfl rfl (by simp) (by simp) ?_
  refine pairTrees_cons_walk (h _ _ _ _ X.newD fun kv kd σ₁ s₁ q X₂ => q _ _ _ X₂ fun vv d σ₂ s₂ q₂ X₃ => pairTrees_nil_walk ?_)
  obtain ⟨i,σ₃,σ₄,rfl,rfl,q⟩:=q₂
  obtain ⟨t,rfl⟩:=sInt X₃ (.tail _ (.head _))
  refine St.update (mo':=.dict [(i,d)]) X₃ fun fz o₁ o mr ho hz kn up => ?_
  obtain ⟨_,rfl,h1,h2,h3⟩:=mr.inv
  cases h3
  refine display_done_int rfl (by simp [intKeyPairs]) (Heap.dictOf_iff.mpr ⟨_,ho,h2⟩) fun h' hm hs => ?_
  obtain ⟨o',ho',hd'⟩:=Heap.dictOf_iff.mp hm
  exact hR _ _ _ _ q (up h' _ o' hs ho' (.dict h1 hd' (.cons (hz _ _ (.head _)) .nil))).tl.tl
end
end
end Mine
end
section
set_option tactic.hygienic false
namespace Mine
noncomputable section
noncomputable abbrev locsV (tys : List Ty) : V:=.list (tys.map fun ty => .tup [ty.v,.bool true,.none])
noncomputable abbrev bodV (t : Tab) (nm : Str) (na : Nat) (tys : List Ty) (bl : List Blk) : V:=.obj t.Body [("name",.str nm),("arg_count",.int na),("locals",locsV tys),("blocks",.list (bl.map blkV)),("spots",.dict [])]
noncomputable abbrev conV (t : Tab) (bv : V) (fol : List (Int × V)) (bg : Addr) : V:=.obj t.Constants [("body",bv),("followed",.dict fol),("begins",.raw (.ref bg))]

noncomputable def tyO (tys : List Ty) : Opd → Option Ty
  | .num _ => some .byte
  | .bit _ => some .bit
  | .loc l => tys[l]?
  | .part l k => match tys[l]? with
    | some .pair => some (if k then .bit else .byte)
    | _ => Option.none
section
variable {t : Tab} {c : Cx} {ρ : Vars} {σ : Sto} {Q : V → Sto → Prop}
end
end
end Mine
end
section
namespace Mine
noncomputable section
noncomputable def ValTy : Vl → Ty → Prop
  | .n i,.byte => small i
  | .b _,.bit => True
  | .p i _,.pair => small i
  | _,_ => False
noncomputable def KnOk (tys : List Ty) (kn : Kn) : Prop:=∀ l v,kget kn l = some v → ∃ (l' : Nat) (ty : Ty),l = l' ∧ tys[l']? = some ty ∧ ValTy v ty
noncomputable def OpOk : Opd → Prop
  | .num n => small n
  | _ => True
noncomputable def Typed (tys : List Ty) (o : Opd) (ty : Ty) : Prop:=tyO tys o = some ty ∧ OpOk o
inductive RvTy (tys : List Ty) : Rv → Ty → Prop
  | use {o : Opd} {ty : Ty} : Typed tys o ty → RvTy tys (.use o) ty
  | tuple {a b : Opd} : Typed tys a .byte → Typed tys b .bit → RvTy tys (.tuple a b) .pair
  | ar {o : Ar} {a b : Opd} : Typed tys a .byte → Typed tys b .byte → RvTy tys (.binary (.ar o) a b) .byte
  | cm {o : Cm} {a b : Opd} : Typed tys a .byte → Typed tys b .byte → RvTy tys (.binary (.cm o) a b) .bit
  | checked {o : Ar} {a b : Opd} : Typed tys a .byte → Typed tys b .byte → RvTy tys (.checked o a b) .pair
  | invN {a : Opd} : Typed tys a .byte → RvTy tys (.inv a) .byte
  | invB {a : Opd} : Typed tys a .bit → RvTy tys (.inv a) .bit
  | neg {a : Opd} : Typed tys a .byte → RvTy tys (.neg a) .byte
  | cast {a : Opd} : Typed tys a .bit → RvTy tys (.cast a) .byte

noncomputable def bI (x : Bool) : Int:=if x then 1 else 0
noncomputable def valO (kn : Kn) : Rv → Option Vl
  | .use o => atO kn o
  | .tuple a b => match atO kn a,atO kn b with
    | some (.n i),some (.b x) => some (.p i x)
    | _,_ => Option.none
  | .binary (.ar o) a b => match atO kn a,atO kn b with
    | some (.n i),some (.n j) => some (.n ((o.run i j).fmod 256))
    | _,_ => Option.none
  | .binary (.cm o) a b => match atO kn a,atO kn b with
    | some (.n i),some (.n j) => some (.b (o.run i j))
    | _,_ => Option.none
  | .checked o a b => match atO kn a,atO kn b with
    | some (.n i),some (.n j) => some (.p ((o.run i j).fmod 256) (over (o.run i j)))
    | _,_ => Option.none
  | .inv a => match atO kn a with
    | some (.n i) => some (.n ((-1 - i).fmod 256))
    | some (.b x) => some (.b !x)
    | _ => Option.none
  | .neg a => match atO kn a with
    | some (.n i) => some (.n ((0 - i).fmod 256))
    | _ => Option.none
  | .cast a => match atO kn a with
    | some (.b x) => some (.n ((bI x).fmod 256))
    | _ => Option.none

theorem KnOk.part {tys : List Ty} {kn : Kn} {o : Opd} {ty : Ty} (h : KnOk tys kn) (ho : Typed tys o ty) : PartOk kn o:=by
  cases o with
  | part l k =>
    intro v hv
    obtain ⟨l',ty',e,h1,h2⟩:=h _ _ hv
    have e' : l = l':=by omega
    subst e'
    have:=ho.1
    simp only [tyO,h1] at this
    cases ty' with
    | pair => cases v <;> first | exact ⟨_,_,rfl⟩ | exact False.elim h2
    | byte => simp at this
    | bit => simp at this
  | _ => trivial
theorem KnOk.at {tys : List Ty} {kn : Kn} {o : Opd} {ty : Ty} {v : Vl} (h : KnOk tys kn) (ho : Typed tys o ty) (hv : atO kn o = some v) : ValTy v ty:=by
  obtain ⟨h1,h2⟩:=ho
  cases o with
  | num n => cases hv; cases h1; exact h2
  | bit b => cases hv; cases h1; trivial
  | loc l =>
    obtain ⟨l',ty',e,h3,h4⟩:=h _ _ hv
    have e' : l = l':=by omega
    subst e'
    have : some ty' = some ty:=h3.symm.trans h1
    cases this; exact h4
  | part l k =>
    simp only [atO] at hv
    split at hv
    · rename_i i x e
      obtain ⟨l',ty',e',h3,h4⟩:=h _ _ e
      have e'' : l = l':=by omega
      subst e''
      simp only [tyO,h3] at h1
      cases ty' with
      | pair => cases k <;> (simp at h1 hv; subst h1; subst hv; first | exact h4 | trivial)
      | byte => simp at h1
      | bit => simp at h1
    · cases hv
theorem ValTy.num {v : Vl} (h : ValTy v .byte) : ∃ i,v = .n i ∧ small i:=by cases v <;> first | exact ⟨_,rfl,h⟩ | exact False.elim h
theorem ValTy.bit {v : Vl} (h : ValTy v .bit) : ∃ x,v = .b x:=by cases v <;> first | exact ⟨_,rfl⟩ | exact False.elim h
theorem ValTy.pair {v : Vl} (h : ValTy v .pair) : ∃ i x,v = .p i x ∧ small i:=by cases v <;> first | exact ⟨_,_,rfl,h⟩ | exact False.elim h

section
variable {t : Tab} {c : Cx} {ρ : Vars} {σ : Sto} {Q : V → Sto → Prop}

end
end
end Mine
end
section
set_option tactic.hygienic false
namespace Mine
noncomputable section
section
variable {t : Tab} {c : Cx} {ρ : Vars} {σ : Sto} {Q : V → Sto → Prop}

end
end
end Mine
end
section
namespace Mine
noncomputable section
theorem nodup_le : ∀ {l m : List Int},l.Nodup → (∀ x ∈ l,x ∈ m) → l.length ≤ m.length
  | [],m,_,_ => Nat.zero_le _
  | a :: l,m,h,hs => by
    rw [List.nodup_cons] at h
    have ha:=hs a (.head _)
    have:=nodup_le (l:=l) (m:=m.erase a) h.2 fun x hx => by
      have hne : x ≠ a:=fun e => h.1 (e ▸ hx)
      exact (List.mem_erase_of_ne hne).mpr (hs x (.tail _ hx))
    rw [List.length_erase_of_mem ha] at this
    have hp : 0 < m.length:=List.length_pos_of_mem ha
    rw [List.length_cons]
    omega

structure KnWf (tys : List Ty) (kn : Kn) : Prop where
  nodup : (kn.map (·.1)).Nodup
  ty : ∀ p ∈ kn,∃ (l : Nat) (ty : Ty),p.1 = l ∧ tys[l]? = some ty ∧ ValTy p.2 ty
theorem kget_mem {kn : Kn} {k : Int} {v : Vl} (h : kget kn k = some v) : (k,v) ∈ kn:=by
  unfold kget at h
  obtain ⟨p,hp,rfl⟩:=Option.map_eq_some_iff.mp h
  have h1:=List.find?_some hp
  have h2:=List.mem_of_find?_eq_some hp
  have : p.1 = k:=by simpa using h1
  rw [← this]; exact h2
theorem KnWf.ok {tys : List Ty} {kn : Kn} (h : KnWf tys kn) : KnOk tys kn:=fun l v hv => h.ty _ (kget_mem hv)
theorem KnWf.len {tys : List Ty} {kn : Kn} (h : KnWf tys kn) : kn.length ≤ tys.length:=by
  have:=nodup_le (m:=(List.range tys.length).map fun i : Nat => (i : Int)) h.nodup fun x hx => by
    obtain ⟨p,hp,rfl⟩:=List.mem_map.mp hx
    obtain ⟨l,ty,e,h1,_⟩:=h.ty p hp
    rw [e]
    exact List.mem_map.mpr ⟨l,List.mem_range.mpr (List.getElem?_eq_some_iff.mp h1).1,rfl⟩
  simpa using this
theorem KnWf.nil {tys : List Ty} : KnWf tys []:=⟨List.nodup_nil,fun p hp => nomatch hp⟩
theorem KnWf.del {tys : List Ty} {kn : Kn} (h : KnWf tys kn) (k : Int) : KnWf tys (kdel kn k):=
  ⟨((List.filter_sublist).map _).nodup h.nodup,fun p hp => h.ty p (List.mem_filter.mp hp).1⟩
theorem kdel_not {kn : Kn} {k : Int} : k ∉ (kdel kn k).map (·.1):=fun h => by
  obtain ⟨p,hp,rfl⟩:=List.mem_map.mp h
  have:=(List.mem_filter.mp hp).2
  simp at this
theorem KnWf.add {tys : List Ty} {kn : Kn} {l : Nat} {ty : Ty} {v : Vl} (h : KnWf tys kn) (hn : (l : Int) ∉ kn.map (·.1)) (ht : tys[l]? = some ty) (hv : ValTy v ty) : KnWf tys (kn ++ [((l : Int),v)]):=by
  refine ⟨?_,fun p hp => ?_⟩
  · rw [List.map_append,List.nodup_append]
    refine ⟨h.nodup,by simp,fun a ha b hb e => ?_⟩
    have : b = (l : Int):=by simpa using hb
    exact hn (this ▸ e ▸ ha)
  · rcases List.mem_append.mp hp with hp | hp
    · exact h.ty p hp
    · rw [List.mem_singleton] at hp; subst hp; exact ⟨l,ty,rfl,ht,hv⟩
theorem dput_enc {kn : Kn} {k : Int} {v : Vl} (h : k ∉ kn.map (·.1)) : dput (enc kn) k v.v = enc (kn ++ [(k,v)]):=by
  unfold dput
  rw [if_neg]
  · simp [enc]
  · intro q
    obtain ⟨p,hp,e⟩:=List.any_eq_true.mp q
    obtain ⟨p',hp',rfl⟩:=List.mem_map.mp hp
    have e' : p'.1 = k:=by simpa using e
    exact h (List.mem_map.mpr ⟨p',hp',e'⟩)
noncomputable def kset (kn : Kn) (k : Int) : Option Vl → Kn
  | some v => kdel kn k ++ [(k,v)]
  | Option.none => kdel kn k
noncomputable def kstep (kn : Kn) : Stm → Kn
  | .asg l r => kset kn l (valO kn r)
  | _ => kn
noncomputable def StmTy (tys : List Ty) : Stm → Prop
  | .asg l r => ∃ ty,tys[l]? = some ty ∧ RvTy tys r ty
  | .print o => ∃ ty,Typed tys o ty
  | .nop => True
theorem fmod_small {i : Int} : small (i.fmod 256):=⟨Int.fmod_nonneg_of_pos _ (by decide),Int.fmod_lt_of_pos _ (by decide)⟩
theorem valO_ty {tys : List Ty} {kn : Kn} {r : Rv} {ty : Ty} {v : Vl} (hk : KnOk tys kn) (hr : RvTy tys r ty) (h : valO kn r = some v) : ValTy v ty:=by
  cases hr with
  | use ho => exact hk.at ho h
  | tuple ha hb =>
    simp only [valO] at h
    split at h
    · rename_i i x e1 e2
      cases h
      exact (show ValTy (.n i) .byte from hk.at ha e1)
    · cases h
  | ar ha hb => simp only [valO] at h; split at h <;> cases h; exact fmod_small
  | cm ha hb => simp only [valO] at h; split at h <;> cases h; trivial
  | checked ha hb => simp only [valO] at h; split at h <;> cases h; exact fmod_small
  | invN ha =>
    simp only [valO] at h
    split at h
    · cases h; exact fmod_small
    · rename_i x e; exact False.elim (hk.at ha e)
    · cases h
  | invB ha =>
    simp only [valO] at h
    split at h
    · rename_i i e; exact False.elim (hk.at ha e)
    · cases h; trivial
    · cases h
  | neg ha => simp only [valO] at h; split at h <;> cases h; exact fmod_small
  | cast ha => simp only [valO] at h; split at h <;> cases h; exact fmod_small
theorem KnWf.set {tys : List Ty} {kn : Kn} {l : Nat} {ty : Ty} {o : Option Vl} (h : KnWf tys kn) (ht : tys[l]? = some ty) (hv : ∀ v,o = some v → ValTy v ty) : KnWf tys (kset kn l o):=by
  cases o with
  | none => exact h.del _
  | some v => exact (h.del _).add kdel_not ht (hv v rfl)
theorem KnWf.step {tys : List Ty} {kn : Kn} {s : Stm} (h : KnWf tys kn) (hs : StmTy tys s) : KnWf tys (kstep kn s):=by
  cases s with
  | asg l r => obtain ⟨ty,h1,h2⟩:=hs; exact h.set h1 fun v e => valO_ty h.ok h2 e
  | _ => exact h

noncomputable def folV (n : Nat) : List (Int × V):=(List.range n).map fun i : Nat => ((i : Int),V.bool true)
theorem dget_fol {n l : Nat} (h : l < n) : (dget (folV n) (l : Int)).isSome = true:=by
  unfold dget folV
  rw [Option.isSome_map,List.find?_isSome]
  exact ⟨((l : Int),.bool true),List.mem_map.mpr ⟨l,List.mem_range.mpr h,rfl⟩,by simp⟩

section
variable {t : Tab} {c : Cx} {ρ : Vars} {σ : Sto} {Q : V → Sto → Prop}

end
end
end Mine
end
section
set_option tactic.hygienic false
namespace Mine
noncomputable section
noncomputable def optN : Option Nat → V
  | some n => .int n
  | Option.none => .none
noncomputable def ktgt (kn : Kn) : Trm → Option Nat
  | .swB o x d => match atO kn o with
    | some (.b v) => some (if v then d else x)
    | _ => Option.none
  | .sw1 o x d => match atO kn o with
    | some (.n i) => some (if i = 0 then x else d)
    | _ => Option.none
  | .swN o x y d => match atO kn o with
    | some (.n i) => some (if i = 0 then x else if i = 255 then y else d)
    | _ => Option.none
  | .asrt o x => match atO kn o with
    | some (.b v) => if v then Option.none else some x
    | _ => Option.none
  | _ => Option.none
noncomputable def TrmTy (tys : List Ty) : Trm → Prop
  | .swB o _ _ => Typed tys o .bit
  | .swN o _ _ _ => Typed tys o .byte
  | .sw1 o _ _ => Typed tys o .byte
  | .asrt o _ => Typed tys o .bit
  | _ => True

section
variable {t : Tab} {c : Cx} {ρ : Vars} {σ : Sto} {Q : V → Sto → Prop}

noncomputable def putO (kn : Kn) (o : Opd) : Opd:=match o with
  | .num n => .num n
  | .bit b => .bit b
  | o => match atO kn o with
    | some (.n i) => .num i
    | some (.b x) => .bit x
    | _ => o

end
end
end Mine
end
section
set_option tactic.hygienic false
set_option backward.match.sparseCases false
namespace Mine
noncomputable section
noncomputable def putR (kn : Kn) (ty : Ty) (r : Rv) : Rv:=match valO kn r,ty with
  | some (.n i),.byte => .use (.num i)
  | some (.b x),.bit => .use (.bit x)
  | _,_ => r.map (putO kn)
noncomputable def putS (tys : List Ty) (kn : Kn) : Stm → Stm
  | .asg l r => .asg l (putR kn ((tys[l]?).getD .pair) r)
  | .print o => .print (putO kn o)
  | .nop => .nop
noncomputable def putT (kn : Kn) (m : Trm) : Trm:=match ktgt kn m with
  | some b => .goto b
  | Option.none => match m with
    | .swB o x d => .swB (putO kn o) x d
    | .sw1 o x d => .sw1 (putO kn o) x d
    | .swN o x y d => .swN (putO kn o) x y d
    | .asrt o x => .asrt (putO kn o) x
    | m => m
noncomputable def argOf : Stmt → Nat → Expr
  | .Return (some (.Call _ as _ _)) _,i => as[i]?.getD (.Constant .none 0 ⟨0,0,0,0⟩)
  | _,_ => .Constant .none 0 ⟨0,0,0,0⟩
theorem RvTy.ops {tys : List Ty} {r : Rv} {ty : Ty} (h : RvTy tys r ty) : ∀ o ∈ r.ops,∃ ty,Typed tys o ty:=by
  cases h <;> (intro o ho; simp only [Rv.ops,List.mem_cons,List.not_mem_nil,or_false] at ho)
  all_goals first
    | (subst ho; exact ⟨_,by assumption⟩)
    | (rcases ho with rfl | rfl <;> exact ⟨_,by assumption⟩)

section
variable {t : Tab} {c : Cx} {ρ : Vars} {σ : Sto} {Q : V → Sto → Prop}

end
end
end Mine
end
section
set_option tactic.hygienic false
namespace Mine
noncomputable section
theorem any_nat {acc : List Nat} {x : Nat} : ((acc.map fun n : Nat => PyData.int n).any fun y => PyData.eqv y (.int x)) = acc.contains x:=by
  induction acc with
  | nil => rfl
  | cons a acc ih =>
    rw [List.map_cons,List.any_cons,ih,List.contains_cons]
    congr 1
    show decide (((a : Nat) : Int) = x) = (x == a)
    by_cases h : x = a
    · subst h; simp
    · have : ¬ (a : Int) = x:=by omega
      simp [h,this]
theorem pys_nat : ∀ l : List Nat,V.pys (l.map natV) = some (l.map fun n : Nat => PyData.int n)
  | [] => rfl
  | a :: l => by
    show (match V.py (natV a),V.pys (l.map natV) with | some a,some b => some (a :: b) | _,_ => Option.none) = _
    rw [pys_nat l]; rfl
theorem lay_nat : ∀ l : List Nat,PyData.canLayAll0 (l.map fun n : Nat => PyData.int n) = true
  | [] => rfl
  | a :: l => by
    show (PyData.canLay0 (.int a) && PyData.canLayAll0 _) = true
    rw [lay_nat l]; rfl

section
variable {t : Tab} {c : Cx} {ρ : Vars} {σ : Sto} {Q : V → Sto → Prop}

end
end
end Mine
end
section
set_option tactic.hygienic false
namespace Mine
noncomputable section
noncomputable def gone (kn : Kn) (m : Trm) : List Nat:=match ktgt kn m with
  | some b => [b]
  | Option.none => m.succ
section
variable {t : Tab} {c : Cx} {ρ : Vars} {σ : Sto} {Q : V → Sto → Prop}
noncomputable def goneV (k : Addr) (l : List Nat) : V:=.list (l.map fun b => V.tup [natV b,.raw (.ref k)])

noncomputable def runK (kn : Kn) : List Stm → Kn
  | [] => kn
  | s :: r => runK (kstep kn s) r
theorem KnWf.run {tys : List Ty} : ∀ {ss : List Stm} {kn : Kn},KnWf tys kn → (∀ s ∈ ss,StmTy tys s) → KnWf tys (runK kn ss)
  | [],_,h,_ => h
  | s :: r,kn,h,hs => by
    show KnWf tys (runK (kstep kn s) r)
    exact KnWf.run (ss:=r) (h.step (hs s (.head _))) fun s' hs' => hs s' (.tail _ hs')

noncomputable abbrev Beg:=List (Int × Kn)
noncomputable def encB (beg : Beg) : List (Int × V):=beg.map fun p => (p.1,V.dict (enc p.2))
noncomputable def bget (beg : Beg) (n : Int) : Option Kn:=(beg.find? fun p => p.1 = n).map (·.2)
theorem dget_encB (beg : Beg) (n : Int) : dget (encB beg) n = (bget beg n).map fun kn => V.dict (enc kn):=by
  unfold dget encB bget
  rw [List.find?_map,Option.map_map,Option.map_map]
  rfl

end
end
end Mine
end
section
set_option tactic.hygienic false
namespace Mine
noncomputable section
section
variable {c : Cx} {ρ : Vars} {σ : Sto} {Q : V → Sto → Prop}
theorem bDictF {d : V} {es : List (Int × V)} (hd : DRd σ d es) (hsz : es.length ≤ sizeLine) (q : Q (.dict es) σ) : WC c (.type "dict") [d] ρ σ Q:=fun τ s vs R hv hm X hR =>
  bDict (Q:=fun d' σ' => ∃ a,d' = .raw (.ref a) ∧ σ' = (a,.dict es) :: σ) hd hsz (fun a => ⟨a,rfl,rfl⟩) τ s vs R hv hm X fun v d' σ' s' ⟨a,e1,e2⟩ X' => by
    subst e1; subst e2
    obtain rfl:=sRaw X' (.head _)
    exact hR _ _ _ _ q (St.freezeDict (σ₁:=[]) X').r1

theorem dput_len {ds : List (Int × V)} {k : Int} {d : V} : (dput ds k d).length ≤ ds.length + 1:=by
  unfold dput
  split <;> simp
theorem DGo.run {α : Type} (f : α → V) (key : α → Int) (val : α → V) (p : α → Bool) {D : Addr} {target kx vx : Expr} {ifs : List Expr} {K : List (Int × V) → Sto → Prop} (I : List α → Vars → Sto → Prop)
    (turn : ∀ x xs ρ σ acc,I (x :: xs) ρ σ → ∀ ps,NoCells ps → WU (c.pins ps) (assign target c.env) (f x) ρ ((D,.dict acc) :: σ) fun ρ₁ σ₁ => WB (c.pins ps) (testsOf ifs c.env) ρ₁ σ₁ fun b σ₂ => b = p x ∧
      (b = true → WT (c.pins ps) (eval kx c.env) ρ₁ σ₂ fun k σ₃ => WT (c.pins ps) (eval vx c.env) ρ₁ σ₃ fun y σ₄ => ∃ σ',k = .int (key x) ∧ σ₄ = (D,.dict acc) :: σ' ∧ y = val x ∧ I xs ρ₁ σ') ∧
      (b = false → ∃ σ',σ₂ = (D,.dict acc) :: σ' ∧ I xs ρ₁ σ')) :
    ∀ (xs : List α) (acc : List (Int × V)) (ρ : Vars) (σ : Sto),acc.length + xs.length < 1000000 → I xs ρ σ → (∀ ρ σ,I [] ρ σ → K ((xs.filter p).foldl (fun acc x => dput acc (key x) (val x)) acc) σ) → DGo c D target ifs kx vx K (xs.map f) acc ρ σ
  | [],acc,ρ,σ,hl,h,fin => fin ρ σ h
  | x :: xs,acc,ρ,σ,hl,h,fin => fun ps noc => by
    have tn:=turn x xs ρ σ acc h ps noc
    rw [List.length_cons] at hl
    intro τ s va R ha X hR
    refine tn τ s va R ha X fun ρ₁ σ₁ s₁ q X₁ => hR ρ₁ σ₁ s₁ ?_ X₁
    intro τ s R X hR
    refine q τ s R X fun b σ₂ s₂ q₂ X₂ => hR b σ₂ s₂ ?_ X₂
    obtain ⟨hb,qt,qf⟩:=q₂
    refine ⟨fun e => ?_,fun e => ?_⟩
    · refine (qt e).mono fun k σ₃ q₃ => q₃.mono fun y σ₄ q₄ => ?_
      obtain ⟨σ',rfl,rfl,rfl,hi⟩:=q₄
      have hlen:=dput_len (ds:=acc) (k:=key x) (d:=val x)
      refine ⟨_,σ',rfl,rfl,by omega,DGo.run f key val p I turn xs _ ρ₁ σ' (by omega) hi fun ρ σ hf => ?_⟩
      have:=fin ρ σ hf
      rwa [List.filter_cons_of_pos (by rw [← hb]; exact e),List.foldl_cons] at this
    · obtain ⟨σ',rfl,hi⟩:=qf e
      refine ⟨σ',rfl,DGo.run f key val p I turn xs _ ρ₁ σ' (by exact Nat.le_of_lt (by assumption)) hi fun ρ σ hf => ?_⟩
      have:=fin ρ σ hf
      rwa [List.filter_cons_of_neg (by rw [← hb,e]; exact Bool.false_ne_true)] at this
theorem fold_put {kn : Kn} : ∀ {acc : Kn},((acc ++ kn).map (·.1)).Nodup → kn.foldl (fun a p => dput a p.1 p.2.v) (enc acc) = enc (acc ++ kn):=by
  induction kn with
  | nil => intro acc _; rw [List.append_nil]; rfl
  | cons p kn ih =>
    intro acc h
    rw [List.foldl_cons,dput_enc (kn:=acc)]
    · have e : acc ++ [(p.1,p.2)] ++ kn = acc ++ p :: kn:=by simp
      rw [ih (acc:=acc ++ [(p.1,p.2)]) (by rw [e]; exact h),e]
    · intro q
      rw [List.map_append,List.nodup_append,List.map_cons] at h
      exact h.2.2 _ q _ (.head _) rfl
end

noncomputable def Vl.py : Vl → PyData
  | .n i => .int i
  | .b x => .bool x
  | .p i x => .tuple [.int i,.bool x]
theorem Vl.py_v : ∀ v : Vl,V.py v.v = some v.py
  | .n _ => rfl
  | .b _ => rfl
  | .p _ _ => rfl
theorem Vl.shaped : ∀ v : Vl,SeqAt.shaped v.py = true
  | .n _ => rfl
  | .b _ => rfl
  | .p _ _ => rfl
noncomputable def vlEq (v w : Vl) : Bool:=PyData.eqv v.py w.py
noncomputable def keepOf (kn : Kn) (p : Int × Vl) : Bool:=match kget kn p.1 with
  | some v => vlEq v p.2
  | Option.none => false
noncomputable def bput (beg : Beg) (n : Int) (kn : Kn) : Beg:=if beg.any (fun p => p.1 = n) then beg.map (fun p => if p.1 = n then (p.1,kn) else p) else beg ++ [(n,kn)]
theorem dput_encB {beg : Beg} {n : Int} {kn : Kn} : dput (encB beg) n (.dict (enc kn)) = encB (bput beg n kn):=by
  unfold dput bput encB
  rw [List.any_map]
  have e : ((fun kv : Int × V => decide (kv.1 = n)) ∘ fun p : Int × Kn => (p.1,V.dict (enc p.2))) = fun p => decide (p.1 = n):=rfl
  rw [e]
  split
  · rw [List.map_map,List.map_map]
    apply List.map_congr_left
    intro p _
    by_cases h : p.1 = n <;> simp [h]
  · simp
noncomputable def meetP (beg : Beg) (n : Int) (kn : Kn) : Beg × Bool:=match bget beg n with
  | Option.none => (bput beg n kn,true)
  | some here => (bput beg n (here.filter (keepOf kn)),decide ((here.filter (keepOf kn)).length < here.length))

theorem DRd.more {σ₁ σ₂ : Sto} {p : Addr × MO} {d : V} {es : List (Int × V)} (h : DRd (σ₁ ++ σ₂) d es) : DRd (σ₁ ++ p :: σ₂) d es:=by
  cases h with
  | data => exact .data
  | chg h =>
    rcases List.mem_append.mp h with h | h
    · exact .chg (List.mem_append_left _ h)
    · exact .chg (List.mem_append_right _ (.tail _ h))
theorem DRd.cons {σ : Sto} {p : Addr × MO} {d : V} {es : List (Int × V)} (h : DRd σ d es) : DRd (p :: σ) d es:=DRd.more (σ₁:=[]) h
theorem dget_enc' (kn : Kn) (k : Int) : dget (enc kn) k = (kget kn k).map Vl.v:=by
  unfold dget enc kget
  rw [List.find?_map,Option.map_map,Option.map_map]
  rfl
theorem kget_of {kn : Kn} (h : (kn.map (·.1)).Nodup) {p : Int × Vl} (hp : p ∈ kn) : kget kn p.1 = some p.2:=by
  induction kn with
  | nil => cases hp
  | cons q kn ih =>
    rw [List.map_cons,List.nodup_cons] at h
    rcases List.mem_cons.mp hp with rfl | hp
    · simp [kget]
    · have hne : ¬ q.1 = p.1:=fun e => h.1 (e ▸ List.mem_map.mpr ⟨p,hp,rfl⟩)
      have:=ih h.2 hp
      unfold kget at this ⊢
      rw [List.find?_cons_of_neg (by simpa using hne)]
      exact this

section
variable {t : Tab} {c : Cx} {ρ : Vars} {Q : V → Sto → Prop}
end
end
end Mine
end
section
namespace Mine
noncomputable section
noncomputable def Less (beg : Beg) (x : Nat) (kend : Kn) : Prop:=∃ k',bget beg (x : Int) = some k' ∧ ∀ l v,kget k' l = some v → kget kend l = some v
theorem bget_bput {beg : Beg} {n m : Int} {kn : Kn} : bget (bput beg n kn) m = if m = n then some kn else bget beg m:=by
  unfold bget bput
  split
  · rename_i h
    induction beg with
    | nil => simp at h
    | cons p r ih =>
      rw [List.map_cons]
      by_cases hp : p.1 = n
      · rw [if_pos hp]
        by_cases hm : m = n
        · rw [if_pos hm]
          simp [hp,hm]
        · rw [if_neg hm,List.find?_cons_of_neg (by simp; omega),List.find?_cons_of_neg (by simp; omega)]
          clear ih h
          induction r with
          | nil => rfl
          | cons q r ih =>
            rw [List.map_cons]
            by_cases hq : q.1 = n
            · rw [if_pos hq,List.find?_cons_of_neg (by simp; omega),List.find?_cons_of_neg (by simp; omega),ih]
            · rw [if_neg hq]
              by_cases e : q.1 = m
              · simp [e]
              · rw [List.find?_cons_of_neg (by simpa using e),List.find?_cons_of_neg (by simpa using e),ih]
      · rw [if_neg hp]
        have h' : (r.any fun p => decide (p.1 = n)) = true:=by
          rw [List.any_cons] at h
          simpa [hp] using h
        by_cases e : p.1 = m
        · have : ¬ m = n:=by omega
          simp [e,this]
        · rw [List.find?_cons_of_neg (by simpa using e),List.find?_cons_of_neg (by simpa using e),ih h']
  · rename_i h
    rw [List.find?_append]
    by_cases hm : m = n
    · rw [if_pos hm]
      have : beg.find? (fun p => decide (p.1 = m)) = Option.none:=by
        rw [List.find?_eq_none]
        intro p hp
        subst hm
        rw [Bool.not_eq_true,List.any_eq_false] at h
        simpa using h p hp
      rw [this]
      simp [hm]
    · rw [if_neg hm]
      have : [(n,kn)].find? (fun p => decide (p.1 = m)) = Option.none:=by
        rw [List.find?_cons_of_neg (by simp; omega)]; rfl
      rw [this,Option.or_none]
theorem bput_keys {beg : Beg} {n : Int} {kn : Kn} : (bput beg n kn).map (·.1) = if beg.any (fun p => p.1 = n) then beg.map (·.1) else beg.map (·.1) ++ [n]:=by
  unfold bput
  split
  · rw [List.map_map]
    apply List.map_congr_left
    intro p _
    by_cases h : p.1 = n <;> simp [h]
  · simp
theorem eqv_int {i j : Int} (h : PyData.eqv (.int i) (.int j) = true) : i = j:=by
  simpa [PyData.eqv] using h
theorem eqv_bool {i j : Bool} (h : PyData.eqv (.bool i) (.bool j) = true) : i = j:=by
  revert h; cases i <;> cases j <;> decide
theorem eqv_ty {v w : Vl} {ty : Ty} (hv : ValTy v ty) (hw : ValTy w ty) (h : vlEq v w = true) : v = w:=by
  cases v <;> cases w <;> cases ty <;> first | exact False.elim hv | exact False.elim hw | skip
  · rw [eqv_int h]
  · rw [eqv_bool h]
  · rename_i i x j y
    unfold vlEq Vl.py at h
    simp [PyData.eqv,PyData.eqvAll] at h
    obtain ⟨h1,h2⟩:=h
    rw [h1]
    have : x = y:=by revert h2; cases x <;> cases y <;> decide
    rw [this]

theorem any_bget {beg : Beg} {n : Int} (h : beg.any (fun p => p.1 = n) = true) : ∃ k,bget beg n = some k:=by
  rw [List.any_eq_true] at h
  obtain ⟨p,hp,e⟩:=h
  have : (beg.find? fun p => p.1 = n).isSome = true:=List.find?_isSome.mpr ⟨p,hp,e⟩
  obtain ⟨q,hq⟩:=Option.isSome_iff_exists.mp this
  exact ⟨q.2,by unfold bget; rw [hq]; rfl⟩
theorem KnWf.filter {tys : List Ty} {kn : Kn} (h : KnWf tys kn) (p : Int × Vl → Bool) : KnWf tys (kn.filter p):=
  ⟨((List.filter_sublist).map _).nodup h.nodup,fun q hq => h.ty q (List.mem_filter.mp hq).1⟩
theorem meetP_get {beg : Beg} {n m : Int} {kn : Kn} : bget (meetP beg n kn).1 m = if m = n then some (match bget beg n with | Option.none => kn | some here => here.filter (keepOf kn)) else bget beg m:=by
  unfold meetP
  cases bget beg n with
  | none => exact bget_bput
  | some here => exact bget_bput
theorem keep_less {tys : List Ty} {here kn : Kn} (h1 : KnWf tys here) (h2 : KnWf tys kn) {l : Int} {v : Vl} (h : kget (here.filter (keepOf kn)) l = some v) : kget kn l = some v ∧ kget here l = some v:=by
  obtain ⟨hm,hk⟩:=List.mem_filter.mp (kget_mem h)
  unfold keepOf at hk
  have hh:=kget_of h1.nodup hm
  refine ⟨?_,hh⟩
  cases hu : kget kn l with
  | none => rw [show ((l,v) : Int × Vl).1 = l from rfl,hu] at hk; exact absurd hk Bool.false_ne_true
  | some u =>
    rw [show ((l,v) : Int × Vl).1 = l from rfl,hu] at hk
    obtain ⟨a,ta,ea,ha,va⟩:=h1.ty _ hm
    obtain ⟨b,tb,eb,hb,vb⟩:=h2.ty _ (kget_mem hu)
    have : a = b:=by have:=ea.symm.trans eb; omega
    subst this
    rw [ha] at hb
    obtain rfl:=Option.some.inj hb
    have e : u = v:=eqv_ty vb va hk
    rw [e]
theorem filter_same {α : Type} {p : α → Bool} {l : List α} (h : ¬ (l.filter p).length < l.length) : l.filter p = l:=by
  have h1:=List.length_filter_le p l
  exact (List.filter_sublist (l:=l) (p:=p)).eq_of_length (by omega)
theorem meetP_no {beg : Beg} {n : Int} {kn : Kn} (h : (meetP beg n kn).2 = false) (m : Int) : bget (meetP beg n kn).1 m = bget beg m:=by
  rw [meetP_get]
  by_cases e : m = n
  · subst e
    rw [if_pos rfl]
    unfold meetP at h
    cases hb : bget beg m with
    | none => rw [hb] at h; exact absurd h (by simp)
    | some here =>
      rw [hb] at h
      have : ¬ (here.filter (keepOf kn)).length < here.length:=by simpa using h
      rw [show (match (some here : Option Kn) with | Option.none => kn | some here => here.filter (keepOf kn)) = here.filter (keepOf kn) from rfl,filter_same this]
  · rw [if_neg e]

structure FolOk (tys : List Ty) (bl : List Blk) (beg : Beg) : Prop where
  zero : bget beg 0 = some []
  wf : ∀ m k,bget beg m = some k → KnWf tys k
  rng : ∀ m k,bget beg m = some k → ∃ n : Nat,m = n ∧ n < bl.length
  keys : (beg.map (·.1)).Nodup
theorem FolOk.len {tys : List Ty} {bl : List Blk} {beg : Beg} (h : FolOk tys bl beg) : beg.length ≤ bl.length:=by
  have:=nodup_le (m:=(List.range bl.length).map fun i : Nat => (i : Int)) h.keys fun x hx => by
    obtain ⟨p,hp,e⟩:=List.mem_map.mp hx
    obtain ⟨k,hk⟩:=any_bget (beg:=beg) (n:=x) (List.any_eq_true.mpr ⟨p,hp,by simpa using e⟩)
    obtain ⟨n,e,hn⟩:=h.rng _ _ hk
    rw [e]
    exact List.mem_map.mpr ⟨n,List.mem_range.mpr hn,rfl⟩
  simpa using this
theorem FolOk.meet {tys : List Ty} {bl : List Blk} {beg : Beg} (h : FolOk tys bl beg) {n : Nat} (hn : n < bl.length) {kn : Kn} (hk : KnWf tys kn) : FolOk tys bl (meetP beg n kn).1 where
  zero:=by
    rw [meetP_get]
    by_cases e : (0 : Int) = n
    · rw [if_pos e,← e,h.zero]; rfl
    · rw [if_neg e]; exact h.zero
  wf:=by
    intro m k hm
    rw [meetP_get] at hm
    by_cases e : m = n
    · rw [if_pos e] at hm
      obtain rfl:=Option.some.inj hm
      cases hb : bget beg n with
      | none => exact hk
      | some here => exact (h.wf _ _ hb).filter _
    · rw [if_neg e] at hm; exact h.wf _ _ hm
  rng:=by
    intro m k hm
    rw [meetP_get] at hm
    by_cases e : m = n
    · exact ⟨n,e,hn⟩
    · rw [if_neg e] at hm; exact h.rng _ _ hm
  keys:=by
    have : ∀ k,((bput beg n k).map (·.1)).Nodup:=fun k => by
      rw [bput_keys]
      split
      · exact h.keys
      · rename_i hh
        rw [List.nodup_append]
        refine ⟨h.keys,by simp,fun a ha b hb e => ?_⟩
        rw [List.mem_singleton] at hb
        obtain ⟨p,hp,e2⟩:=List.mem_map.mp ha
        exact hh (List.any_eq_true.mpr ⟨p,hp,by simp [e2,e,hb]⟩)
    unfold meetP
    cases bget beg n <;> exact this _
noncomputable def wtB (tys : List Ty) (beg : Beg) (n : Nat) : Nat:=match bget beg (n : Int) with
  | Option.none => tys.length + 1
  | some k => k.length
noncomputable def sumN (f : Nat → Nat) : Nat → Nat
  | 0 => 0
  | n + 1 => sumN f n + f n
theorem sumN_same {f g : Nat → Nat} : ∀ {n : Nat},(∀ i,i < n → f i = g i) → sumN f n = sumN g n
  | 0,_ => rfl
  | n + 1,h => by rw [sumN,sumN,sumN_same (n:=n) (fun i hi => h i (by exact Nat.le_succ_of_le (by assumption))),h n (Nat.le_refl _)]
theorem sumN_less {f g : Nat → Nat} {x : Nat} (hx : f x < g x) : ∀ {n : Nat},x < n → (∀ i,i < n → i ≠ x → f i = g i) → sumN f n < sumN g n
  | n + 1,hn,h => by
    rw [sumN,sumN]
    by_cases e : x = n
    · subst e
      rw [sumN_same (n:=x) (fun i hi => h i (by exact Nat.le_succ_of_le (by assumption)) (by omega))]
      omega
    · have:=sumN_less hx (n:=n) (by omega) (fun i hi hne => h i (by exact Nat.le_succ_of_le (by assumption)) hne)
      rw [h n (Nat.le_refl _) (by omega)]
      omega
theorem meetP_yes {tys : List Ty} {bl : List Blk} {beg : Beg} {n : Nat} {kn : Kn} (hk : KnWf tys kn) (hn : n < bl.length) (h : (meetP beg n kn).2 = true) : sumN (wtB tys (meetP beg n kn).1) bl.length < sumN (wtB tys beg) bl.length:=by
  refine sumN_less (x:=n) ?_ hn ?_
  · unfold wtB
    rw [meetP_get,if_pos rfl]
    unfold meetP at h
    cases hb : bget beg n with
    | none => exact Nat.lt_succ_of_le hk.len
    | some here => rw [hb] at h; simpa using h
  · intro i _ hne
    unfold wtB
    rw [meetP_get,if_neg (by omega)]
theorem meetP_no_wt {tys : List Ty} {beg : Beg} {n : Nat} {kn : Kn} (h : (meetP beg n kn).2 = false) (m : Nat) : sumN (wtB tys (meetP beg n kn).1) m = sumN (wtB tys beg) m:=
  sumN_same fun i Z => by unfold wtB; rw [meetP_no h]
end
end Mine
end
section
set_option tactic.hygienic false
namespace Mine
noncomputable section
theorem dedup_mem {x : Nat} : ∀ {xs acc : List Nat},x ∈ dedup acc xs ↔ x ∈ acc ∨ x ∈ xs
  | [],acc => by simp [dedup]
  | y :: xs,acc => by
    unfold dedup
    split
    · rename_i h
      rw [dedup_mem (xs:=xs) (acc:=acc)]
      have hy : y ∈ acc:=by simpa using h
      constructor
      · rintro (h | h)
        · exact .inl h
        · exact .inr (.tail _ h)
      · rintro (h | h)
        · exact .inl h
        · rcases List.mem_cons.mp h with rfl | h
          · exact .inl hy
          · exact .inr h
    · rw [dedup_mem (xs:=xs) (acc:=acc ++ [y])]
      simp [or_assoc]
theorem gone_told {kn : Kn} {m : Trm} {x : Nat} (h : x ∈ gone kn m) : x ∈ m.told:=by
  unfold gone at h
  cases ht : ktgt kn m with
  | none =>
    rw [ht] at h
    have h : x ∈ m.succ:=h
    unfold Trm.succ at h
    simpa using dedup_mem.mp h
  | some b =>
    rw [ht] at h
    obtain rfl:=List.mem_singleton.mp h
    revert ht
    cases m <;> simp only [ktgt,Trm.told] <;> (repeat' split) <;> simp <;> (try (intro e; omega))
noncomputable def BlOk (tys : List Ty) (bl : List Blk) : Prop:=∀ (n : Nat) (b : Blk),bl[n]? = some b → (∀ s ∈ b.1,StmTy tys s) ∧ TrmTy tys b.2 ∧ ∀ x ∈ b.2.told,x < bl.length
theorem Less.meet {tys : List Ty} {bl : List Blk} {beg : Beg} (h : FolOk tys bl beg) {x y : Nat} {kn K : Kn} (hk : KnWf tys kn) (hl : Less beg y K) : Less (meetP beg x kn).1 y K:=by
  obtain ⟨k',h1,h2⟩:=hl
  unfold Less
  rw [meetP_get]
  by_cases e : (y : Int) = x
  · rw [if_pos e,← e,h1]
    exact ⟨_,rfl,fun l v hv => h2 l v (keep_less (h.wf _ _ h1) hk hv).2⟩
  · rw [if_neg e]
    exact ⟨k',h1,h2⟩
theorem Less.new {tys : List Ty} {bl : List Blk} {beg : Beg} (h : FolOk tys bl beg) {x : Nat} {kn : Kn} (hk : KnWf tys kn) : Less (meetP beg x kn).1 x kn:=by
  unfold Less
  rw [meetP_get,if_pos rfl]
  cases hb : bget beg x with
  | none => exact ⟨_,rfl,fun l v hv => hv⟩
  | some here => exact ⟨_,rfl,fun l v hv => (keep_less (h.wf _ _ hb) hk hv).1⟩
noncomputable def DoneAt (bl : List Blk) (beg : Beg) (m : Nat) : Prop:=∀ kn b,bget beg m = some kn → bl[m]? = some b → ∀ x ∈ gone (runK kn b.1) b.2,Less beg x (runK kn b.1)
structure TurnOk (tys : List Ty) (bl : List Blk) (n : Nat) (kn0 : Kn) (b : Blk) (xs left : List Nat) (beg : Beg) : Prop where
  ok : FolOk tys bl beg
  lf : ∀ m ∈ left,(bget beg (m : Int)).isSome = true
  others : ∀ m,m ≠ n → m ∉ left → DoneAt bl beg m
  self : n ∉ left → bget beg (n : Int) = some kn0
  tgt : ∀ x ∈ gone (runK kn0 b.1) b.2,x ∈ xs ∨ Less beg x (runK kn0 b.1)
  rng : ∀ x ∈ xs,x < bl.length
theorem DoneAt.meet {tys : List Ty} {bl : List Blk} {beg : Beg} (h : FolOk tys bl beg) {m x : Nat} {kn : Kn} (hk : KnWf tys kn) (hd : DoneAt bl beg m) (hs : bget (meetP beg x kn).1 m = bget beg m) : DoneAt bl (meetP beg x kn).1 m:=by
  intro k b h1 h2 y hy
  rw [hs] at h1
  exact (hd k b h1 h2 y hy).meet h hk
theorem TurnOk.meet {tys : List Ty} {bl : List Blk} {n : Nat} {kn0 : Kn} {b : Blk} {x : Nat} {xs left : List Nat} {beg : Beg} (h : TurnOk tys bl n kn0 b (x :: xs) left beg) (hk : KnWf tys (runK kn0 b.1)) :
    TurnOk tys bl n kn0 b xs (if (meetP beg x (runK kn0 b.1)).2 then left ++ [x] else left) (meetP beg x (runK kn0 b.1)).1:=by
  have hx:=h.rng x (.head _)
  have old : ∀ m : Nat,m ∉ (if (meetP beg x (runK kn0 b.1)).2 then left ++ [x] else left) → m ∉ left ∧ bget (meetP beg x (runK kn0 b.1)).1 m = bget beg m:=by
    intro m hm
    cases hb : (meetP beg x (runK kn0 b.1)).2 with
    | true =>
      rw [hb,if_pos rfl,List.mem_append,List.mem_singleton,not_or] at hm
      refine ⟨hm.1,?_⟩
      rw [meetP_get,if_neg (by have:=hm.2; omega)]
    | false =>
      rw [hb] at hm
      exact ⟨by simpa using hm,meetP_no hb m⟩
  refine ⟨h.ok.meet hx hk,?_,?_,?_,?_,fun y hy => h.rng y (.tail _ hy)⟩
  · intro m hm
    have : m ∈ left ∨ m = x:=by
      split at hm
      · simpa using hm
      · exact .inl hm
    rw [meetP_get]
    by_cases e : (m : Int) = x
    · rw [if_pos e]; rfl
    · rw [if_neg e]
      rcases this with h1 | h1
      · exact h.lf m h1
      · omega
  · intro m hne hm
    obtain ⟨h1,h2⟩:=old m hm
    exact (h.others m hne h1).meet h.ok hk h2
  · intro hm
    obtain ⟨h1,h2⟩:=old n hm
    rw [h2]; exact h.self h1
  · intro y hy
    rcases h.tgt y hy with h1 | h1
    · rcases List.mem_cons.mp h1 with rfl | h1
      · exact .inr (Less.new h.ok hk)
      · exact .inl h1
    · exact .inr (h1.meet h.ok hk)
theorem TurnOk.done {tys : List Ty} {bl : List Blk} {n : Nat} {kn0 : Kn} {b : Blk} {left : List Nat} {beg : Beg} (h : TurnOk tys bl n kn0 b [] left beg) (hb : bl[n]? = some b) : ∀ m,m ∉ left → DoneAt bl beg m:=by
  intro m hm
  by_cases e : m = n
  · subst e
    intro kn b' h1 h2 x hx
    rw [h.self hm] at h1
    obtain rfl:=Option.some.inj h1
    rw [hb] at h2
    obtain rfl:=Option.some.inj h2
    rcases h.tgt x hx with h3 | h3
    · cases h3
    · exact h3
  · exact h.others m e hm
end
end Mine
end
section
set_option tactic.hygienic false
namespace Mine
noncomputable section
theorem xDropAll {c : Cx} {ρ : Vars} {QX : Fl → Vars → Sto → Prop} {tr : Sem Flow} {σ : Sto} : ∀ {junk : Sto},WX c tr ρ σ QX → WX c tr ρ (junk ++ σ) QX
  | [],h => h
  | p :: r,h => xDropPre (σ₁:=[]) (xDropAll (junk:=r) h)
theorem sumN_le {f : Nat → Nat} {B : Nat} (h : ∀ i,f i ≤ B) : ∀ n,sumN f n ≤ n * B
  | 0 => Nat.le_of_eq (by rw [sumN,Nat.zero_mul])
  | n + 1 => by
    have:=sumN_le h n
    have:=h n
    rw [sumN,Nat.add_mul]; omega
theorem inv_meet {tys : List Ty} {bl : List Blk} {I : Int → Kn → Prop} {beg : Beg} {x : Int} {kn : Kn} (ho : FolOk tys bl beg) (h : ∀ m k,bget beg m = some k → I m k) (hk : KnWf tys kn) (hx : I x kn)
    (hm : ∀ x here kn,KnWf tys here → KnWf tys kn → I x here → I x kn → I x (here.filter (keepOf kn))) : ∀ m k,bget (meetP beg x kn).1 m = some k → I m k:=by
  intro m k hmk
  rw [meetP_get] at hmk
  by_cases e : m = x
  · rw [if_pos e] at hmk
    subst e
    obtain rfl:=Option.some.inj hmk
    cases hb : bget beg m with
    | none => exact hx
    | some here => exact hm _ _ _ (ho.wf _ _ hb) hk (h _ _ hb) hx
  · rw [if_neg e] at hmk
    exact h _ _ hmk
theorem FolOk.init {tys : List Ty} {bl : List Blk} (h0 : 0 < bl.length) : FolOk tys bl [(0,[])] where
  zero:=rfl
  wf:=fun m k h => by
    unfold bget at h
    by_cases e : m = 0
    · subst e; obtain rfl:=Option.some.inj h; exact KnWf.nil
    · rw [List.find?_cons_of_neg (by simpa using fun q => e q.symm)] at h; cases h
  rng:=fun m k h => by
    unfold bget at h
    by_cases e : m = 0
    · exact ⟨0,e,h0⟩
    · rw [List.find?_cons_of_neg (by simpa using fun q => e q.symm)] at h; cases h
  keys:=by simp
theorem pys_nats : ∀ l : List Nat,V.pys (l.map natV) = some (l.map fun n : Nat => PyData.int (n : Int))
  | [] => rfl
  | n :: l => by
    show (V.pys (natV n :: l.map natV)) = _
    unfold V.pys
    rw [pys_nats l]; rfl
theorem lay_nats : ∀ l : List Nat,PyData.canLayAll0 (l.map fun n : Nat => PyData.int (n : Int)) = true
  | [] => rfl
  | n :: l => by
    show (PyData.canLay0 (.int n) && PyData.canLayAll0 (l.map fun n : Nat => PyData.int (n : Int))) = true
    rw [lay_nats l]; rfl
theorem depth_nats : ∀ l : List Nat,PyData.depthAll (l.map fun n : Nat => PyData.int (n : Int)) = 0
  | [] => rfl
  | n :: l => by
    show max (PyData.depth (.int n)) (PyData.depthAll (l.map fun n : Nat => PyData.int (n : Int))) = 0
    rw [depth_nats l]; rfl
theorem shaped_nats (l : List Nat) : SeqAt.shaped (.list (l.map fun n : Nat => PyData.int (n : Int))) = true:=by
  show (PyData.canLayAll0 (l.map fun n : Nat => PyData.int (n : Int)) && decide (PyData.depthAll (l.map fun n : Nat => PyData.int (n : Int)) + 1 ≤ 64)) = true
  rw [lay_nats,depth_nats]; rfl
section
variable {t : Tab} {c : Cx} {ρ : Vars} {Q : V → Sto → Prop}
end
end
end Mine
end
section
set_option tactic.hygienic false
namespace Mine
noncomputable section
section
structure Cx.Same (c c' : Cx) : Prop where
  prog : c'.prog = c.prog
  w : c'.w = c.w
  K : c'.K = c.K
  base : c'.base = c.base
  n : c'.n = c.n
  env : c'.env = c.env
  comp : c'.comp = c.comp
theorem Cx.Same.refl {c : Cx} : c.Same c:=⟨rfl,rfl,rfl,rfl,rfl,rfl,rfl⟩
theorem Cx.Same.pins {c c' : Cx} (h : c.Same c') {ps : Led} : c.Same (c'.pins ps):=⟨h.prog,h.w,h.K,h.base,h.n,h.env,h.comp⟩
theorem Cx.Same.like {c c' : Cx} (h : c.Same c') : c.Like c':=⟨h.prog,h.w,h.K,h.base⟩


noncomputable def key (p : Pos) : Nat:=p.line * 1000000 + p.col * 1000 + p.endCol
noncomputable def lk {α : Type _} : List (Nat × α) → Nat → Option α
  | [],_ => none
  | (k,a) :: r,n => match Nat.beq k n with | true => some a | false => lk r n
noncomputable def has : List Nat → Nat → Bool
  | [],_ => false
  | k :: r,n => match Nat.beq k n with | true => true | false => has r n

noncomputable def lookV : Vars → Str → Option V
  | [],_ => none
  | (y,sl) :: r,x => match x == y with
    | true => (match sl with | .own o => o | .ro d => some d)
    | false => lookV r x
theorem lookV_loads {x : Str} {d : V} : ∀ {ρ : Vars},lookV ρ x = some d → Loads ρ x d
  | (y,sl) :: r,h => by
    unfold lookV at h
    split at h
    · rename_i e
      obtain rfl : x = y:=beq_iff_eq.mp e
      cases sl with
      | own o => cases h; exact .own
      | ro d => cases h; exact .ro
    · exact .tl (lookV_loads h)
noncomputable def putV : Vars → Str → V → Option Vars
  | [],_,_ => none
  | (y,sl) :: r,x,d => match x == y with
    | true => (match sl with | .own _ => some ((y,.own (some d)) :: r) | .ro _ => none)
    | false => (putV r x d).map ((y,sl) :: ·)
theorem putV_puts {x : Str} {d : V} : ∀ {ρ ρ' : Vars},putV ρ x d = some ρ' → Puts ρ x d ρ'
  | (y,sl) :: r,ρ',h => by
    unfold putV at h
    split at h
    · rename_i e
      obtain rfl : x = y:=beq_iff_eq.mp e
      cases sl with
      | own o => cases h; exact .hd
      | ro d => cases h
    · obtain ⟨r',h1,rfl⟩:=Option.map_eq_some_iff.mp h
      exact .tl (putV_puts h1)

structure FnTo (c : Cx) (σ : Sto) (f : Value) (ds : List V) (d : V) (σ' : Sto) : Prop where
  run : ∀ c',c.Same c' → ∀ (ρ : Vars) (Q : V → Sto → Prop),Q d σ' → WC c' f ds ρ σ Q
structure ExTo (c : Cx) (ρ : Vars) (σ : Sto) (e : Expr) (d : V) (σ' : Sto) : Prop where
  run : ∀ c',c.Same c' → ∀ Q : V → Sto → Prop,Q d σ' → WT c' (eval e c'.env) ρ σ Q
structure CmTo (c : Cx) (σ : Sto) (op : CmpOp) (a b d : V) : Prop where
  run : ∀ c',c.Same c' → ∀ (ρ : Vars) (Q : V → Sto → Prop),Q d σ → W2 c' (compareOp op) a b ρ σ Q
structure BiTo (c : Cx) (σ : Sto) (op : Operator) (a b d : V) : Prop where
  run : ∀ c',c.Same c' → ∀ (ρ : Vars) (Q : V → Sto → Prop),Q d σ → W2 c' (binaryOp op) a b ρ σ Q
structure ItTo (c : Cx) (σ : Sto) (a b d : V) : Prop where
  run : ∀ (v s : Expr),(∀ o i,subscripted s false o i = operate [o,i] (getItem o i)) → ∀ c',c.Same c' → ∀ (ρ : Vars) (Q : V → Sto → Prop),Q d σ → W2 c' (subscriptTail v s) a b ρ σ Q
structure AtTo (c : Cx) (σ : Sto) (a : V) (x : Str) (d : V) : Prop where
  run : ∀ c',c.Same c' → ∀ (ρ : Vars) (Q : V → Sto → Prop),Q d σ → W1 c' (fun v => getAttr v x true) a ρ σ Q
structure SeTo (c : Cx) (σ : Sto) (o i d : V) (σ' : Sto) : Prop where
  run : ∀ c',c.Same c' → ∀ (ρ : Vars) (Q : Sto → Prop),Q σ' → WI c' o i d ρ σ Q
structure XTo (c : Cx) (ρ : Vars) (σ : Sto) (ss : List Stmt) (K : Fl → Vars → Sto → Prop) : Prop where
  run : ∀ c',c.Same c' → WX c' (execs ss c'.env) ρ σ K
universe u v
inductive Stuck {α : Sort _} (k : Nat) (a : α) : Prop
inductive Got {α : Sort u} (E F : α → Prop) : Prop
  | mk (a : α) (e : E a) (h : F a) : Got E F
noncomputable def on {α : Type u} {β : Type v} (k : Nat) (b : β) (o : Option α) (F : α → Prop) : Prop:=match o with | some a => F a | none => Stuck k b
theorem on_out {α : Type u} {β : Type v} {k : Nat} {b : β} {o : Option α} {F : α → Prop} (h : on k b o F) : Got (fun a => o = some a) F:=by
  cases o with
  | none => exact nomatch h
  | some a => exact ⟨a,rfl,h⟩
noncomputable def alt {α : Type u} (o : Option α) (F : α → Prop) (G : Prop) : Prop:=match o with | some a => F a | none => G
theorem alt_out {α : Type u} {o : Option α} {F : α → Prop} {G : Prop} (h : alt o F G) : Got (fun a => o = some a) F ∨ G:=by
  cases o with
  | none => exact .inr h
  | some a => exact .inl ⟨a,rfl,h⟩
noncomputable def yes (b : Bool) (F : Prop) : Prop:=match b with | true => F | false => False
theorem yes_out {b : Bool} {F : Prop} (h : yes b F) : b = true ∧ F:=by
  cases b with
  | true => exact ⟨rfl,h⟩
  | false => exact nomatch h
noncomputable def yesS {β : Type} (k : Nat) (a : β) (b : Bool) (F : Prop) : Prop:=match b with | true => F | false => Stuck k a
theorem yesS_out {β : Type} {k : Nat} {a : β} {b : Bool} {F : Prop} (h : yesS k a b F) : b = true ∧ F:=by
  cases b with
  | true => exact ⟨rfl,h⟩
  | false => exact nomatch h
noncomputable def fork (b : Bool) (F G : Prop) : Prop:=match b with | true => F | false => G
theorem fork_out {b : Bool} {F G : Prop} (h : fork b F G) : (b = true ∧ F) ∨ G:=by
  cases b with
  | true => exact .inl ⟨rfl,h⟩
  | false => exact .inr h
theorem none_ne {α : Type u} {a : α} {P : Prop} (h : none = some a) : P:=nomatch h
theorem some_sub {P : V → Prop} {d e : V} (h : some d = some e) (q : P e) : P d:=Option.some.inj h ▸ q

noncomputable def V.int? : V → Option Int
  | .int i => some i
  | _ => Option.none
noncomputable def V.str? : V → Option Str
  | .str i => some i
  | _ => Option.none
noncomputable def V.bool? : V → Option Bool
  | .bool i => some i
  | _ => Option.none
noncomputable def V.tup? : V → Option (List V)
  | .tup i => some i
  | _ => Option.none
noncomputable def V.list? : V → Option (List V)
  | .list i => some i
  | _ => Option.none
theorem int?_eq {d : V} {i : Int} (h : d.int? = some i) : d = .int i:=by cases d <;> first | (cases h; rfl) | exact none_ne h
theorem str?_eq {d : V} {i : Str} (h : d.str? = some i) : d = .str i:=by cases d <;> first | (cases h; rfl) | exact none_ne h
theorem bool?_eq {d : V} {i : Bool} (h : d.bool? = some i) : d = .bool i:=by cases d <;> first | (cases h; rfl) | exact none_ne h
theorem tup?_eq {d : V} {i : List V} (h : d.tup? = some i) : d = .tup i:=by cases d <;> first | (cases h; rfl) | exact none_ne h
theorem list?_eq {d : V} {i : List V} (h : d.list? = some i) : d = .list i:=by cases d <;> first | (cases h; rfl) | exact none_ne h
noncomputable def isNil : V → Bool
  | .none => true
  | _ => false
theorem isNil_eq {d : V} (h : isNil d = true) : d = .none:=by cases d <;> first | rfl | exact nomatch h
noncomputable def cmpI (op : CmpOp) (a b : Int) : Option V:=match op with
  | .Eq => some (.bool (a == b)) | .NotEq => some (.bool (a != b)) | .Lt => some (.bool (decide (a < b))) | .LtE => some (.bool (decide (a ≤ b)))
  | .Gt => some (.bool (decide (a > b))) | .GtE => some (.bool (decide (a ≥ b))) | .Is => none | .IsNot => none | .In => none | .NotIn => none
noncomputable def cmpS (op : CmpOp) (a b : Str) : Option V:=match op with
  | .Eq => some (.bool (a == b)) | .NotEq => some (.bool (a != b)) | .Lt => none | .LtE => none | .Gt => none | .GtE => none | .Is => none | .IsNot => none | .In => none | .NotIn => none
noncomputable def cmpB (op : CmpOp) (a b : Bool) : Option V:=match op with
  | .Eq => some (.bool (a == b)) | .NotEq => none | .Lt => none | .LtE => none | .Gt => none | .GtE => none | .Is => none | .IsNot => none | .In => none | .NotIn => none
noncomputable def cmpN (op : CmpOp) (a : V) : Option V:=match op with
  | .Is => a.isNone.map .bool | .IsNot => a.isNone.map fun b => .bool !b
  | .Eq => none | .NotEq => none | .Lt => none | .LtE => none | .Gt => none | .GtE => none | .In => none | .NotIn => none
noncomputable def cmpV (op : CmpOp) (a b : V) : Option V:=match isNil b with
  | true => cmpN op a
  | false => (b.int?.bind fun j => a.int?.bind fun i => cmpI op i j) <|> ((b.str?.bind fun j => a.str?.bind fun i => cmpS op i j) <|> (b.bool?.bind fun j => a.bool?.bind fun i => cmpB op i j))
theorem or_some {α : Type} {x y : Option α} {d : α} (h : (x <|> y) = some d) : x = some d ∨ y = some d:=by
  cases x with
  | none => exact .inr h
  | some a => exact .inl h
section
variable {c : Cx} {ρ : Vars} {σ : Sto} {op : CmpOp} {d : V} {Q : V → Sto → Prop}
theorem cmpN_sound {a : V} (h : cmpN op a = some d) (q : Q d σ) : W2 c (compareOp op) a .none ρ σ Q:=by
  cases op with
  | Is => obtain ⟨b,h1,rfl⟩:=Option.map_eq_some_iff.mp h; exact oIs h1 q
  | IsNot => obtain ⟨b,h1,rfl⟩:=Option.map_eq_some_iff.mp h; exact oIsNot h1 q
  | _ => exact none_ne h
theorem cmpI_sound {a b : Int} (h : cmpI op a b = some d) (q : Q d σ) : W2 c (compareOp op) (.int a) (.int b) ρ σ Q:=by
  have q : ∀ e,some e = some d → Q e σ:=fun e he => some_sub (P:=(Q · σ)) he q
  cases op with
  | Eq => exact oEqInt (q _ h)
  | NotEq => exact oNeInt (q _ h)
  | Lt => exact oLt (q _ h)
  | LtE => exact oLe (q _ h)
  | Gt => exact oGt (q _ h)
  | GtE => exact oGe (q _ h)
  | _ => exact none_ne h
theorem cmpS_sound {a b : Str} (h : cmpS op a b = some d) (q : Q d σ) : W2 c (compareOp op) (.str a) (.str b) ρ σ Q:=by
  have q : ∀ e,some e = some d → Q e σ:=fun e he => some_sub (P:=(Q · σ)) he q
  cases op with
  | Eq => exact oEqStr (q _ h)
  | NotEq => exact oNeStr (q _ h)
  | _ => exact none_ne h
theorem cmpB_sound {a b : Bool} (h : cmpB op a b = some d) (q : Q d σ) : W2 c (compareOp op) (.bool a) (.bool b) ρ σ Q:=by
  cases op with
  | Eq => exact oEqBool (some_sub (P:=(Q · σ)) h q)
  | _ => exact none_ne h
theorem cmpV_sound {a b : V} (h : cmpV op a b = some d) (q : Q d σ) : W2 c (compareOp op) a b ρ σ Q:=by
  unfold cmpV at h
  cases hn : isNil b with
  | true => obtain rfl:=isNil_eq hn; exact cmpN_sound h q
  | false =>
    rw [hn] at h
    rcases or_some h with h | h
    · obtain ⟨j,e1,h⟩:=Option.bind_eq_some_iff.mp h
      obtain ⟨i,e2,h⟩:=Option.bind_eq_some_iff.mp h
      obtain rfl:=int?_eq e1
      obtain rfl:=int?_eq e2
      exact cmpI_sound h q
    · rcases or_some h with h | h
      · obtain ⟨j,e1,h⟩:=Option.bind_eq_some_iff.mp h
        obtain ⟨i,e2,h⟩:=Option.bind_eq_some_iff.mp h
        obtain rfl:=str?_eq e1
        obtain rfl:=str?_eq e2
        exact cmpS_sound h q
      · obtain ⟨j,e1,h⟩:=Option.bind_eq_some_iff.mp h
        obtain ⟨i,e2,h⟩:=Option.bind_eq_some_iff.mp h
        obtain rfl:=bool?_eq e1
        obtain rfl:=bool?_eq e2
        exact cmpB_sound h q
end
noncomputable def strIn (x : Str) : List V → Option Bool
  | [] => bif PyData.strOk x then some false else none
  | d :: r => d.str?.bind fun y => bif PyData.strOk y then (strIn x r).map fun b => y == x || b else none
inductive StrIn (x : Str) (ds : List V) (b : Bool) : Prop
  | mk (h0 : SeqAt.shaped (.str x) = true) (ys : List PyData) (h1 : V.pys ds = some ys) (h2 : PyData.canLayAll0 ys = true) (h3 : (ys.any fun y => PyData.eqv y (.str x)) = b) : StrIn x ds b
theorem cond_some {α : Type} {b : Bool} {x : Option α} {d : α} (h : (bif b then x else none) = some d) : b = true ∧ x = some d:=by
  cases b with
  | true => exact ⟨rfl,h⟩
  | false => exact none_ne h
theorem strIn_py {x : Str} {ds : List V} {b : Bool} (h : strIn x ds = some b) : StrIn x ds b:=by
  induction ds generalizing b with
  | nil =>
    obtain ⟨hx,e⟩:=cond_some h
    exact ⟨by show (PyData.strOk x && _) = true; rw [hx]; rfl,[],rfl,rfl,Option.some.inj e⟩
  | cons d r ih =>
    obtain ⟨y,e,h⟩:=Option.bind_eq_some_iff.mp h
    obtain rfl:=str?_eq e
    obtain ⟨hy,h⟩:=cond_some h
    have hy : PyData.canLay0 (.str y) = true:=hy
    obtain ⟨b',hb,rfl⟩:=Option.map_eq_some_iff.mp h
    obtain ⟨h0,ys,h1,h2,h3⟩:=ih hb
    refine ⟨h0,.str y :: ys,?_,?_,?_⟩
    · show (match some (PyData.str y),V.pys r with | some a,some b => some (a :: b) | _,_ => none) = _
      rw [h1]
    · show (PyData.canLay0 (.str y) && PyData.canLayAll0 ys) = true
      rw [h2,hy]; rfl
    · rw [List.any_cons,h3]
      have : PyData.eqv (.str y) (.str x) = (y == x):=by simp [PyData.eqv]
      rw [this]
noncomputable def inD (op : CmpOp) (b : Bool) : Option V:=match op with
  | .In => some (.bool b) | .NotIn => some (.bool !b)
  | .Eq => none | .NotEq => none | .Lt => none | .LtE => none | .Gt => none | .GtE => none | .Is => none | .IsNot => none
noncomputable def inV (op : CmpOp) (a b : V) : Option V:=match b.tup?,b.list? with
  | some ds,_ => a.str?.bind fun x => (strIn x ds).bind (inD op)
  | none,some ds => a.str?.bind fun x => (strIn x ds).bind (inD op)
  | none,none => cmpV op a b
theorem inD_sound {c : Cx} {ρ : Vars} {σ : Sto} {op : CmpOp} {x : Str} {b : V} {ds : List V} {y : List PyData → PyData} {k : Bool} {d : V} {Q : V → Sto → Prop} (hs : ∀ ys,Seq (y ys) ys) (hy : ∀ ys,V.pys ds = some ys → b.py = some (y ys)) (e : strIn x ds = some k) (h : inD op k = some d) (q : Q d σ) : W2 c (compareOp op) (.str x) b ρ σ Q:=by
  obtain ⟨h0,ys,h1,h2,h3⟩:=strIn_py e
  cases op with
  | In => exact oIn (y:=y ys) (Rd.data rfl) (Rd.data (hy ys h1)) (hs ys) h0 h2 (by rw [h3]; exact some_sub (P:=(Q · σ)) h q)
  | NotIn => exact oNotIn (y:=y ys) (Rd.data rfl) (Rd.data (hy ys h1)) (hs ys) h0 h2 (by rw [h3]; exact some_sub (P:=(Q · σ)) h q)
  | _ => exact none_ne h
theorem inV_sound {c : Cx} {ρ : Vars} {σ : Sto} {op : CmpOp} {a b d : V} {Q : V → Sto → Prop} (h : inV op a b = some d) (q : Q d σ) : W2 c (compareOp op) a b ρ σ Q:=by
  unfold inV at h
  cases e1 : b.tup? with
  | some ds =>
    rw [e1] at h
    obtain rfl:=tup?_eq e1
    obtain ⟨x,e0,g⟩:=Option.bind_eq_some_iff.mp h
    obtain ⟨k,e,g⟩:=Option.bind_eq_some_iff.mp g
    obtain rfl:=str?_eq e0
    exact inD_sound (y:=.tuple) (fun Z => .inr rfl) (fun ys h1 => by show (V.pys _).map _ = _; rw [h1]; rfl) e g q
  | none =>
    cases e2 : b.list? with
    | some ds =>
      rw [e1,e2] at h
      obtain rfl:=list?_eq e2
      obtain ⟨x,e0,g⟩:=Option.bind_eq_some_iff.mp h
      obtain ⟨k,e,g⟩:=Option.bind_eq_some_iff.mp g
      obtain rfl:=str?_eq e0
      exact inD_sound (y:=.list) (fun Z => .inl rfl) (fun ys h1 => by show (V.pys _).map _ = _; rw [h1]; rfl) e g q
    | none => rw [e1,e2] at h; exact cmpV_sound h q
noncomputable def modI (a b : Int) : Option V:=bif !decide (b = 0) then some (.int (a.fmod b)) else none
noncomputable def binI (op : Operator) (a b : Int) : Option V:=match op with
  | .Add => some (.int (a + b)) | .Sub => some (.int (a - b)) | .BitAnd => some (.int (Builtin.bitAnd a b)) | .BitOr => some (.int (Builtin.bitOr a b)) | .BitXor => some (.int (Builtin.bitXor a b))
  | .Mod => modI a b
  | .Mult => none | .MatMult => none | .Div => none | .Pow => none | .LShift => none | .RShift => none | .FloorDiv => none
noncomputable def addL (op : Operator) (ds es : List V) : Option V:=match op with
  | .Add => bif Nat.ble (ds.length + es.length) 1000 then some (.list (ds ++ es)) else none
  | _ => none
noncomputable def binV (op : Operator) (a b : V) : Option V:=(a.int?.bind fun i => b.int?.bind fun j => binI op i j) <|> (a.list?.bind fun ds => b.list?.bind fun es => addL op ds es)
theorem binI_sound {c : Cx} {ρ : Vars} {σ : Sto} {op : Operator} {a b : Int} {d : V} {Q : V → Sto → Prop} (h : binI op a b = some d) (q : Q d σ) : W2 c (binaryOp op) (.int a) (.int b) ρ σ Q:=by
  have q : ∀ e,some e = some d → Q e σ:=fun e he => some_sub (P:=(Q · σ)) he q
  cases op with
  | Add => exact oAdd (q _ h)
  | Sub => exact oSub (q _ h)
  | BitAnd => exact oAnd (q _ h)
  | BitOr => exact oOr (q _ h)
  | BitXor => exact oXor (q _ h)
  | Mod =>
    obtain ⟨h1,h⟩:=cond_some h
    rw [Bool.not_eq_true'] at h1
    exact oMod (of_decide_eq_false h1) (q _ h)
  | _ => exact none_ne h
theorem binV_sound {c : Cx} {ρ : Vars} {σ : Sto} {op : Operator} {a b d : V} {Q : V → Sto → Prop} (h : binV op a b = some d) (q : Q d σ) : W2 c (binaryOp op) a b ρ σ Q:=by
  rcases or_some h with h | h
  · obtain ⟨i,e1,h⟩:=Option.bind_eq_some_iff.mp h
    obtain ⟨j,e2,h⟩:=Option.bind_eq_some_iff.mp h
    obtain rfl:=int?_eq e1
    obtain rfl:=int?_eq e2
    exact binI_sound h q
  · obtain ⟨i,e1,h⟩:=Option.bind_eq_some_iff.mp h
    obtain ⟨j,e2,h⟩:=Option.bind_eq_some_iff.mp h
    obtain rfl:=list?_eq e1
    obtain rfl:=list?_eq e2
    cases op with
    | Add =>
      obtain ⟨hl,h⟩:=cond_some h
      exact oAddList (Nat.le_trans (Nat.le_of_ble_eq_true hl) (by decide)) (some_sub (P:=(Q · σ)) h q)
    | _ => exact none_ne h
noncomputable def sdict? : V → Option (List (Str × V))
  | .sdict es => some es
  | _ => none
theorem sdict?_eq {d : V} {i : List (Str × V)} (h : sdict? d = some i) : d = .sdict i:=by cases d <;> first | (cases h; rfl) | exact none_ne h
noncomputable def getV (a b : V) : Option V:=(a.tup?.bind fun ds => b.int?.bind fun i => bif decide (-(2 ^ 63) ≤ i) && decide (i < 2 ^ 63) then (seqIndex? i ds.length).bind fun j => ds[j]? else none)
  <|> ((a.list?.bind fun ds => b.int?.bind fun i => bif decide (0 ≤ i) && decide (i < 2 ^ 63) then ds[i.toNat]? else none) <|> ((sdict? a).bind fun es => b.str?.bind fun k => dget es k))
theorem getV_sound {c : Cx} {ρ : Vars} {σ : Sto} {v s : Expr} {a b d : V} {Q : V → Sto → Prop} (hs : ∀ o i,subscripted s false o i = operate [o,i] (getItem o i)) (h : getV a b = some d) (q : Q d σ) : W2 c (subscriptTail v s) a b ρ σ Q:=by
  rcases or_some h with h | h
  · obtain ⟨ds,e1,h⟩:=Option.bind_eq_some_iff.mp h
    obtain ⟨i,e2,h⟩:=Option.bind_eq_some_iff.mp h
    obtain rfl:=tup?_eq e1
    obtain rfl:=int?_eq e2
    obtain ⟨hr,h⟩:=cond_some h
    rw [Bool.and_eq_true] at hr
    obtain ⟨j,hj,h⟩:=Option.bind_eq_some_iff.mp h
    exact gTup (of_decide_eq_true hr.1) (of_decide_eq_true hr.2) hj h hs q
  · rcases or_some h with h | h
    · obtain ⟨ds,e1,h⟩:=Option.bind_eq_some_iff.mp h
      obtain ⟨i,e2,h⟩:=Option.bind_eq_some_iff.mp h
      obtain rfl:=list?_eq e1
      obtain rfl:=int?_eq e2
      obtain ⟨hr,h⟩:=cond_some h
      rw [Bool.and_eq_true] at hr
      exact gListM LRd.data (of_decide_eq_true hr.1) (of_decide_eq_true hr.2) h hs q
    · obtain ⟨es,e1,h⟩:=Option.bind_eq_some_iff.mp h
      obtain ⟨k,e2,h⟩:=Option.bind_eq_some_iff.mp h
      obtain rfl:=sdict?_eq e1
      obtain rfl:=str?_eq e2
      exact gSdict h hs q

noncomputable def plainE (e : Expr) : Bool:=!([0,3,5,15,22,26].elem e.ctorIdx)
theorem plain_isTrue {e : Expr} (h : plainE e = true) (env : Env) (whole : Sem Value) : isTrue e env whole = (do let v ← whole; standAt e.pos; holding [v] (truthy v)):=by
  cases e <;> first | rfl | (exact Bool.noConfusion (h : false = true))
noncomputable def noStar (e : Expr) : Bool:=!(Nat.beq e.ctorIdx 22)
theorem star_cons {e : Expr} (h : noStar e = true) (es : List Expr) (env : Env) : starEach (e :: es) env = (false,eval e env) :: starEach es env:=by
  cases e <;> first | rfl | exact Bool.noConfusion (h : false = true)
noncomputable def baseE (e : Expr) : Bool:=Nat.beq e.ctorIdx 23 || (Nat.beq e.ctorIdx 20 || Nat.beq e.ctorIdx 21)
theorem base_attr {o : Expr} (h : baseE o = true) (x : Str) (env : Env) (t : Sem Value) : attributeBase o x env t = t:=by
  cases o <;> first | rfl | exact Bool.noConfusion (h : false = true)
noncomputable def nameE (e : Expr) : Bool:=Nat.beq e.ctorIdx 23
theorem name_let {o : Expr} (h : nameE o = true) (a r : Value) : letTemporaryGo o a r = pure ():=by
  cases o <;> first | rfl | exact Bool.noConfusion (h : false = true)
noncomputable def notSet (e : Expr) : Bool:=!(Nat.beq e.ctorIdx 7)
theorem notSet_marks {e : Expr} (h : notSet e = true) (op : CmpOp) : behindInMarks op e = false:=by
  cases e <;> first | rfl | exact Bool.noConfusion (h : false = true)
theorem notSet_fold {e : Expr} (h : notSet e = true) (env : Env) (x : Value) : foldedSetIterable e env x = pure x:=by
  cases e <;> first | rfl | exact Bool.noConfusion (h : false = true)
noncomputable def idxE (e : Expr) : Bool:=!(Nat.beq e.ctorIdx 26)
theorem idx_sub {s : Expr} (h : idxE s = true) (o i : Value) : subscripted s false o i = operate [o,i] (getItem o i):=by
  cases s <;> first | rfl | exact Bool.noConfusion (h : false = true)
theorem any_star {pos : Pos} {env : Env} : ∀ {es : List Expr},es.all noStar = true → (backTo pos (starEach es env)).any (·.1) = false
  | [],_ => rfl
  | e :: es,h => by
    rw [List.all_cons,Bool.and_eq_true] at h
    rw [star_cons h.1]
    show (false || (backTo pos (starEach es env)).any (·.1)) = false
    rw [any_star h.2]; rfl
theorem few_star {pos : Pos} {env : Env} {es : List Expr} (h : es.all noStar = true) (hl : Nat.blt es.length 30 = true) : methodCallForm (es.length + ([] : List Keyword).length) (backTo pos (starEach es env)) (backToKw pos (keywordEach [] env)) = true:=by
  unfold methodCallForm
  have h1 : (backTo pos (starEach es env)).all (fun x => !x.1) = true:=by
    have:=any_star (pos:=pos) (env:=env) h
    rw [List.all_eq_not_any_not]
    simpa using this
  have h2:=Nat.le_of_ble_eq_true hl
  rw [h1]
  show (true && true && decide (es.length + 0 + 0 < 30)) = true
  have h3 : es.length + 0 + 0 < 30:=h2
  rw [decide_eq_true h3]; rfl
end
end
end Mine
end
section
set_option backward.match.sparseCases false
namespace Mine
noncomputable section
section
theorem ifTr {P Q : Prop} (h : P) : (true = true → P) ∧ (true = false → Q):=⟨fun Z => h,fun e => Bool.noConfusion e⟩
theorem ifFa {P Q : Prop} (h : Q) : (false = true → P) ∧ (false = false → Q):=⟨fun e => Bool.noConfusion e,fun Z => h⟩
theorem Stuck.no {α : Sort _} {k : Nat} {a : α} {P : Prop} (h : Stuck k a) : P:=nomatch h
set_option genInjectivity false in
set_option genSizeOf false in
structure Gen where
  ι : Type
  P : ι → Prop
  out : ι → V × Sto
structure FnGe (c : Cx) (σ : Sto) (f : Value) (ds : List V) (A : Gen) : Prop where
  run : ∀ c',c.Same c' → ∀ (ρ : Vars) (Q : V → Sto → Prop),(∀ i,A.P i → Q (A.out i).1 (A.out i).2) → WC c' f ds ρ σ Q
structure GmTo (c : Cx) (σ : Sto) (m : Str) (o : V) (f : Value) : Prop where
  run : ∀ c',c.Same c' → ∀ ρ,GM c' m o f ρ σ
set_option genInjectivity false in
set_option genSizeOf false in
structure Orc where
  pos : List (Nat × Nat):=[]
  meths : List (Nat × Value × V × Option Sto):=[]
  gmeths : List (Nat × Value × Gen):=[]
  calls : List (Nat × V × Option Sto):=[]
  news : List (Nat × Gen):=[]
  exprs : List (Nat × V × Option Sto):=[]
  ops : List (Nat × V):=[]
  tests : List (Nat × Bool):=[]
  muts : List Nat:=[]
  sets : List (Nat × Sto):=[]
  stops : List Nat:=[]
noncomputable def tstV (O : Orc) (k : Nat) (b : Bool) (K : Bool → Prop) : Prop:=alt (lk O.tests k) (fun t => b = t ∧ K t) (K b)
noncomputable def truV (O : Orc) (k : Nat) (d : V) (K : Bool → Prop) : Prop:=alt d.bool? (fun b => tstV O k b K) (alt d.int? (fun a => tstV O k (a != 0) K) (yesS k d (isNil d) (K false)))
inductive Truth : V → Bool → Prop
  | b {b : Bool} : Truth (.bool b) b
  | i {a : Int} : Truth (.int a) (a != 0)
  | n : Truth .none false
theorem tstV_out {O : Orc} {k : Nat} {b : Bool} {K : Bool → Prop} (h : tstV O k b K) : K b:=by
  rcases alt_out h with ⟨t,_,e,h⟩ | h
  · exact e ▸ h
  · exact h
theorem truV_out {O : Orc} {k : Nat} {d : V} {K : Bool → Prop} (h : truV O k d K) : Got (Truth d) K:=by
  rcases alt_out h with ⟨b,e,h⟩ | h
  · exact ⟨b,bool?_eq e ▸ .b,tstV_out h⟩
  · rcases alt_out h with ⟨a,e,h⟩ | h
    · exact ⟨_,int?_eq e ▸ .i,tstV_out h⟩
    · obtain ⟨e,h⟩:=yesS_out h
      exact ⟨_,isNil_eq e ▸ .n,h⟩
theorem Truth.sound {c : Cx} {ρ : Vars} {σ : Sto} {d : V} {b : Bool} {K : Bool → Sto → Prop} (t : Truth d b) (h : K b σ) : W1B c truthy d ρ σ K:=by
  cases t with
  | b => exact tBool h
  | i => exact tInt h
  | n => exact tNone h
noncomputable def Out (o : Option Sto) (σ : Sto) : Sto:=match o with | some σ' => σ' | none => σ
noncomputable abbrev Rec:=Bool → Expr → Sto → (V → Sto → Prop) → Prop
noncomputable def evL (r : Rec) : List Expr → Sto → (List V → Sto → Prop) → Prop
  | [],σ,K => K [] σ
  | e :: es,σ,K => yes (noStar e) (r false e σ fun d σ₁ => evL r es σ₁ fun ds σ₂ => K (d :: ds) σ₂)
noncomputable def evBs (r : Rec) (op : BoolOp) : List Expr → Sto → (V → Sto → Prop) → Prop
  | [],σ,K => (match op with | .And => K (.bool true) σ | .Or => K (.bool false) σ)
  | e :: es,σ,K => r true e σ fun d σ₁ => on 0 d d.bool? fun b => (match op with
    | .And => fork b (evBs r op es σ₁ K) (K (.bool false) σ₁)
    | .Or => fork b (K (.bool true) σ₁) (evBs r op es σ₁ K))
noncomputable def fget : List (Str × V) → Str → Option V
  | [],_ => none
  | p :: r,x => bif x == p.1 then some p.2 else fget r x
theorem fget_mem {x : Str} {d : V} : ∀ {fs : List (Str × V)},fget fs x = some d → (x,d) ∈ fs
  | [],h => none_ne h
  | (y,e) :: r,h => by
    unfold fget at h
    cases q : x == y with
    | true =>
      rw [q] at h
      obtain rfl : x = y:=beq_iff_eq.mp q
      exact Option.some.inj h ▸ .head _
    | false => rw [q] at h; exact .tail _ (fget_mem h)
noncomputable def raw? : V → Option Value
  | .raw v => some v
  | _ => none
theorem raw?_eq {d : V} {x : Value} (h : raw? d = some x) : d = .raw x:=by cases d <;> first | (cases h; rfl) | exact none_ne h
noncomputable def atP (σ : Sto) (i : Nat) (d : V) (F : Addr → MO → Prop) : Prop:=on i d (raw? d) fun v => on i d σ[i]? fun p => v = .ref p.1 ∧ F p.1 p.2
inductive AtP (σ : Sto) (i : Nat) (F : Addr → MO → Prop) : V → Prop
  | mk {a : Addr} {mo : MO} (e : σ[i]? = some (a,mo)) (h : F a mo) : AtP σ i F (.raw (.ref a))
theorem atP_out {σ : Sto} {i : Nat} {d : V} {F : Addr → MO → Prop} (h : atP σ i d F) : AtP σ i F d:=by
  obtain ⟨v,e,h⟩:=on_out h
  obtain ⟨p,e2,h⟩:=on_out h
  exact raw?_eq e ▸ h.1 ▸ .mk e2 h.2
theorem sto_split {σ : Sto} {i : Nat} {p : Addr × MO} (h : σ[i]? = some p) : σ = σ.take i ++ p :: σ.drop (i + 1) ∧ ∀ q,σ.set i q = σ.take i ++ q :: σ.drop (i + 1):=by
  obtain ⟨hl,rfl⟩:=List.getElem?_eq_some_iff.mp h
  refine ⟨?_,fun q => List.set_eq_take_append_cons_drop.trans (if_pos hl)⟩
  rw [List.getElem_cons_drop,List.take_append_drop]
noncomputable def listM : MO → Option (List V)
  | .list ds => some ds
  | .glist ds => some ds
  | _ => none
theorem listM_rd {σ : Sto} {i : Nat} {a : Addr} {mo : MO} {ds : List V} (h : listM mo = some ds) (e : σ[i]? = some (a,mo)) : LRd σ (.raw (.ref a)) ds:=by
  have hm:=List.mem_of_getElem? e
  cases mo with
  | list _ => exact Option.some.inj h ▸ .chg hm
  | glist _ => exact Option.some.inj h ▸ .gchg hm
  | dict _ => exact none_ne h
  | inst _ _ => exact none_ne h
noncomputable def dictM : MO → Option (List (Int × V))
  | .dict es => some es
  | _ => none
theorem dictM_eq {mo : MO} {es : List (Int × V)} (h : dictM mo = some es) : mo = .dict es:=by cases mo <;> first | (cases h; rfl) | exact none_ne h
noncomputable def instM : MO → Option (Addr × List (Str × V))
  | .inst C fs => some (C,fs)
  | _ => none
theorem instM_eq {mo : MO} {x : Addr × List (Str × V)} (h : instM mo = some x) : mo = .inst x.1 x.2:=by cases mo <;> first | (cases h; rfl) | exact none_ne h
noncomputable def exactM : MO → Option (List V)
  | .list ds => some ds
  | _ => none
theorem exactM_eq {mo : MO} {ds : List V} (h : exactM mo = some ds) : mo = .list ds:=by cases mo <;> first | (cases h; rfl) | exact none_ne h
noncomputable def pItem (i : Nat) (a b : V) (σ : Sto) (K : V → Sto → Prop) : Prop:=on 6 b b.int? fun k => atP σ i a fun Z mo => alt (listM mo)
  (fun ds => yes (decide (0 ≤ k) && decide (k < 2 ^ 63)) (on 3 k ds[k.toNat]? fun d => K d σ))
  (on 4 k (dictM mo) fun es => on 5 k (dget es k) fun d => K d σ)
noncomputable def itemV (c : Cx) (O : Orc) (k : Nat) (a b : V) (σ : Sto) (K : V → Sto → Prop) : Prop:=alt (lk O.ops k) (fun d => ItTo c σ a b d ∧ K d σ)
  (alt (lk O.pos k) (fun i => pItem i a b σ K) (on k (a,b) (getV a b) fun d => K d σ))
noncomputable def obj? : V → Option (Addr × List (Str × V))
  | .obj C fs => some (C,fs)
  | _ => none
theorem obj?_eq {d : V} {x : Addr × List (Str × V)} (h : obj? d = some x) : d = .obj x.1 x.2:=by cases d <;> first | (cases h; rfl) | exact none_ne h
noncomputable def fldV (c : Cx) (k : Nat) (a : V) (x : Str) (o : Addr × List (Str × V)) (F : V → Prop) : Prop:=on k (a,x) (fget o.2 x) fun d => yes d.notB (AttrOf c.K o.1 x ∧ F d)
noncomputable def attrV (c : Cx) (O : Orc) (k : Nat) (a : V) (x : Str) (σ : Sto) (K : V → Sto → Prop) : Prop:=alt (lk O.ops k) (fun d => AtTo c σ a x d ∧ K d σ)
  (alt (obj? a) (fun o => fldV c k a x o fun d => K d σ)
    (on k (a,x) (lk O.pos k) fun i => atP σ i a fun Z mo => on k (a,x) (instM mo) fun o => fldV c k a x o fun d => K d σ))
noncomputable def compV (c : Cx) (O : Orc) (k : Nat) (op : CmpOp) (a b : V) (σ : Sto) (K : V → Sto → Prop) : Prop:=alt (lk O.ops k) (fun d => CmTo c σ op a b d ∧ K d σ) (on k (a,b) (inV op a b) fun d => K d σ)
noncomputable def constV : Const → Option V
  | .none => some .none
  | .bool b => some (.bool b)
  | .int i => some (.int i)
  | .str s => some (.str s)
  | _ => Option.none
noncomputable def intK : Const → Option Int
  | .int i => some i
  | _ => none
theorem intK_eq {k : Const} {i : Int} (h : intK k = some i) : k = .int i:=by cases k <;> first | (cases h; rfl) | exact none_ne h
noncomputable def intE : Expr → Option Int
  | .Constant k _ _ => intK k
  | _ => none
noncomputable def lowOf : Expr → Option (Option Expr × Option Expr × Option Expr)
  | .Slice a b c _ => some (a,b,c)
  | _ => none
inductive Low (x : Option Expr × Option Expr × Option Expr) : Expr → Prop
  | mk {p : Pos} : Low x (.Slice x.1 x.2.1 x.2.2 p)
theorem lowOf_eq {e : Expr} {x : Option Expr × Option Expr × Option Expr} (h : lowOf e = some x) : Low x e:=by cases e <;> first | exact none_ne h | exact Option.some.inj h ▸ .mk
theorem constV_eq {k : Const} {d : V} {c : Cx} {ρ : Vars} {σ : Sto} {n : Nat} {pos : Pos} {Q : V → Sto → Prop} (h : constV k = some d) (q : Q d σ) : WT c (eval (.Constant k n pos) c.env) ρ σ Q:=by
  have q : ∀ e,some e = some d → Q e σ:=fun e he => some_sub (P:=(Q · σ)) he q
  cases k <;> first | exact none_ne h | skip
  · exact wNone (q _ h)
  · exact wBool (q _ h)
  · exact wInt (q _ h)
  · exact wStr (q _ h)
inductive IntE (i : Int) : Expr → Prop
  | mk {n : Nat} {p : Pos} : IntE i (.Constant (.int i) n p)
theorem intE_eq {e : Expr} {i : Int} (h : intE e = some i) : IntE i e:=by
  cases e <;> first | exact none_ne h | exact intK_eq h ▸ .mk
noncomputable def one? {α : Type} : List α → Option α
  | [] => none
  | a :: r => (match r with | [] => some a | _ :: _ => none)
theorem one?_eq {α : Type} {l : List α} {a : α} (h : one? l = some a) : l = [a]:=by
  cases l with
  | nil => exact none_ne h
  | cons b r => cases r with
    | nil => cases h; rfl
    | cons c r => exact none_ne h
noncomputable def two? {α : Type} : List α → Option (α × α)
  | [] => none
  | a :: r => (one? r).map fun b => (a,b)
theorem two?_eq {α : Type} {l : List α} {a : α × α} (h : two? l = some a) : l = [a.1,a.2]:=by
  cases l with
  | nil => exact none_ne h
  | cons b r =>
    obtain ⟨x,e,rfl⟩:=Option.map_eq_some_iff.mp h
    rw [one?_eq e]
noncomputable def cutV (O : Orc) (v s : Expr) (pos : Pos) (r : Rec) (σ : Sto) (K : V → Sto → Prop) (x : Option Expr × Option Expr × Option Expr) : Prop:=on (key pos) pos x.1 fun lo => on (key pos) pos (intE lo) fun i =>
  yesS (key pos) pos (decide (1 ≤ i) && (nameE v && (x.2.1.isNone && x.2.2.isNone))) (r false v σ fun a σ₁ => on (key pos) a a.tup? fun ds =>
    yes (Nat.ble i.toNat ds.length && Nat.ble ds.length 1000) (K (.tup (ds.drop i.toNat)) σ₁))
noncomputable def pApp (i : Nat) (a : V) (args : List Expr) (r : Rec) (σ : Sto) (K : V → Sto → Prop) : Prop:=atP σ i a fun x mo => on 7 a (exactM mo) fun Z => evL r args σ fun ds σ₂ => on 7 a (one? ds) fun d =>
  atP σ₂ i a fun x mo => on 7 a (exactM mo) fun es => es.length ≤ sizeLine ∧ K .none (σ₂.set i (x,.list (es ++ [d])))
noncomputable def pPop (i : Nat) (a : V) (σ : Sto) (K : V → Sto → Prop) : Prop:=atP σ i a fun x mo => on 8 a (exactM mo) fun es => on 8 a es.getLast? fun d => es.length ≤ sizeLine ∧ K d (σ.set i (x,.list es.dropLast))
noncomputable def pMeth (i : Nat) (m : Str) (a : V) (args : List Expr) (r : Rec) (σ : Sto) (K : V → Sto → Prop) : Prop:=match m == "append" with
  | true => pApp i a args r σ K
  | false => yesS 9 (m,a) (m == "pop" && args.isEmpty) (pPop i a σ K)
noncomputable def callN (c : Cx) (O : Orc) (ρ : Vars) (r : Rec) (x : Str) (args : List Expr) (pos : Pos) (σ : Sto) (K : V → Sto → Prop) : Prop:=on (key pos) x (lookV ρ x) fun d => on (key pos) x (raw? d) fun v => Callable c v ∧ evL r args σ fun ds σ₁ =>
  alt (lk O.calls (key pos)) (fun d => FnTo c σ₁ v ds d.1 (Out d.2 σ₁) ∧ K d.1 (Out d.2 σ₁))
    (on (key pos) (x,ds) (lk O.news (key pos)) fun A => FnGe c σ₁ v ds A ∧ ∀ i,A.P i → K (A.out i).1 (A.out i).2)
noncomputable def callM (c : Cx) (O : Orc) (r : Rec) (o : Expr) (x : Str) (p : Pos) (args : List Expr) (pos : Pos) (σ : Sto) (K : V → Sto → Prop) : Prop:=yesS (key pos) pos (baseE o && (p.endLine == pos.line) && Nat.blt args.length 30) (r false o σ fun a σ₁ =>
  alt (lk O.meths (key pos)) (fun m => GmTo c σ₁ x a m.1 ∧ evL r args σ₁ fun ds σ₂ => FnTo c σ₂ m.1 (a :: ds) m.2.1 (Out m.2.2 σ₂) ∧ K m.2.1 (Out m.2.2 σ₂))
    (alt (lk O.gmeths (key pos)) (fun m => GmTo c σ₁ x a m.1 ∧ evL r args σ₁ fun ds σ₂ => FnGe c σ₂ m.1 (a :: ds) m.2 ∧ ∀ i,m.2.P i → K (m.2.out i).1 (m.2.out i).2)
      (on (key pos) (x,a) (lk O.pos (key pos)) fun i => pMeth i x a args r σ₁ K)))
noncomputable def callV (c : Cx) (O : Orc) (ρ : Vars) (r : Rec) (f : Expr) (args : List Expr) (pos : Pos) (σ : Sto) (K : V → Sto → Prop) : Prop:=match f with
  | .Name x _ => callN c O ρ r x args pos σ K
  | .Attribute o x p => callM c O r o x p args pos σ K
  | _ => Stuck (key pos) pos
noncomputable def evLst (O : Orc) (r : Rec) (es : List Expr) (pos : Pos) (σ : Sto) (K : V → Sto → Prop) : Prop:=match has O.muts (key pos) with
  | true => evL r es σ fun ds σ' => yes (Nat.ble ds.length 1000) (∀ a,K (.raw (.ref a)) ((a,.list ds) :: σ'))
  | false => evL r es σ fun ds σ' => yes (Nat.ble ds.length 1000) (K (.list ds) σ')
noncomputable def evDct (O : Orc) (ks : List (Option Expr)) (vs : List Expr) (pos : Pos) (σ : Sto) (K : V → Sto → Prop) : Prop:=yesS (key pos) pos (ks.isEmpty && vs.isEmpty) (match has O.muts (key pos) with | true => ∀ a,K (.raw (.ref a)) ((a,.dict []) :: σ) | false => K (.dict []) σ)
noncomputable def evSub (c : Cx) (O : Orc) (r : Rec) (v s : Expr) (pos : Pos) (σ : Sto) (K : V → Sto → Prop) : Prop:=alt (lowOf s) (fun x => cutV O v s pos r σ K x) (yes (idxE s) (r false v σ fun a σ₁ => r false s σ₁ fun b σ₂ => itemV c O (key pos) a b σ₂ K))
noncomputable def evCm1 (c : Cx) (O : Orc) (r : Rec) (l : Expr) (op : CmpOp) (rs : List Expr) (pos : Pos) (σ : Sto) (K : V → Sto → Prop) : Prop:=on (key pos) pos (one? rs) fun r1 => yes (notSet r1) (r false l σ fun a σ₁ => r false r1 σ₁ fun b σ₂ => compV c O (key pos) op a b σ₂ K)
noncomputable def evCm2 (O : Orc) (r : Rec) (l : Expr) (op : CmpOp × CmpOp) (rs : List Expr) (pos : Pos) (σ : Sto) (K : V → Sto → Prop) : Prop:=on (key pos) pos (two? rs) fun q => yes (notSet q.2) (r false l σ fun a σ₁ => r false q.1 σ₁ fun b σ₂ => on (key pos) (a,b) (inV op.1 a b) fun d => truV O (key pos) d fun t =>
  fork t (r false q.2 σ₂ fun e σ₃ => on (key pos) (b,e) (inV op.2 b e) fun d => K d σ₃) (K d σ₂))
noncomputable def evCmp (c : Cx) (O : Orc) (r : Rec) (l : Expr) (ops : List CmpOp) (rs : List Expr) (pos : Pos) (σ : Sto) (K : V → Sto → Prop) : Prop:=alt (one? ops) (fun op => evCm1 c O r l op rs pos σ K) (on (key pos) pos (two? ops) fun op => evCm2 O r l op rs pos σ K)
noncomputable def evBin (c : Cx) (O : Orc) (r : Rec) (l : Expr) (op : Operator) (r1 : Expr) (pos : Pos) (σ : Sto) (K : V → Sto → Prop) : Prop:=r false l σ fun a σ₁ => r false r1 σ₁ fun b σ₂ => alt (lk O.ops (key pos)) (fun d => BiTo c σ₂ op a b d ∧ K d σ₂) (on (key pos) (a,b) (binV op a b) fun d => K d σ₂)
noncomputable def unaV (O : Orc) (op : UnaryOp) (pos : Pos) (a : V) (σ : Sto) (K : V → Sto → Prop) : Prop:=match op with
  | .Not => truV O (key pos) a fun b => K (.bool !b) σ
  | .USub => on (key pos) a a.int? fun i => K (.int (-i)) σ
  | .Invert => False
  | .UAdd => False
noncomputable def boV (O : Orc) (r : Rec) (op : BoolOp) (y : Expr) (pos : Pos) (a : V) (σ : Sto) (K : V → Sto → Prop) : Prop:=truV O (key pos) a fun b => (match op with
  | .And => fork b (r false y σ K) (K a σ)
  | .Or => fork b (K a σ) (r false y σ K))
noncomputable def evE (c : Cx) (O : Orc) (ρ : Vars) (r : Rec) (e : Expr) (σ : Sto) (K : V → Sto → Prop) : Prop:=match e with
  | .Name x pos => on (key pos) x (lookV ρ x) fun d => K d σ
  | .Constant k _ pos => on (key pos) pos (constV k) fun d => K d σ
  | .Tuple es _ pos => evL r es σ fun ds σ' => yes (Nat.ble ds.length 1000) (K (.tup ds) σ')
  | .List es pos => evLst O r es pos σ K
  | .Dict ks vs pos => evDct O ks vs pos σ K
  | .Subscript v s pos => evSub c O r v s pos σ K
  | .Attribute o x pos => yesS (key pos) pos (baseE o) (r false o σ fun a σ₁ => attrV c O (key pos) a x σ₁ K)
  | .Call f args kws pos => yesS (key pos) pos (kws.isEmpty && args.all noStar) (callV c O ρ r f args pos σ K)
  | .Compare l ops rs pos => evCmp c O r l ops rs pos σ K
  | .BinOp l op r1 pos => evBin c O r l op r1 pos σ K
  | .UnaryOp op x pos => r false x σ fun a σ₁ => unaV O op pos a σ₁ K
  | .IfExp t x y pos => r true t σ fun d σ₁ => on (key pos) d d.bool? fun b => fork b (r false x σ₁ K) (r false y σ₁ K)
  | .BoolOp op es pos => on (key pos) pos (two? es) fun q => r false q.1 σ fun a σ₁ => boV O r op q.2 pos a σ₁ K
  | e => Stuck (key e.pos) e
noncomputable def evV (c : Cx) (O : Orc) (ρ : Vars) (r : Rec) (e : Expr) (σ : Sto) (K : V → Sto → Prop) : Prop:=alt (lk O.exprs (key e.pos)) (fun x => ExTo c ρ σ e x.1 (Out x.2 σ) ∧ K x.1 (Out x.2 σ)) (evE c O ρ r e σ K)
noncomputable def evP (O : Orc) (r : Rec) (e : Expr) (σ : Sto) (K : V → Sto → Prop) : Prop:=yesS (key e.pos) e (plainE e) (r false e σ fun d σ' => truV O (key e.pos) d fun b => K (.bool b) σ')
noncomputable def isNot : UnaryOp → Bool
  | .Not => true
  | _ => false
noncomputable def evT (c : Cx) (O : Orc) (ρ : Vars) (r : Rec) (e : Expr) (σ : Sto) (K : V → Sto → Prop) : Prop:=match e with
  | .UnaryOp op x pos => yes (isNot op) (r true x σ fun d σ' => on (key pos) d d.bool? fun b => K (.bool !b) σ')
  | .BoolOp op es _ => evBs r op es σ K
  | .Compare l ops rs pos => on (key pos) pos (one? ops) fun op => evCm1 c O r l op rs pos σ fun d σ₃ => truV O (key pos) d fun t => K (.bool t) σ₃
  | e => evP O r e σ K
noncomputable def ev (c : Cx) (O : Orc) (ρ : Vars) : Nat → Rec
  | 0 => fun Z Z Z Z => False
  | n + 1 => fun m => match m with
    | false => evV c O ρ (ev c O ρ n)
    | true => evT c O ρ (ev c O ρ n)

structure Sound (c : Cx) (ρ : Vars) (r : Rec) : Prop where
  v : ∀ {e σ K},r false e σ K → ∀ {c'},c.Same c' → WT c' (eval e c'.env) ρ σ K
  t : ∀ {e σ K},r true e σ K → ∀ {c'},c.Same c' → WB c' (isTrue e c'.env (eval e c'.env)) ρ σ fun b σ' => K (.bool b) σ'
theorem WB.mono {c : Cx} {t : Sem Bool} {ρ : Vars} {σ : Sto} {Q Q' : Bool → Sto → Prop} (h : WB c t ρ σ Q) (k : ∀ d σ',Q d σ' → Q' d σ') : WB c t ρ σ Q' :=
  fun τ s R x hR => h τ s R x fun v σ' s' q => hR v σ' s' (k v σ' q)
theorem WL.mono {c : Cx} {t : Sem (List Value)} {ρ : Vars} {σ : Sto} {Q Q' : List V → Sto → Prop} (h : WL c t ρ σ Q) (k : ∀ d σ',Q d σ' → Q' d σ') : WL c t ρ σ Q' :=
  fun τ s R x hR => h τ s R x fun v ds σ' s' q => hR v ds σ' s' (k ds σ' q)
section
variable {c c' : Cx} {O : Orc} {ρ : Vars} {r : Rec} {σ : Sto}
theorem evL_sound (S : Sound c ρ r) (hc : c.Same c') {pos : Pos} : ∀ {es : List Expr} {σ : Sto} {K : List V → Sto → Prop},evL r es σ K → WL c' (spliced (backTo pos (starEach es c'.env))) ρ σ K
  | [],σ,K,h => lNil h
  | e :: es,σ,K,h => by
    obtain ⟨hs,h⟩:=yes_out h
    exact lCons ((S.v h hc).mono fun d σ₁ h => evL_sound S hc h) (star_cons hs _ _)
theorem evBs_sound (S : Sound c ρ r) (hc : c.Same c') {op : BoolOp} : ∀ {es : List Expr} {σ : Sto} {K : V → Sto → Prop},evBs r op es σ K → WB c' (allTrue op es c'.env) ρ σ fun b σ' => K (.bool b) σ'
  | [],σ,K,h => by
    cases op with
    | And => exact bAndNil h
    | Or => exact bOrNil h
  | e :: es,σ,K,h => by
    have h1:=S.t h hc
    cases op with
    | And =>
      refine bAnd (h1.mono fun b σ₁ h => ?_)
      cases b with
      | true => exact ifTr (evBs_sound S hc h)
      | false => exact ifFa h
    | Or =>
      refine bOr (h1.mono fun b σ₁ h => ?_)
      cases b with
      | false => exact ifFa (evBs_sound S hc h)
      | true => exact ifTr h
variable {K : V → Sto → Prop}
theorem pItem_out {i : Nat} {a b : V} (h : pItem i a b σ K) : Got (ItTo c σ a b) (K · σ):=by
  obtain ⟨k,e,g⟩:=on_out h
  obtain rfl:=int?_eq e
  obtain ⟨e1,g1⟩:=atP_out g
  rcases alt_out g1 with ⟨ds,e2,h⟩ | h
  · obtain ⟨hb,h⟩:=yes_out h
    rw [Bool.and_eq_true] at hb
    obtain ⟨d,e3,h⟩:=on_out h
    exact ⟨d,⟨fun v s hs c' hc ρ Q q => gListM (listM_rd e2 e1) (of_decide_eq_true hb.1) (of_decide_eq_true hb.2) e3 hs q⟩,h⟩
  · obtain ⟨es,e2,g2⟩:=on_out h
    obtain ⟨d,e3,g3⟩:=on_out g2
    obtain rfl:=dictM_eq e2
    exact ⟨d,⟨fun v s hs c' hc ρ Q q => gDict (.chg (List.mem_of_getElem? e1)) e3 hs q⟩,g3⟩
theorem itemV_out {k : Nat} {a b : V} (h : itemV c O k a b σ K) : Got (ItTo c σ a b) (K · σ):=by
  rcases alt_out h with ⟨d,_,h⟩ | h
  · exact ⟨d,h.1,h.2⟩
  · rcases alt_out h with ⟨i,_,h⟩ | h
    · exact pItem_out h
    · obtain ⟨d,e,h⟩:=on_out h
      exact ⟨d,⟨fun v s hs c' hc ρ Q q => getV_sound hs e q⟩,h⟩
inductive Fld (c : Cx) (x : Str) (o : Addr × List (Str × V)) (F : V → Prop) : Prop
  | mk (d : V) (m : (x,d) ∈ o.2) (b : d.notB = true) (h : AttrOf c.K o.1 x) (q : F d)
theorem fldV_out {k : Nat} {a : V} {x : Str} {o : Addr × List (Str × V)} {F : V → Prop} (h : fldV c k a x o F) : Fld c x o F:=by
  obtain ⟨d,e,h⟩:=on_out h
  obtain ⟨hb,h⟩:=yes_out h
  exact ⟨d,fget_mem e,hb,h.1,h.2⟩
theorem attrV_out {k : Nat} {a : V} {x : Str} (h : attrV c O k a x σ K) : Got (AtTo c σ a x) (K · σ):=by
  rcases alt_out h with ⟨d,_,h⟩ | h
  · exact ⟨d,h.1,h.2⟩
  · rcases alt_out h with ⟨o,e,h⟩ | h
    · obtain rfl:=obj?_eq e
      obtain ⟨d,m,b,g,h⟩:=fldV_out h
      exact ⟨d,⟨fun c' hc ρ Q q => getAttrObj (hc.K ▸ g) m b q⟩,h⟩
    · obtain ⟨i,_,h⟩:=on_out h
      obtain ⟨e1,h⟩:=atP_out h
      obtain ⟨o,e,h⟩:=on_out h
      obtain rfl:=instM_eq e
      obtain ⟨d,m,b,g,h⟩:=fldV_out h
      exact ⟨d,⟨fun c' hc ρ Q q => getAttrInst (hc.K ▸ g) (List.mem_of_getElem? e1) m b q⟩,h⟩
theorem compV_out {k : Nat} {op : CmpOp} {a b : V} (h : compV c O k op a b σ K) : Got (CmTo c σ op a b) (K · σ):=by
  rcases alt_out h with ⟨d,_,h⟩ | h
  · exact ⟨d,h.1,h.2⟩
  · obtain ⟨d,e,h⟩:=on_out h
    exact ⟨d,⟨fun c' hc ρ Q q => inV_sound e q⟩,h⟩
theorem cbSame (hc : c.Same c') {f : Value} (h : Callable c f) : Callable c' f:=fun M hp X => h M hp (hc.K ▸ X)
theorem evP_sound (S : Sound c ρ r) (hc : c.Same c') {e : Expr} (h : evP O r e σ K) : WB c' (isTrue e c'.env (eval e c'.env)) ρ σ fun b σ' => K (.bool b) σ':=by
  obtain ⟨hp,h⟩:=yesS_out h
  refine bPlain (plain_isTrue hp _ _) ((S.v h hc).mono fun d σ' h => ?_)
  obtain ⟨b,t,h⟩:=truV_out h
  exact t.sound h
theorem evT_sound (S : Sound c ρ r) (hc : c.Same c') {e : Expr} (h : evT c O ρ r e σ K) : WB c' (isTrue e c'.env (eval e c'.env)) ρ σ fun b σ' => K (.bool b) σ':=by
  cases e <;> first | exact evP_sound S hc h | skip
  · exact bAll (evBs_sound S hc h)
  · rename_i op x pos
    cases op <;> first | exact bNot ((S.t h hc).mono fun b σ' h => h) | exact False.elim h
  · obtain ⟨op,e1,g1⟩:=on_out h
    obtain ⟨r1,e2,g2⟩:=on_out g1
    obtain ⟨hn,g⟩:=yes_out g2
    obtain rfl:=one?_eq e1
    obtain rfl:=one?_eq e2
    refine bCmp (notSet_marks hn _) ((S.v g hc).mono fun a σ₁ h => (S.v h hc).mono fun b σ₂ h => ?_)
    obtain ⟨d,q,h⟩:=compV_out h
    obtain ⟨t,q2,h⟩:=truV_out h
    exact q.run c' hc ρ _ (q2.sound h)
variable {pos : Pos}
inductive GmW (c' : Cx) (m : Str) (a : V) (args : List Expr) (pos : Pos) (ρ : Vars) (σ : Sto) (K : V → Sto → Prop) : Prop
  | mk (f : Value) (g : GM c' m a f ρ σ) (h : WL c' (spliced (backTo pos (starEach args c'.env))) ρ σ fun ds σ₂ => WC c' f (a :: ds) ρ σ₂ K)
theorem pApp_in {i : Nat} {a : V} {ds : List V} (h : on 7 a (one? ds) fun d => atP σ i a fun x mo => on 7 a (exactM mo) fun es => es.length ≤ sizeLine ∧ K .none (σ.set i (x,.list (es ++ [d])))) : WC c' (.builtin "list.append") (a :: ds) ρ σ K:=by
  obtain ⟨d,e3,g⟩:=on_out h
  obtain rfl:=one?_eq e3
  obtain ⟨e5,g1⟩:=atP_out g
  obtain ⟨es,e6,g2⟩:=on_out g1
  obtain rfl:=exactM_eq e6
  obtain ⟨q1,q2⟩:=sto_split e5
  rw [q1]
  refine mAppend g2.1 ?_
  rw [← q2]; exact g2.2
theorem pApp_sound (S : Sound c ρ r) (hc : c.Same c') {i : Nat} {a : V} {args : List Expr} (h : pApp i a args r σ K) : GmW c' "append" a args pos ρ σ K:=by
  obtain ⟨e1,g⟩:=atP_out h
  obtain ⟨es,e2,g1⟩:=on_out g
  obtain rfl:=exactM_eq e2
  obtain ⟨f,g,w⟩:=gmAppend (P:=fun f => WL c' (spliced (backTo pos (starEach args c'.env))) ρ σ fun ds σ₂ => WC c' f (.raw (.ref _) :: ds) ρ σ₂ K) (List.mem_of_getElem? e1) ((evL_sound S hc g1).mono fun ds σ₂ h => pApp_in h)
  exact ⟨f,g,w⟩
theorem last_split {es : List V} {d : V} (h : es.getLast? = some d) : es = es.dropLast ++ [d]:=by
  have hne : es ≠ []:=fun q => none_ne (by rw [q] at h; exact h)
  rw [List.getLast?_eq_some_getLast hne] at h
  have e:=List.dropLast_concat_getLast hne
  rw [Option.some.inj h] at e
  exact e.symm
theorem pPop_sound {i : Nat} {a : V} (h : pPop i a σ K) : GmW c' "pop" a [] pos ρ σ K:=by
  obtain @⟨x,mo,e1,g1⟩:=atP_out h
  obtain ⟨es,e2,g2⟩:=on_out g1
  obtain ⟨d,e3,g⟩:=on_out g2
  obtain rfl:=exactM_eq e2
  have hes:=last_split e3
  obtain ⟨q1,q2⟩:=sto_split e1
  have w : WC c' (.builtin "list.pop") [.raw (.ref x)] ρ σ K:=by
    rw [q1,hes]
    refine mPop (by have:=g.1; rw [hes,List.length_append] at this; exact this) ?_
    rw [← q2]; exact g.2
  obtain ⟨f,g,w⟩:=gmPopL (c:=c') (ρ:=ρ) (P:=fun f => WC c' f [.raw (.ref x)] ρ σ K) (List.mem_of_getElem? e1) w
  exact ⟨f,g,lNil w⟩
theorem pMeth_sound (S : Sound c ρ r) (hc : c.Same c') {i : Nat} {m : Str} {a : V} {args : List Expr} (h : pMeth i m a args r σ K) : GmW c' m a args pos ρ σ K:=by
  unfold pMeth at h
  cases e : m == "append" with
  | true => rw [e] at h; rw [beq_iff_eq.mp e]; exact pApp_sound S hc h
  | false =>
    rw [e] at h
    obtain ⟨e,h⟩:=yesS_out h
    rw [Bool.and_eq_true,List.isEmpty_iff] at e
    rw [beq_iff_eq.mp e.1,e.2]
    exact pPop_sound h
theorem callN_sound (S : Sound c ρ r) (hc : c.Same c') {x : Str} {p : Pos} {args : List Expr} (hs : args.all noStar = true) (h : callN c O ρ r x args pos σ K) : WT c' (eval (.Call (.Name x p) args [] pos) c'.env) ρ σ K:=by
  obtain ⟨d,hl,h⟩:=on_out h
  obtain ⟨v,e2,h⟩:=on_out h
  obtain rfl:=raw?_eq e2
  refine wCall (lookV_loads hl) (cbSame hc h.1) (any_star hs) ((evL_sound S hc h.2).mono fun ds σ₁ h => ?_)
  rcases alt_out h with ⟨d,_,h⟩ | h
  · exact h.1.run c' hc ρ K h.2
  · obtain ⟨A,_,h⟩:=on_out h
    exact h.1.run c' hc ρ K h.2
theorem callM_in (S : Sound c ρ r) (hc : c.Same c') {x : Str} {a : V} {args : List Expr} (h : alt (lk O.meths (key pos)) (fun m => GmTo c σ x a m.1 ∧ evL r args σ fun ds σ₂ => FnTo c σ₂ m.1 (a :: ds) m.2.1 (Out m.2.2 σ₂) ∧ K m.2.1 (Out m.2.2 σ₂))
    (alt (lk O.gmeths (key pos)) (fun m => GmTo c σ x a m.1 ∧ evL r args σ fun ds σ₂ => FnGe c σ₂ m.1 (a :: ds) m.2 ∧ ∀ i,m.2.P i → K (m.2.out i).1 (m.2.out i).2)
      (on (key pos) (x,a) (lk O.pos (key pos)) fun i => pMeth i x a args r σ K))) : GmW c' x a args pos ρ σ K:=by
  rcases alt_out h with ⟨m,_,h⟩ | h
  · exact ⟨m.1,h.1.run c' hc ρ,(evL_sound S hc h.2).mono fun ds σ₂ h => h.1.run c' hc ρ K h.2⟩
  · rcases alt_out h with ⟨m,_,h⟩ | h
    · exact ⟨m.1,h.1.run c' hc ρ,(evL_sound S hc h.2).mono fun ds σ₂ h => h.1.run c' hc ρ K h.2⟩
    · obtain ⟨i,_,h⟩:=on_out h
      exact pMeth_sound S hc h
theorem callM_sound (S : Sound c ρ r) (hc : c.Same c') {o : Expr} {x : Str} {p : Pos} {args : List Expr} (hs : args.all noStar = true) (h : callM c O r o x p args pos σ K) : WT c' (eval (.Call (.Attribute o x p) args [] pos) c'.env) ρ σ K:=by
  obtain ⟨hb,h⟩:=yesS_out h
  rw [Bool.and_eq_true,Bool.and_eq_true] at hb
  refine wMethod (base_attr hb.1.1 _ _ _) hb.1.2 (few_star hs hb.2) (any_star hs) ((S.v h hc).mono fun a σ₁ h => ?_)
  obtain ⟨f,g,w⟩:=callM_in S hc h
  exact ⟨f,g,w⟩
theorem callV_sound (S : Sound c ρ r) (hc : c.Same c') {f : Expr} {args : List Expr} (hs : args.all noStar = true) (h : callV c O ρ r f args pos σ K) : WT c' (eval (.Call f args [] pos) c'.env) ρ σ K:=by
  cases f <;> first | exact Stuck.no h | exact callN_sound S hc hs h | exact callM_sound S hc hs h
theorem toNat1 {i : Int} (h : 1 ≤ i) : i = ((i.toNat : Nat) : Int) ∧ 1 ≤ i.toNat:=by
  have e : ((i.toNat : Nat) : Int) = i:=Int.toNat_of_nonneg (Int.le_trans (by decide) h)
  exact ⟨e.symm,Int.ofNat_le.mp (e.symm ▸ h)⟩
theorem cutV_sound (S : Sound c ρ r) (hc : c.Same c') {v s : Expr} {x : Option Expr × Option Expr × Option Expr} (hx : lowOf s = some x) (h : cutV O v s pos r σ K x) : WT c' (eval (.Subscript v s pos) c'.env) ρ σ K:=by
  obtain ⟨⟩:=lowOf_eq hx
  obtain ⟨lo,e0,g1⟩:=on_out h
  obtain ⟨i,e,g2⟩:=on_out g1
  obtain ⟨hb,g⟩:=yesS_out g2
  obtain ⟨⟩:=intE_eq e
  rw [Bool.and_eq_true,Bool.and_eq_true,Bool.and_eq_true,Option.isNone_iff_eq_none,Option.isNone_iff_eq_none] at hb
  obtain ⟨hi,hn,h1,h2⟩:=hb
  obtain ⟨i1,i2⟩:=toNat1 (of_decide_eq_true hi)
  rw [e0,h1,h2]
  refine wSliceI (name_let hn) i1 i2 ((S.v g hc).mono fun a σ₁ h => ?_)
  obtain ⟨ds,e,h⟩:=on_out h
  obtain ⟨hl,h⟩:=yes_out h
  rw [Bool.and_eq_true,Nat.ble_eq,Nat.ble_eq] at hl
  exact ⟨_,tup?_eq e,hl.1,Nat.le_trans hl.2 (by decide),h⟩
theorem sizeV {ds : List V} {P : Prop} (h : yes (Nat.ble ds.length 1000) P) : ds.length ≤ sizeLine ∧ P:=
  ⟨Nat.le_trans (Nat.le_of_ble_eq_true (yes_out h).1) (by decide),(yes_out h).2⟩
theorem evCm1_sound (S : Sound c ρ r) (hc : c.Same c') {l : Expr} {op : CmpOp} {rs : List Expr} (h : evCm1 c O r l op rs pos σ K) : WT c' (eval (.Compare l [op] rs pos) c'.env) ρ σ K:=by
  obtain ⟨r1,e2,g⟩:=on_out h
  obtain ⟨hn,g1⟩:=yes_out g
  obtain rfl:=one?_eq e2
  refine wCmp (notSet_marks hn _) ((S.v g1 hc).mono fun a σ₁ h => (S.v h hc).mono fun b σ₂ h => ?_)
  obtain ⟨d,q,h⟩:=compV_out h
  exact q.run c' hc ρ K h
theorem evCm2_sound (S : Sound c ρ r) (hc : c.Same c') {l : Expr} {op : CmpOp × CmpOp} {rs : List Expr} (h : evCm2 O r l op rs pos σ K) : WT c' (eval (.Compare l [op.1,op.2] rs pos) c'.env) ρ σ K:=by
  obtain ⟨q,e2,g⟩:=on_out h
  obtain ⟨hn,g1⟩:=yes_out g
  obtain rfl:=two?_eq e2
  refine wChain2 (notSet_marks hn _) ((S.v g1 hc).mono fun a σ₁ h => (S.v h hc).mono fun b σ₂ h => ?_)
  obtain ⟨d,e,h⟩:=on_out h
  obtain ⟨t,q,h⟩:=truV_out h
  refine inV_sound e (q.sound ?_)
  cases t with
  | true =>
    refine ifTr ((S.v h hc).mono fun e σ₃ h => ?_)
    obtain ⟨d,e,h⟩:=on_out h
    exact inV_sound e h
  | false => exact ifFa h
theorem evCmp_sound (S : Sound c ρ r) (hc : c.Same c') {l : Expr} {ops : List CmpOp} {rs : List Expr} (h : evCmp c O r l ops rs pos σ K) : WT c' (eval (.Compare l ops rs pos) c'.env) ρ σ K:=by
  rcases alt_out h with ⟨op,e,h⟩ | h
  · obtain rfl:=one?_eq e
    exact evCm1_sound S hc h
  · obtain ⟨op,e,h⟩:=on_out h
    obtain rfl:=two?_eq e
    exact evCm2_sound S hc h
theorem evBin_sound (S : Sound c ρ r) (hc : c.Same c') {l r1 : Expr} {op : Operator} (h : evBin c O r l op r1 pos σ K) : WT c' (eval (.BinOp l op r1 pos) c'.env) ρ σ K:=by
  refine wBin ((S.v h hc).mono fun a σ₁ h => (S.v h hc).mono fun b σ₂ h => ?_)
  rcases alt_out h with ⟨d,_,h⟩ | h
  · exact h.1.run c' hc ρ K h.2
  · obtain ⟨d,e,h⟩:=on_out h
    exact binV_sound e h
theorem unaV_sound {op : UnaryOp} {a : V} (h : unaV O op pos a σ K) : W1 c' (unaryOp op) a ρ σ K:=by
  cases op with
  | Not =>
    obtain ⟨b,t,h⟩:=truV_out h
    exact oNot (t.sound h)
  | USub =>
    obtain ⟨i,e,h⟩:=on_out h
    obtain rfl:=int?_eq e
    exact oNeg h
  | Invert => exact False.elim h
  | UAdd => exact False.elim h
theorem evBo_sound (S : Sound c ρ r) (hc : c.Same c') {op : BoolOp} {es : List Expr} (h : on (key pos) pos (two? es) fun q => r false q.1 σ fun a σ₁ => boV O r op q.2 pos a σ₁ K) : WT c' (eval (.BoolOp op es pos) c'.env) ρ σ K:=by
  obtain ⟨q,e,h⟩:=on_out h
  obtain rfl:=two?_eq e
  have h:=S.v h hc
  cases op with
  | And =>
    refine wAnd2 (h.mono fun a σ₁ h => ?_)
    obtain ⟨b,t,h⟩:=truV_out h
    refine t.sound ?_
    cases b with
    | true => exact ifTr (S.v h hc)
    | false => exact ifFa h
  | Or =>
    refine wOr2 (h.mono fun a σ₁ h => ?_)
    obtain ⟨b,t,h⟩:=truV_out h
    refine t.sound ?_
    cases b with
    | true => exact ifTr h
    | false => exact ifFa (S.v h hc)
theorem evDct_sound {ks : List (Option Expr)} {vs : List Expr} (h : evDct O ks vs pos σ K) : WT c' (eval (.Dict ks vs pos) c'.env) ρ σ K:=by
  obtain ⟨hb,g⟩:=yesS_out h
  rw [Bool.and_eq_true,List.isEmpty_iff,List.isEmpty_iff] at hb
  rw [hb.1,hb.2]
  cases e : has O.muts (key pos) with
  | true => rw [e] at g; exact wDict0 g
  | false => rw [e] at g; exact wFreezeD (wDict0 fun a => ⟨a,[],σ,[],rfl,rfl,g⟩)
theorem evLst_sound (S : Sound c ρ r) (hc : c.Same c') {es : List Expr} (h : evLst O r es pos σ K) : WT c' (eval (.List es pos) c'.env) ρ σ K:=by
  unfold evLst at h
  cases e : has O.muts (key pos) with
  | true => rw [e] at h; exact wListM ((evL_sound S hc h).mono fun ds σ' h => sizeV h)
  | false => rw [e] at h; exact wList ((evL_sound S hc h).mono fun ds σ' h => sizeV h)
theorem evSub_sound (S : Sound c ρ r) (hc : c.Same c') {v s : Expr} (h : evSub c O r v s pos σ K) : WT c' (eval (.Subscript v s pos) c'.env) ρ σ K:=by
  rcases alt_out h with ⟨x,e,h⟩ | h
  · exact cutV_sound S hc e h
  · obtain ⟨hi,h⟩:=yes_out h
    refine wSub ((S.v h hc).mono fun a σ₁ h => (S.v h hc).mono fun b σ₂ h => ?_)
    obtain ⟨d,q,h⟩:=itemV_out h
    exact q.run _ _ (idx_sub hi) c' hc ρ K h
theorem evE_sound (S : Sound c ρ r) (hc : c.Same c') {e : Expr} (h : evE c O ρ r e σ K) : WT c' (eval e c'.env) ρ σ K:=by
  cases e <;> first | exact Stuck.no h | skip
  · exact evBo_sound S hc h
  · exact evBin_sound S hc h
  · exact wUn ((S.v h hc).mono fun a σ₁ h => unaV_sound h)
  · refine wIf ((S.t h hc).mono fun b σ₁ h => ?_)
    cases b with
    | true => exact ifTr (S.v h hc)
    | false => exact ifFa (S.v h hc)
  · exact evDct_sound h
  · exact evCmp_sound S hc h
  · obtain ⟨hb,g⟩:=yesS_out h
    rw [Bool.and_eq_true,List.isEmpty_iff] at hb
    rw [hb.1]
    exact callV_sound S hc hb.2 g
  · obtain ⟨d,e,h⟩:=on_out h
    exact constV_eq e h
  · obtain ⟨hb,h⟩:=yesS_out h
    refine wAttr (base_attr hb _ _ _) ((S.v h hc).mono fun a σ₁ h => ?_)
    obtain ⟨d,q,h⟩:=attrV_out h
    exact q.run c' hc ρ K h
  · exact evSub_sound S hc h
  · obtain ⟨d,e,h⟩:=on_out h
    exact wName (lookV_loads e) h
  · exact evLst_sound S hc h
  · exact wTuple ((evL_sound S hc h).mono fun ds σ' h => sizeV h)
theorem evV_sound (S : Sound c ρ r) (hc : c.Same c') {e : Expr} (h : evV c O ρ r e σ K) : WT c' (eval e c'.env) ρ σ K:=by
  rcases alt_out h with ⟨x,_,h⟩ | h
  · exact h.1.run c' hc K h.2
  · exact evE_sound S hc h
end
end
end
end Mine
end
section
set_option tactic.hygienic false
set_option backward.match.sparseCases false
namespace Mine
noncomputable section
section
theorem ev_sound {c : Cx} {O : Orc} {ρ : Vars} : ∀ n,Sound c ρ (ev c O ρ n)
  | 0 => ⟨(fun h => False.elim h),(fun h => False.elim h)⟩
  | n + 1 => ⟨fun h Z hc => evV_sound (ev_sound n) hc h,fun h Z hc => evT_sound (ev_sound n) hc h⟩
noncomputable def nameP : Expr → Option (Str × Pos)
  | .Name x p => some (x,p)
  | _ => none
theorem nameP_eq {e : Expr} {x : Str × Pos} (h : nameP e = some x) : e = .Name x.1 x.2:=by cases e <;> first | exact none_ne h | exact Option.some.inj h ▸ rfl
noncomputable def namesE : List Expr → Option (List Str)
  | [] => some []
  | e :: r => (nameP e).bind fun p => (namesE r).map (p.1 :: ·)
theorem Apart.nil : Apart [] []:=fun env => ⟨rfl,rfl,fun i t h => none_ne h⟩
theorem Apart.cons {x : Str × Pos} {r : List Expr} {ys : List Str} (h : Apart r ys) : Apart (.Name x.1 x.2 :: r) (x.1 :: ys):=fun env => by
  obtain ⟨a,b,d⟩:=h env
  refine ⟨(List.findIdx?_cons (p:=fun y : Bool × (Value → Sem Unit) => y.1) (x:=(false,assign (.Name x.1 x.2) env)) (xs:=assignEach r env)).trans (congrArg (Option.map (· + 1)) a),congrArg (· + 1) b,fun i t ht => ?_⟩
  cases i with
  | zero => exact ⟨_,_,rfl,(Option.some.inj ht).symm⟩
  | succ i => exact d i t ht
theorem apart_of : ∀ {ts : List Expr} {xs : List Str},namesE ts = some xs → Apart ts xs
  | [],xs,h => Option.some.inj h ▸ Apart.nil
  | e :: r,xs,h => by
    obtain ⟨x,h1,h⟩:=Option.bind_eq_some_iff.mp h
    obtain ⟨ys,h2,rfl⟩:=Option.map_eq_some_iff.mp h
    exact nameP_eq h1 ▸ (apart_of h2).cons
noncomputable def putAll : Vars → List Str → List V → Option Vars
  | ρ,[],ds => (match ds with | [] => some ρ | _ :: _ => none)
  | ρ,x :: xs,ds => (match ds with | [] => none | d :: ds => (putV ρ x d).bind fun ρ₁ => putAll ρ₁ xs ds)
theorem putAll_puts : ∀ {xs : List Str} {ds : List V} {ρ ρ' : Vars},putAll ρ xs ds = some ρ' → PutsAll ρ xs ds ρ'
  | [],ds,ρ,ρ',h => by
    cases ds with
    | nil => exact Option.some.inj h ▸ .nil
    | cons _ _ => exact none_ne h
  | x :: xs,ds,ρ,ρ',h => by
    cases ds with
    | nil => exact none_ne h
    | cons d ds =>
      obtain ⟨ρ₁,e,h⟩:=Option.bind_eq_some_iff.mp h
      exact .cons (putV_puts e) (putAll_puts h)
noncomputable def seqV : V → Option (List V)
  | .tup ds => some ds
  | .list ds => some ds
  | _ => none
theorem seqV_or {d : V} {ds : List V} (h : seqV d = some ds) : d = .tup ds ∨ d = .list ds:=by
  cases d <;> first | exact none_ne h | exact .inl (Option.some.inj h ▸ rfl) | exact .inr (Option.some.inj h ▸ rfl)
noncomputable def assignV (t : Expr) (d : V) (ρ : Vars) : Option Vars:=match t with
  | .Name x _ => putV ρ x d
  | .Tuple ts _ _ => (namesE ts).bind fun xs => (seqV d).bind fun ds => putAll ρ xs ds
  | _ => none
theorem assignV_sound {c : Cx} {t : Expr} {d : V} {ρ ρ' : Vars} {σ : Sto} {Q : Vars → Sto → Prop} (h : assignV t d ρ = some ρ') (q : Q ρ' σ) : WU c (assign t c.env) d ρ σ Q:=by
  cases t <;> first | exact none_ne h | exact uName (putV_puts h) q | skip
  obtain ⟨xs,h1,h⟩:=Option.bind_eq_some_iff.mp h
  obtain ⟨ds,h2,h⟩:=Option.bind_eq_some_iff.mp h
  exact uUnpack (apart_of h1) (seqV_or h2) (putAll_puts h) q
set_option backward.match.sparseCases true in
noncomputable def swapD (sc : Scope) (ts vs : List Expr) : Option (Option (List Str)):=
  if !(ts.length == 2 || ts.length == 3) || vs.length != ts.length || (toy sc).blockKind != .function then some none
  else if vs.any fun | .Starred .. => true | _ => false then some none
  else
    let line:=(ts.head?.map (·.pos.line)).getD 0
    let names:=ts.filterMap fun
      | .Name id pos => if sc.names.lookup id == some .local && pos.line == line then some id else none
      | _ => none
    if names.length != ts.length || names.eraseDups.length != names.length then some none
    else if vs.all (foldedForSure 8) then some none
    else if vs.all (constantsAlone 8) then none
    else some (some names)
noncomputable def Imp {α : Type} (a : Option α) (s : Sem α) : Prop:=∀ r,a = some r → s = pure r
theorem Imp.some {α : Type} {r : α} : Imp (some r) (pure r):=fun Z h => Option.some.inj h ▸ rfl
theorem Imp.none {α : Type} {s : Sem α} : Imp none s:=fun Z h => none_ne h
theorem Imp.ite {α : Type} {p : Prop} [Decidable p] {a b : Option α} {s t : Sem α} (h : Imp a s) (k : Imp b t) : Imp (ite p a b) (ite p s t):=by
  cases Classical.em p with
  | inl hp => rw [if_pos hp,if_pos hp]; exact h
  | inr hp => rw [if_neg hp,if_neg hp]; exact k
theorem swapD_imp {env : Env} {ts vs : List Expr} {k k' : Nat} {p p' : Pos} : Imp (swapD env.scope ts vs) (swappedStores [.Tuple ts k p] (.Tuple vs k' p') env):=
  .ite .some (.ite .some (.ite .some (.ite .some (.ite .none .some))))
theorem swapD_sound {env : Env} {sc : Scope} (he : env.scope = sc) {ts vs : List Expr} {k k' : Nat} {p p' : Pos} {r : Option (List Str)} (h : swapD sc ts vs = some r) : swappedStores [.Tuple ts k p] (.Tuple vs k' p') env = pure r:=
  swapD_imp r (he ▸ h)
noncomputable def noComp (e : Expr) : Bool:=!([8,9,10].elem e.ctorIdx)
theorem noComp_swaps {e : Expr} (h : noComp e = true) (tg : Option Expr) (n : Nat) (env : Env) : swapsWith e tg n env = pure false:=by
  cases e <;> first | rfl | exact Bool.noConfusion (h : false = true)
noncomputable def tupE : Expr → Option (List Expr × Nat × Pos)
  | .Tuple es k p => some (es,k,p)
  | _ => none
theorem tupE_eq {e : Expr} {x : List Expr × Nat × Pos} (h : tupE e = some x) : e = .Tuple x.1 x.2.1 x.2.2:=by cases e <;> first | exact none_ne h | exact Option.some.inj h ▸ rfl
noncomputable def notTup (e : Expr) : Bool:=!(Nat.beq e.ctorIdx 25)
theorem notTup_swap {e : Expr} (h : notTup e = true) {ts : List Expr} {k : Nat} {p : Pos} (env : Env) : swappedStores [.Tuple ts k p] e env = pure none:=by
  cases e <;> first | rfl | exact Bool.noConfusion (h : false = true)
end
end
end Mine
end
section
set_option tactic.hygienic false
set_option backward.match.sparseCases false
namespace Mine
noncomputable section
section
theorem noComp_sole {e t : Expr} (h : noComp e = true) (n : Nat) (env : Env) : swapsWithSole [t] e n env = pure false:=noComp_swaps h (some t) n env
noncomputable abbrev RecX:=Vars → Sto → List Stmt → (Fl → Vars → Sto → Prop) → Prop
noncomputable def goOn (r : RecX) (rest : List Stmt) (K : Fl → Vars → Sto → Prop) : Fl → Vars → Sto → Prop
  | .next,ρ,σ => r ρ σ rest K
  | .brk,ρ,σ => K .brk ρ σ
  | .cont,ρ,σ => K .cont ρ σ
  | .ret d,ρ,σ => K (.ret d) ρ σ
noncomputable def forV (r : RecX) (t : Expr) (body : List Stmt) (K : Fl → Vars → Sto → Prop) : List V → Vars → Sto → Prop
  | [],ρ,σ => K .next ρ σ
  | x :: xs,ρ,σ => on 1 x (assignV t x ρ) fun ρ₁ => r ρ₁ σ body fun fl ρ₂ σ₂ => (match fl with
      | .next => forV r t body K xs ρ₂ σ₂
      | .cont => forV r t body K xs ρ₂ σ₂
      | .brk => K .next ρ₂ σ₂
      | .ret d => K (.ret d) ρ₂ σ₂)
noncomputable def stmtKey : Stmt → Nat
  | .For _ _ _ _ p => key p
  | .While _ _ _ p => key p
  | .Assign _ _ p => key p
  | .If _ _ _ p => key p
  | .Expr _ p => key p
  | .Return _ p => key p
  | _ => 0
noncomputable abbrev Go:=Vars → Sto → Prop
noncomputable def asgAny (k : Nat) (t : Expr) (ρ : Vars) (K : Go) (d : V) (σ : Sto) : Prop:=on k d (assignV t d ρ) fun ρ₁ => K ρ₁ σ
noncomputable def asgS (k : Nat) (xs : List Str) (ρ : Vars) (K : Go) (d : V) (σ : Sto) : Prop:=on k d d.tup? fun ds => on k xs (putAll ρ xs.reverse ds.reverse) fun ρ₁ => K ρ₁ σ
noncomputable def asgT (sc : Scope) (k : Nat) (e : Vars → Rec) (ρ : Vars) (σ : Sto) (t : Expr) (ts : List Expr) (v : Expr) (K : Go) : Prop:=alt (tupE v)
  (fun vs => on k vs (swapD sc ts vs.1) fun w => alt w (fun xs => e ρ false v σ (asgS k xs ρ K)) (e ρ false v σ (asgAny k t ρ K)))
  (yes (notTup v) (e ρ false v σ (asgAny k t ρ K)))
noncomputable def asgP (n : Nat) (k : Nat) (o i d : V) (σ : Sto) (K : Sto → Prop) : Prop:=on k i i.int? fun j => atP σ n o fun x mo => alt (dictM mo)
  (fun es => es.length ≤ sizeLine ∧ K (σ.set n (x,.dict (dput es j d))))
  (on k o (listM mo) fun ds => ((0 ≤ j ∧ j < 2 ^ 63) ∧ j < ds.length) ∧ K (σ.set n (x,.glist (ds.set j.toNat d))))
noncomputable def asgI (c : Cx) (O : Orc) (k : Nat) (o i d : V) (σ : Sto) (K : Sto → Prop) : Prop:=alt (lk O.sets k) (fun σ' => SeTo c σ o i d σ' ∧ K σ') (on k (o,i,d) (lk O.pos k) fun n => asgP n k o i d σ K)
noncomputable def asgF (c : Cx) (O : Orc) (k : Nat) (o : V) (x : Str) (d : V) (σ : Sto) (K : Sto → Prop) : Prop:=on k (o,d) (lk O.pos k) fun n => atP σ n o fun a mo => on k o (instM mo) fun f =>
  yes (!(f.2.map (·.1)).contains x && Nat.blt f.2.length 1000) (SetOf c.K f.1 x ∧ K (σ.set n (a,.inst f.1 (f.2 ++ [(x,d)]))))
noncomputable def asgE (c : Cx) (sc : Scope) (O : Orc) (e : Vars → Rec) (ρ : Vars) (σ : Sto) (t v : Expr) (k : Nat) (K : Go) : Prop:=match t with
  | .Name x _ => e ρ false v σ fun d σ₁ => on k x (putV ρ x d) fun ρ₁ => K ρ₁ σ₁
  | .Tuple ts _ _ => asgT sc k e ρ σ t ts v K
  | .Subscript o i _ => e ρ false v σ fun d σ₁ => e ρ false o σ₁ fun o' σ₂ => e ρ false i σ₂ fun i' σ₃ => asgI c O k o' i' d σ₃ (K ρ)
  | .Attribute o x _ => e ρ false v σ fun d σ₁ => e ρ false o σ₁ fun o' σ₂ => asgF c O k o' x d σ₂ (K ρ)
  | _ => Stuck k k
noncomputable def asg1 (c : Cx) (sc : Scope) (O : Orc) (e : Vars → Rec) (ρ : Vars) (σ : Sto) (t v : Expr) (k : Nat) (K : Go) : Prop:=yesS k k (noComp v) (asgE c sc O e ρ σ t v k K)
noncomputable def xs1 (c : Cx) (sc : Scope) (O : Orc) (r : RecX) (e : Vars → Rec) (ρ : Vars) (σ : Sto) (s : Stmt) (rest : List Stmt) (K : Fl → Vars → Sto → Prop) : Prop:=match s with
  | .Assign ts v pos => on (key pos) pos (one? ts) fun t => asg1 c sc O e ρ σ t v (key pos) fun ρ σ => r ρ σ rest K
  | .Return v pos => on (key pos) pos v fun v => e ρ false v σ fun d σ₁ => K (.ret d) ρ σ₁
  | .If t body orelse pos => e ρ true t σ fun d σ₁ => on (key pos) d d.bool? fun b => fork b (r ρ σ₁ body (goOn r rest K)) (r ρ σ₁ orelse (goOn r rest K))
  | .Expr v pos => yesS (key pos) pos (noComp v) (e ρ false v σ fun d σ₁ => r ρ σ₁ rest K)
  | .Pass _ => r ρ σ rest K
  | .For t it body orelse pos => yesS (key pos) pos (orelse.isEmpty && notSet it) (e ρ false it σ fun d σ₁ => on (key pos) d (seqV d) fun ds => forV r t body (goOn r rest K) ds ρ σ₁)
  | s => Stuck 2 s
noncomputable def xv (c : Cx) (sc : Scope) (O : Orc) : Nat → RecX
  | 0 => fun Z Z Z Z => False
  | n + 1 => fun ρ σ ss K => match ss with
    | [] => K .next ρ σ
    | s :: rest => fork (has O.stops (stmtKey s)) (XTo c ρ σ (s :: rest) K) (xs1 c sc O (xv c sc O n) (fun ρ => ev c O ρ 40) ρ σ s rest K)
noncomputable def SoundX (c : Cx) (r : RecX) : Prop:=∀ {ρ σ ss K},r ρ σ ss K → ∀ {c'},c.Same c' → WX c' (execs ss c'.env) ρ σ K
noncomputable def Nx (K : Go) : Fl → Vars → Sto → Prop
  | .next,ρ,σ => K ρ σ
  | _,_,_ => False
section
variable {c c' : Cx} {sc : Scope} {O : Orc} {r : RecX} {e : Vars → Rec}
theorem goOn_then {rest : List Stmt} {K : Fl → Vars → Sto → Prop} (S : SoundX c r) (hc : c.Same c') {f : Fl} {ρ : Vars} {σ : Sto} (h : goOn r rest K f ρ σ) : Then c' rest K f ρ σ:=by
  cases f with
  | next => exact S h hc
  | brk => exact h
  | cont => exact h
  | ret d => exact h
theorem forV_sound {t : Expr} {body : List Stmt} {K K' : Fl → Vars → Sto → Prop} (S : SoundX c r) (hc : c.Same c') (m : ∀ f ρ σ,K f ρ σ → K' f ρ σ) : ∀ {ds : List V} {ρ : Vars} {σ : Sto},forV r t body K ds ρ σ → WFor c' t body K' ds ρ σ
  | [],ρ,σ,h => m _ _ _ h
  | x :: xs,ρ,σ,h => fun ps noc => by
    obtain ⟨ρ₁,e1,h⟩:=on_out h
    refine assignV_sound (c:=c'.pins ps) e1 ((S h hc.pins).mono fun fl ρ₂ σ₂ h => ?_)
    cases fl with
    | next => exact forV_sound S hc m h
    | cont => exact forV_sound S hc m h
    | brk => exact m _ _ _ h
    | ret d => exact m _ _ _ h
variable {ρ : Vars} {σ : Sto} {v t : Expr} {k n : Nat} {K : Go} {pos p : Pos} {d o i : V} {x : Str}
theorem putsRev {xs : List Str} {ds : List V} {ρ' : Vars} (h : PutsAll ρ xs.reverse ds.reverse ρ') : xs.length = ds.length:=by
  have e:=h.length
  rw [List.length_reverse,List.length_reverse] at e
  exact e
theorem asgT_sound (hsc : c'.env.scope = sc) (hc : c.Same c') (E : Sound c ρ (e ρ)) {ts : List Expr} {j : Nat} (hv : noComp v = true) (h : asgT sc k e ρ σ (.Tuple ts j p) ts v K) : WX c' (exec (.Assign [.Tuple ts j p] v pos) c'.env) ρ σ (Nx K):=by
  rcases alt_out h with ⟨vs,e1,g⟩ | h
  · obtain ⟨w,hw,g⟩:=on_out g
    obtain rfl:=tupE_eq e1
    cases w with
    | some xs =>
      refine xTupleS (noComp_sole hv _ _) (swapD_sound hsc hw) ((E.v g hc).mono fun d σ₁ h => ?_)
      obtain ⟨ds,e2,h⟩:=on_out h
      obtain ⟨ρ₁,e1,h⟩:=on_out h
      have hp:=putAll_puts e1
      exact ⟨_,tup?_eq e2,putsRev hp,hp.wus h⟩
    | none =>
      refine xTuple (noComp_sole hv _ _) (swapD_sound hsc hw) ((E.v g hc).mono fun d σ₁ h => ?_)
      obtain ⟨ρ₁,e1,h⟩:=on_out h
      exact assignV_sound e1 h
  · obtain ⟨hn,h⟩:=yes_out h
    refine xTuple (noComp_sole hv _ _) (notTup_swap hn _) ((E.v h hc).mono fun d σ₁ h => ?_)
    obtain ⟨ρ₁,e1,h⟩:=on_out h
    exact assignV_sound e1 h
theorem asgP_sound {K : Sto → Prop} (h : asgP n k o i d σ K) : WI c' o i d ρ σ K:=by
  obtain ⟨j,e,g⟩:=on_out h
  obtain rfl:=int?_eq e
  obtain @⟨_,mo,e1,g1⟩:=atP_out g
  obtain ⟨q1,q2⟩:=sto_split e1
  rcases alt_out g1 with ⟨es,e2,g2⟩ | g2
  · obtain rfl:=dictM_eq e2
    rw [q2] at g2
    rw [q1]
    exact iDict g2.1 g2.2
  · obtain ⟨ds,e2,g3⟩:=on_out g2
    rw [q2] at g3
    rw [q1]
    obtain ⟨⟨⟨b1,b2⟩,b3⟩,g3⟩:=g3
    cases mo with
    | list _ => exact iList b1 b2 (Option.some.inj e2 ▸ b3) (Option.some.inj e2 ▸ g3)
    | glist _ => exact iGlist b1 b2 (Option.some.inj e2 ▸ b3) (Option.some.inj e2 ▸ g3)
    | dict _ => exact none_ne e2
    | inst _ _ => exact none_ne e2
theorem asgI_sound (hc : c.Same c') {K : Sto → Prop} (h : asgI c O k o i d σ K) : WI c' o i d ρ σ K:=by
  rcases alt_out h with ⟨σ',_,h⟩ | h
  · exact h.1.run c' hc ρ _ h.2
  · obtain ⟨n,_,h⟩:=on_out h
    exact asgP_sound h
theorem asgF_sound (hc : c.Same c') {K : Sto → Prop} (h : asgF c O k o x d σ K) : SetF c'.K σ o x d K:=by
  rw [hc.K]
  obtain ⟨n,_,g0⟩:=on_out h
  obtain ⟨e1,g⟩:=atP_out g0
  obtain ⟨q1,q2⟩:=sto_split e1
  obtain ⟨f,e2,g1⟩:=on_out g
  obtain ⟨hb,g2⟩:=yes_out g1
  obtain rfl:=instM_eq e2
  rw [Bool.and_eq_true,Bool.not_eq_true'] at hb
  rw [q2] at g2
  exact ⟨_,f.1,f.2,_,_,rfl,q1,g2.1,fun hm => Bool.noConfusion (hb.1.symm.trans (List.contains_iff_mem.mpr hm)),Nat.le_of_ble_eq_true hb.2,g2.2⟩
theorem asg1_sound (hsc : c'.env.scope = sc) (hc : c.Same c') (E : Sound c ρ (e ρ)) (h : asg1 c sc O e ρ σ t v k K) : WX c' (exec (.Assign [t] v pos) c'.env) ρ σ (Nx K):=by
  obtain ⟨hv,g⟩:=yesS_out h
  cases t <;> first | exact Stuck.no g | skip
  · refine xSetAttr (noComp_swaps hv _ _ _) ((E.v g hc).mono fun d σ₁ h => (E.v h hc).mono fun o σ₂ h => ?_)
    exact asgF_sound hc h
  · refine xSetItem (noComp_swaps hv _ _ _) ((E.v g hc).mono fun d σ₁ h => (E.v h hc).mono fun o σ₂ h => (E.v h hc).mono fun i σ₃ h => ?_)
    exact asgI_sound hc h
  · refine xSet (noComp_swaps hv _ _ _) ((E.v g hc).mono fun d σ₁ h => ?_)
    obtain ⟨ρ₁,e1,h⟩:=on_out h
    exact ⟨_,putV_puts e1,h⟩
  · exact asgT_sound hsc hc E hv g
theorem xs1_asg (hsc : c'.env.scope = sc) (hc : c.Same c') (S : SoundX c r) (E : Sound c ρ (e ρ)) {rest : List Stmt} {K : Fl → Vars → Sto → Prop} (h : asg1 c sc O e ρ σ t v k fun ρ σ => r ρ σ rest K) : WX c' (exec (.Assign [t] v pos) c'.env) ρ σ (Then c' rest K):=
  (asg1_sound hsc hc E h).mono fun f ρ σ h => by cases f <;> first | exact S h hc | exact False.elim h
theorem elems_of {d : V} {ds : List V} (h : seqV d = some ds) : d.elems = some ds:=by
  rcases seqV_or h with e | e <;> rw [e] <;> rfl
theorem xs1_sound (hsc : c.env.scope = sc) (S : SoundX c r) (E : ∀ ρ,Sound c ρ (e ρ)) {s : Stmt} {rest : List Stmt} {K : Fl → Vars → Sto → Prop} (h : xs1 c sc O r e ρ σ s rest K) (hc : c.Same c') : WX c' (execs (s :: rest) c'.env) ρ σ K:=by
  refine xCons ?_
  cases s <;> first | exact Stuck.no h | skip
  · obtain ⟨v,e1,g⟩:=on_out h
    exact e1 ▸ xRet (((E ρ).v g hc).mono fun d σ₁ h => h)
  · obtain ⟨t,e1,h⟩:=on_out h
    exact one?_eq e1 ▸ xs1_asg (hc.env ▸ hsc) hc S (E ρ) h
  · obtain ⟨hb,g⟩:=yesS_out h
    rw [Bool.and_eq_true,List.isEmpty_iff] at hb
    rw [hb.1]
    refine xFor (notSet_fold hb.2 _) (((E ρ).v g hc).mono fun d σ₁ h => ?_)
    obtain ⟨ds,hd,h⟩:=on_out h
    exact ⟨ds,elems_of hd,forV_sound S hc (fun f ρ' σ' h => goOn_then S hc h) h⟩
  · refine xIf (((E ρ).t h hc).mono fun b σ₁ h => ?_)
    cases b with
    | true => exact ifTr ((S h hc).mono fun f ρ' σ' h => goOn_then S hc h)
    | false => exact ifFa ((S h hc).mono fun f ρ' σ' h => goOn_then S hc h)
  · obtain ⟨hv,g⟩:=yesS_out h
    exact xExpr' (noComp_swaps hv _ _ _) (((E ρ).v g hc).mono fun d σ₁ h => S h hc)
  · exact xPass (S h hc)
theorem xv_sound (hsc : c.env.scope = sc) (n : Nat) : SoundX c (xv c sc O n):=by
  induction n with
  | zero => intro ρ σ ss K h; exact False.elim h
  | succ n ih =>
    intro ρ σ ss K h c' hc
    cases ss with
    | nil => exact xNil h
    | cons s rest =>
      rcases fork_out h with ⟨_,h⟩ | h
      · exact h.run c' hc
      · exact xs1_sound hsc ih (fun ρ => ev_sound 40) h hc
end
end
end
end Mine
end
section
set_option tactic.hygienic false
namespace Mine
noncomputable section
section
theorem kc1 {A1 B : Prop} (h1 : A1) (e : (A1) = B:=by kernel_rfl) : B:=e ▸ h1
theorem kc2 {A1 A2 B : Prop} (h1 : A1) (h2 : A2) (e : (A1 ∧ A2) = B:=by kernel_rfl) : B:=e ▸ ⟨h1,h2⟩
theorem kc3 {A1 A2 A3 B : Prop} (h1 : A1) (h2 : A2) (h3 : A3) (e : (A1 ∧ A2 ∧ A3) = B:=by kernel_rfl) : B:=e ▸ ⟨h1,h2,h3⟩
theorem kc4 {A1 A2 A3 A4 B : Prop} (h1 : A1) (h2 : A2) (h3 : A3) (h4 : A4) (e : (A1 ∧ A2 ∧ A3 ∧ A4) = B:=by kernel_rfl) : B:=e ▸ ⟨h1,h2,h3,h4⟩
theorem kc5 {A1 A2 A3 A4 A5 B : Prop} (h1 : A1) (h2 : A2) (h3 : A3) (h4 : A4) (h5 : A5) (e : (A1 ∧ A2 ∧ A3 ∧ A4 ∧ A5) = B:=by kernel_rfl) : B:=e ▸ ⟨h1,h2,h3,h4,h5⟩
theorem kc6 {A1 A2 A3 A4 A5 A6 B : Prop} (h1 : A1) (h2 : A2) (h3 : A3) (h4 : A4) (h5 : A5) (h6 : A6) (e : (A1 ∧ A2 ∧ A3 ∧ A4 ∧ A5 ∧ A6) = B:=by kernel_rfl) : B:=e ▸ ⟨h1,h2,h3,h4,h5,h6⟩
theorem kc7 {A1 A2 A3 A4 A5 A6 A7 B : Prop} (h1 : A1) (h2 : A2) (h3 : A3) (h4 : A4) (h5 : A5) (h6 : A6) (h7 : A7) (e : (A1 ∧ A2 ∧ A3 ∧ A4 ∧ A5 ∧ A6 ∧ A7) = B:=by kernel_rfl) : B:=e ▸ ⟨h1,h2,h3,h4,h5,h6,h7⟩
theorem kc8 {A1 A2 A3 A4 A5 A6 A7 A8 B : Prop} (h1 : A1) (h2 : A2) (h3 : A3) (h4 : A4) (h5 : A5) (h6 : A6) (h7 : A7) (h8 : A8) (e : (A1 ∧ A2 ∧ A3 ∧ A4 ∧ A5 ∧ A6 ∧ A7 ∧ A8) = B:=by kernel_rfl) : B:=e ▸ ⟨h1,h2,h3,h4,h5,h6,h7,h8⟩
theorem kc9 {A1 A2 A3 A4 A5 A6 A7 A8 A9 B : Prop} (h1 : A1) (h2 : A2) (h3 : A3) (h4 : A4) (h5 : A5) (h6 : A6) (h7 : A7) (h8 : A8) (h9 : A9) (e : (A1 ∧ A2 ∧ A3 ∧ A4 ∧ A5 ∧ A6 ∧ A7 ∧ A8 ∧ A9) = B:=by kernel_rfl) : B:=e ▸ ⟨h1,h2,h3,h4,h5,h6,h7,h8,h9⟩
theorem kc10 {A1 A2 A3 A4 A5 A6 A7 A8 A9 A10 B : Prop} (h1 : A1) (h2 : A2) (h3 : A3) (h4 : A4) (h5 : A5) (h6 : A6) (h7 : A7) (h8 : A8) (h9 : A9) (h10 : A10) (e : (A1 ∧ A2 ∧ A3 ∧ A4 ∧ A5 ∧ A6 ∧ A7 ∧ A8 ∧ A9 ∧ A10) = B:=by kernel_rfl) : B:=e ▸ ⟨h1,h2,h3,h4,h5,h6,h7,h8,h9,h10⟩
theorem kc11 {A1 A2 A3 A4 A5 A6 A7 A8 A9 A10 A11 B : Prop} (h1 : A1) (h2 : A2) (h3 : A3) (h4 : A4) (h5 : A5) (h6 : A6) (h7 : A7) (h8 : A8) (h9 : A9) (h10 : A10) (h11 : A11) (e : (A1 ∧ A2 ∧ A3 ∧ A4 ∧ A5 ∧ A6 ∧ A7 ∧ A8 ∧ A9 ∧ A10 ∧ A11) = B:=by kernel_rfl) : B:=e ▸ ⟨h1,h2,h3,h4,h5,h6,h7,h8,h9,h10,h11⟩
theorem kc12 {A1 A2 A3 A4 A5 A6 A7 A8 A9 A10 A11 A12 B : Prop} (h1 : A1) (h2 : A2) (h3 : A3) (h4 : A4) (h5 : A5) (h6 : A6) (h7 : A7) (h8 : A8) (h9 : A9) (h10 : A10) (h11 : A11) (h12 : A12) (e : (A1 ∧ A2 ∧ A3 ∧ A4 ∧ A5 ∧ A6 ∧ A7 ∧ A8 ∧ A9 ∧ A10 ∧ A11 ∧ A12) = B:=by kernel_rfl) : B:=e ▸ ⟨h1,h2,h3,h4,h5,h6,h7,h8,h9,h10,h11,h12⟩
theorem kc13 {A1 A2 A3 A4 A5 A6 A7 A8 A9 A10 A11 A12 A13 B : Prop} (h1 : A1) (h2 : A2) (h3 : A3) (h4 : A4) (h5 : A5) (h6 : A6) (h7 : A7) (h8 : A8) (h9 : A9) (h10 : A10) (h11 : A11) (h12 : A12) (h13 : A13) (e : (A1 ∧ A2 ∧ A3 ∧ A4 ∧ A5 ∧ A6 ∧ A7 ∧ A8 ∧ A9 ∧ A10 ∧ A11 ∧ A12 ∧ A13) = B:=by kernel_rfl) : B:=e ▸ ⟨h1,h2,h3,h4,h5,h6,h7,h8,h9,h10,h11,h12,h13⟩
theorem kc15 {A1 A2 A3 A4 A5 A6 A7 A8 A9 A10 A11 A12 A13 A14 A15 B : Prop} (h1 : A1) (h2 : A2) (h3 : A3) (h4 : A4) (h5 : A5) (h6 : A6) (h7 : A7) (h8 : A8) (h9 : A9) (h10 : A10) (h11 : A11) (h12 : A12) (h13 : A13) (h14 : A14) (h15 : A15) (e : (A1 ∧ A2 ∧ A3 ∧ A4 ∧ A5 ∧ A6 ∧ A7 ∧ A8 ∧ A9 ∧ A10 ∧ A11 ∧ A12 ∧ A13 ∧ A14 ∧ A15) = B:=by kernel_rfl) : B:=e ▸ ⟨h1,h2,h3,h4,h5,h6,h7,h8,h9,h10,h11,h12,h13,h14,h15⟩
theorem kc16 {A1 A2 A3 A4 A5 A6 A7 A8 A9 A10 A11 A12 A13 A14 A15 A16 B : Prop} (h1 : A1) (h2 : A2) (h3 : A3) (h4 : A4) (h5 : A5) (h6 : A6) (h7 : A7) (h8 : A8) (h9 : A9) (h10 : A10) (h11 : A11) (h12 : A12) (h13 : A13) (h14 : A14) (h15 : A15) (h16 : A16) (e : (A1 ∧ A2 ∧ A3 ∧ A4 ∧ A5 ∧ A6 ∧ A7 ∧ A8 ∧ A9 ∧ A10 ∧ A11 ∧ A12 ∧ A13 ∧ A14 ∧ A15 ∧ A16) = B:=by kernel_rfl) : B:=e ▸ ⟨h1,h2,h3,h4,h5,h6,h7,h8,h9,h10,h11,h12,h13,h14,h15,h16⟩
theorem kc17 {A1 A2 A3 A4 A5 A6 A7 A8 A9 A10 A11 A12 A13 A14 A15 A16 A17 B : Prop} (h1 : A1) (h2 : A2) (h3 : A3) (h4 : A4) (h5 : A5) (h6 : A6) (h7 : A7) (h8 : A8) (h9 : A9) (h10 : A10) (h11 : A11) (h12 : A12) (h13 : A13) (h14 : A14) (h15 : A15) (h16 : A16) (h17 : A17) (e : (A1 ∧ A2 ∧ A3 ∧ A4 ∧ A5 ∧ A6 ∧ A7 ∧ A8 ∧ A9 ∧ A10 ∧ A11 ∧ A12 ∧ A13 ∧ A14 ∧ A15 ∧ A16 ∧ A17) = B:=by kernel_rfl) : B:=e ▸ ⟨h1,h2,h3,h4,h5,h6,h7,h8,h9,h10,h11,h12,h13,h14,h15,h16,h17⟩
theorem Binds.of1 {K : Frag} {params : Arguments} {body : List Stmt} {scope : Scope} {dV : Value} {ps : List Str} (h : ∀ (name qual : Str) (kV doc pm : Value) (an : Option Addr) (cdv ct : Value) (a : Value),bindArgs (fnOf name qual params body scope dV kV doc pm an cdv ct) ⟨[a],[]⟩ = pure (ps.zip [a])) : Binds K params body scope dV ps 1:=by
  intro name qual kV doc pm an cdv ct s vs _ hl
  obtain ⟨a,rfl⟩:=len1 hl
  exact BindsTo.of_eq (h name qual kV doc pm an cdv ct a)
theorem Binds.of2 {K : Frag} {params : Arguments} {body : List Stmt} {scope : Scope} {dV : Value} {ps : List Str} (h : ∀ (name qual : Str) (kV doc pm : Value) (an : Option Addr) (cdv ct : Value) (a b : Value),bindArgs (fnOf name qual params body scope dV kV doc pm an cdv ct) ⟨[a,b],[]⟩ = pure (ps.zip [a,b])) : Binds K params body scope dV ps 2:=by
  intro name qual kV doc pm an cdv ct s vs _ hl
  obtain ⟨a,b,rfl⟩:=len2 hl
  exact BindsTo.of_eq (h name qual kV doc pm an cdv ct a b)
theorem Binds.of3 {K : Frag} {params : Arguments} {body : List Stmt} {scope : Scope} {dV : Value} {ps : List Str} (h : ∀ (name qual : Str) (kV doc pm : Value) (an : Option Addr) (cdv ct : Value) (a b c : Value),bindArgs (fnOf name qual params body scope dV kV doc pm an cdv ct) ⟨[a,b,c],[]⟩ = pure (ps.zip [a,b,c])) : Binds K params body scope dV ps 3:=by
  intro name qual kV doc pm an cdv ct s vs _ hl
  obtain ⟨a,b,c,rfl⟩:=len3 hl
  exact BindsTo.of_eq (h name qual kV doc pm an cdv ct a b c)
theorem Binds.of4 {K : Frag} {params : Arguments} {body : List Stmt} {scope : Scope} {dV : Value} {ps : List Str} (h : ∀ (name qual : Str) (kV doc pm : Value) (an : Option Addr) (cdv ct : Value) (a b c d : Value),bindArgs (fnOf name qual params body scope dV kV doc pm an cdv ct) ⟨[a,b,c,d],[]⟩ = pure (ps.zip [a,b,c,d])) : Binds K params body scope dV ps 4:=by
  intro name qual kV doc pm an cdv ct s vs _ hl
  obtain ⟨a,b,c,d,rfl⟩:=len4 hl
  exact BindsTo.of_eq (h name qual kV doc pm an cdv ct a b c d)

noncomputable def Ends (Q : V → Sto → Prop) : Fl → Vars → Sto → Prop
  | .ret d,_,σ => Q d σ
  | .next,_,σ => Q .none σ
  | .brk,_,_ => False
  | .cont,_,_ => False
theorem Cx.Like.trans {a b c : Cx} (h : a.Like b) (k : b.Like c) : a.Like c:=⟨k.prog.trans h.prog,k.w.trans h.w,k.K.trans h.K,k.base.trans h.base⟩
theorem globsLike {c c₁ : Cx} (e : c.Like c₁) {gl : List (Str × V)} (hg : ∀ p ∈ gl,∃ v,GV c.K p.1 v ∧ ∀ fz,c.VR fz v p.2) : ∀ p ∈ gl,∃ v,GV c₁.K p.1 v ∧ ∀ fz,c₁.VR fz v p.2:=fun p hp => by
  obtain ⟨v,h1,h2⟩:=hg p hp
  refine ⟨v,by rw [e.K]; exact h1,fun fz => ?_⟩
  have:=h2 fz
  unfold Cx.VR Cx.Knows at this ⊢
  rw [e.prog,e.w,e.base]
  exact this
section
variable {c : Cx} {σ σ' : Sto} {d d' : V}
theorem FnTo.ends {scope : Scope} {O : Orc} {ρ : Vars} {body : List Stmt} {Q : V → Sto → Prop} {n : Nat} (hsc : c.env.scope = scope) (h : xv c scope O n ρ σ body (Ends Q)) : WX c (execs body c.env) ρ σ fun fl Z σ' => match fl with
    | .ret d => Q d σ'
    | .next => Q .none σ'
    | _ => False:=(xv_sound hsc n h Cx.Same.refl).mono fun fl ρ' σ' q => by
  cases fl with
  | ret d => exact q
  | next => exact q
  | brk => exact q
  | cont => exact q
theorem fnGeW {A : Gen} {f : Addr} {params : Arguments} {body : List Stmt} {scope : Scope} {dV : Value} {ps ls : List Str} {gl : List (Str × V)} {ds : List V}
    (hf : FnIs c.K f params body scope dV) (hn : 1 ≤ c.n) (hb : Binds c.K params body scope dV ps ds.length) (hpl : ps.length = ds.length) (sg : SigOk scope ps ls (gl.map (·.1))) (hg : ∀ p ∈ gl,∃ v,GV c.K p.1 v ∧ ∀ fz,c.VR fz v p.2)
    (hbody : ∀ c' : Cx,c.Like c' → c'.n + 1 = c.n → c'.comp = Option.none → c'.env.scope = scope → ∀ Q : V → Sto → Prop,(∀ i,A.P i → Q (A.out i).1 (A.out i).2) → WX c' (execs body c'.env) (startVars ps ls gl ds) σ (Ends Q)) : FnGe c σ (.ref f) ds A where
  run:=fun c₁ hs ρ Q q => by
    obtain ⟨e1,e2,e3,e4,e5,e6,e7⟩:=hs
    refine wFn (dV:=dV) (ps:=ps) (ls:=ls) (gl:=gl) (by rw [e3]; exact hf) (e5.symm ▸ hn) (by rw [e3]; exact hb) hpl sg ?_ ?_
    · exact globsLike ⟨e1,e2,e3,e4⟩ hg
    · intro c' hl hn' hsc hcomp
      exact (hbody c' (Cx.Like.trans ⟨e1,e2,e3,e4⟩ hl) (hn'.trans e5) hcomp hsc Q q).mono fun fl ρ' σ' q => by
        cases fl with
        | ret d => exact q
        | next => exact q
        | brk => exact q
        | cont => exact q
theorem fnGe {A : Gen} {f : Addr} {params : Arguments} {body : List Stmt} {scope : Scope} {dV : Value} {ps ls : List Str} {gl : List (Str × V)} {ds : List V}
    (hf : FnIs c.K f params body scope dV) (hn : 1 ≤ c.n) (hb : Binds c.K params body scope dV ps ds.length) (hpl : ps.length = ds.length) (sg : SigOk scope ps ls (gl.map (·.1))) (hg : ∀ p ∈ gl,∃ v,GV c.K p.1 v ∧ ∀ fz,c.VR fz v p.2)
    (hbody : ∀ c' : Cx,c.Like c' → c'.n + 1 = c.n → c'.comp = Option.none → c'.env.scope = scope → ∀ Q : V → Sto → Prop,(∀ i,A.P i → Q (A.out i).1 (A.out i).2) → ∃ O,xv c' scope O 60 (startVars ps ls gl ds) σ body (Ends Q)) : FnGe c σ (.ref f) ds A:=
  fnGeW hf hn hb hpl sg hg fun c' h1 h2 h3 h4 Q q => let ⟨O,h⟩:=hbody c' h1 h2 h3 h4 Q q; xv_sound h4 60 h Cx.Same.refl
theorem FnGe.unit {f : Value} {ds : List V} (h : FnGe c σ f ds ⟨Unit,fun Z => True,fun Z => (d,σ')⟩) : FnTo c σ f ds d σ':=⟨fun c' hs ρ Q q => h.run c' hs ρ Q fun Z Z => q⟩
theorem fnTo {f : Addr} {params : Arguments} {body : List Stmt} {scope : Scope} {dV : Value} {ps ls : List Str} {gl : List (Str × V)} {ds : List V}
    (hf : FnIs c.K f params body scope dV) (hn : 1 ≤ c.n) (hb : Binds c.K params body scope dV ps ds.length) (hpl : ps.length = ds.length) (sg : SigOk scope ps ls (gl.map (·.1))) (hg : ∀ p ∈ gl,∃ v,GV c.K p.1 v ∧ ∀ fz,c.VR fz v p.2)
    (hbody : ∀ c' : Cx,c.Like c' → c'.n + 1 = c.n → c'.comp = Option.none → c'.env.scope = scope → ∀ Q : V → Sto → Prop,Q d σ' → ∃ O,xv c' scope O 60 (startVars ps ls gl ds) σ body (Ends Q)) : FnTo c σ (.ref f) ds d σ' :=
  FnGe.unit (fnGe hf hn hb hpl sg hg fun c' h1 h2 h3 h4 Q q => hbody c' h1 h2 h3 h4 Q (q () trivial))
structure Made (Q : V → Sto → Prop) (x C : Addr) (d : V) (σ' : Sto) : Prop where
  run : d = .none ∧ ∃ σ₁ fs σ₂,σ' = σ₁ ++ (x,.inst C fs) :: σ₂ ∧ Q (.obj C fs) (σ₁ ++ σ₂)
theorem geTo {k : Nat} {A : Gen} {C fI : Addr} {params : Arguments} {body : List Stmt} {scope : Scope} {dV : Value} {ps ls : List Str} {gl : List (Str × V)} {ds : List V}
    (hmk : makesIn c.K C = true) (hi : findIn c.K (.ref C) "__init__" = some (some (.ref fI))) (hfn : isFn c.K (.ref fI) = true)
    (hf : FnIs c.K fI params body scope dV) (hn : 1 ≤ c.n) (hb : BindsD c.K params body scope dV ps (ds.length + 1) k) (hpl : ps.length = ds.length + 1 + k) (sg : SigOk scope ps ls (gl.map (·.1))) (hg : ∀ p ∈ gl,∃ v,GV c.K p.1 v ∧ ∀ fz,c.VR fz v p.2)
    (hbody : ∀ (x : Addr) (c' : Cx),c.Like c' → c'.n + 1 = c.n → c'.comp = Option.none → c'.env.scope = scope → ∀ Q : V → Sto → Prop,(∀ i,A.P i → Q (A.out i).1 (A.out i).2) → ∃ O,xv c' scope O 60 (startVars ps ls gl (.raw (.ref x) :: (ds ++ List.replicate k V.none))) ((x,.inst C []) :: σ) body (Ends (Made Q x C))) : FnGe c σ (.ref C) ds A where
  run:=fun c₁ hs ρ Q q => by
    obtain ⟨e1,e2,e3,e4,e5,e6,e7⟩:=hs
    refine wNewD (k:=k) (dV:=dV) (ps:=ps) (ls:=ls) (gl:=gl) (by rw [e3]; exact hmk) (by rw [e3]; exact hi) (by rw [e3]; exact hfn) (by rw [e3]; exact hf) (e5.symm ▸ hn) (by rw [e3]; exact hb) hpl sg ?_ ?_
    · exact globsLike ⟨e1,e2,e3,e4⟩ hg
    · intro x c' hl hn' hsc hcomp
      obtain ⟨O,h⟩:=hbody x c' (Cx.Like.trans ⟨e1,e2,e3,e4⟩ hl) (hn'.trans e5) hcomp hsc Q q
      exact (FnTo.ends hsc h).mono fun fl ρ' σ' q => by
        cases fl with
        | ret d => exact q.run
        | next => exact q.run
        | brk => exact q
        | cont => exact q
theorem FnGe.toFn {A : Gen} {f : Value} {ds : List V} (h : FnGe c σ f ds A) {d : V} {σ' : Sto} (k : ∀ i,A.P i → A.out i = (d,σ')) : FnTo c σ f ds d σ':=⟨fun c' hs ρ Q q => h.run c' hs ρ Q fun i hi => by rw [k i hi]; exact q⟩
theorem GmTo.obj {C f : Addr} {i j : Nat} {ns : List Str} {name : Str} {fs : List (Str × V)} (h : MethOf c.K C name f i j ns) (hm : fs.map (·.1) = ns) : GmTo c σ name (.obj C fs) (.ref f) where
  run:=fun c₁ hs ρ => by
    obtain ⟨e1,e2,e3,e4,e5,e6,e7⟩:=hs
    have h : MethOf c₁.K C name f i j ns:=by rw [e3]; exact h
    exact GM.obj h.get h.find h.fn h.me.keep (hm ▸ h.no)
end
end
end
end Mine
end
section
set_option tactic.hygienic false
namespace Mine
noncomputable section
section
open AutoSeq1 (wpAny_loadPart')
theorem getItem_rng {prog : Program} {w : World} {A : Around} {E : Value → Shared → Prop} {s : Shared} {r : Addr} {a b : Int} {t u v : Tok} {k : Int} {y : Tok} {Q : Value → Shared → Prop} (hr : IsRange s.heap r a b 1 t u v) (h0 : 0 ≤ k) (hk : k < b - a)
    (h : Q (.int (a + k * 1) s.toks) { s with toks:=s.toks + 1 }) : wpAny (model prog w) A (getItem (.ref r) (.int k y)) Q E s:=by
  have hT : s.TypeIs (.ref r) "range":=⟨_,hr,rfl⟩
  refine wpAny_getItem_slot hT (by decide) F.slot_range_getitem (wpAny_call_entry F.slot_range_getitem hT F.entry_range_getitem ?_ (F.args_range_getitem_2 _ _))
  have hs : Builtin.Range.rangeSize a b 1 = b - a:=by rw [Mine.rangeSize_one]; split <;> omega
  have f1:=AutoSeq1.idx_int
  obtain ⟨hp,g,d,tk,os⟩:=s
  wp_walk using wpAny_loadPart' hr
  rw [if_neg (show ¬ k < 0 by omega),hs,if_neg (by simp; omega)]
  wp_walk
  exact ⟨_,rfl,h⟩
end
section
variable {c : Cx} {ρ : Vars} {σ : Sto} {Q : V → Sto → Prop}
theorem gRng {value slice : Expr} {a b i : Int} (h0 : 0 ≤ i) (hk : i < b - a) (hs : ∀ o i,subscripted slice false o i = operate [o,i] (getItem o i)) (q : Q (.int (a + i)) σ) :
    W2 c (subscriptTail value slice) (.rng a b) (.int i) ρ σ Q:=fun τ s va vb R ha hb X hR => by
  obtain ⟨t,rfl⟩:=sInt X hb
  obtain ⟨r,t1,u,v,rfl,h1⟩:=X.rangeAt ha
  refine tail_any (T := "range") ⟨_,h1,rfl⟩ F.slot_range_getitem.lookup (getItem_rng h1 h0 hk ?_) (hs _ _)
  rw [Int.mul_one]
  exact hR _ _ _ _ q (X.toks.hold fun Z => .int _ _)
theorem St.frameN {τ : List (Value × V)} {s : Shared} (X : St c ρ σ τ s) : ∃ (m : Str → Option Value) (news fz : Led),Fr c.h₀ c.fenv.locals s.heap m ∧ News c.h₀ c.fenv.locals s.heap news ∧
    (∀ v d,(v,d) ∈ τ → c.VR fz v d) ∧ (∀ a o,c.Knows fz a o → s.heap.get? a = some o) ∧
    (∀ h' o mo t,Fr c.h₀ c.fenv.locals h' m → News c.h₀ c.fenv.locals h' ((s.heap.objs.size,o) :: news) → MRel c fz s.heap.objs.size mo s.heap.objs.size o → St c ρ ((s.heap.objs.size,mo) :: σ) ((.ref s.heap.objs.size,.raw (.ref s.heap.objs.size)) :: τ) { s with heap:=h',toks:=t }):=by
  have kn:=fun a o => (show c.Ok from X.1).B.stays a o
  obtain ⟨ok,g,os,m,raw,cl,fz,r,l⟩:=X
  refine ⟨_,raw ++ (cl ++ (c.rest ++ fz)),fz,l.fr,l.nw,r.tmp,fun a o q => ?_,fun h' o mo t F' N' mr => ⟨ok,g,os,m,_,cl,fz,(r.withSto (SRelB.cons mr r.sto)).held (.raw _),l.pushM' F' N'⟩⟩
  rcases q with q | q
  · exact (l.nw (a,o) (by simp [q])).1
  · exact l.fr.keep _ _ (ok.B.stays _ _ q)
theorem oAddListM {ds es : List V} (hsz : ds.length + es.length ≤ sizeLine) (q : ∀ a,Q (.raw (.ref a)) ((a,.list (ds ++ es)) :: σ)) : W2 c (binaryOp .Add) (.list ds) (.list es) ρ σ Q:=fun τ s va vb R ha hb X hR => by
  obtain ⟨m,news,fz,F,N,hz,kn,P1⟩:=X.frameN
  have h1:=hz _ _ ha
  have h2:=hz _ _ hb
  obtain ⟨_,_,_,_,rfl,p,e1,e2,r⟩:=h1.inv
  obtain ⟨_,_,_,_,rfl,p',e3,e4,r'⟩:=h2.inv
  exact add_lists F N ⟨_,kn _ _ p,e1,_,e2⟩ ⟨_,kn _ _ p',e3,_,e4⟩ (fun h' F' N' => hR _ _ _ _ (q _) (P1 h' _ (.list (ds ++ es)) s.toks F' N' (.list (n:=0) (r.append r')))) (by rw [r.length,r'.length]; exact hsz)
theorem St.toS {τ : List (Value × V)} {s : Shared} {σ₁ σ₂ : Sto} {a : Addr} (X : St c ρ (σ₁ ++ (a,.dict []) :: σ₂) τ s) {h' : Heap} {t : Nat} {kvs : List (Str × Value)} {es : List (Str × V)} (hs : Heap.SameBut a s.heap h') (hd : h'.DictOf (strKind c.prog c.w) a kvs)
    (he : ∀ fz,(∀ v d,(v,d) ∈ τ → c.VR fz v d) → SRels c.prog c.w (c.Knows fz) kvs es) : St c ρ (σ₁ ++ σ₂) ((.ref a,.sdict es) :: τ) { s with heap:=h',toks:=t }:=by
  obtain ⟨ok,g,os,m,raw,cl,fz,r,l⟩:=X
  obtain ⟨r₁,b,o,r₂,rfl,s1,s2,s3⟩:=r.sto.split
  obtain ⟨o',ho',hd'⟩:=Heap.dictOf_iff.mp hd
  have er:=he fz r.tmp
  have r':=(r.withSto (s3.app s1)).mono (fz':=(b,o') :: fz) fun Z q => .tail _ q
  obtain ⟨_,rfl,h1,h2,h3⟩:=s2.inv
  exact ⟨ok,g,os,m,_,cl,(a,o') :: fz,r'.held (.sdict (.inl (.head _)) h1 hd' (er.mono fun Z Z q => q.imp (.tail _) id)),(l.update hs ho').freeze⟩
inductive Vals (c : Cx) (ρ : Vars) (σ : Sto) : List (Option Expr) → List Expr → List (Str × V) → Prop
  | nil : Vals c ρ σ [] [] []
  | cons {x : Str} {d : V} {n : Nat} {q : Pos} {v : Expr} {ks : List (Option Expr)} {vs : List Expr} {r : List (Str × V)} (h : ∀ Q : V → Sto → Prop,Q d σ → WT c (eval v c.env) ρ σ Q) (t : Vals c ρ σ ks vs r) : Vals c ρ σ (some (.Constant (.str x) n q) :: ks) (v :: vs) ((x,d) :: r)
theorem strKeys_cons {x : Str} {t : Tok} {v : Value} {ps : List (Value × Value)} (h : allStrKeys ps = true) : allStrKeys ((.str x t,v) :: ps) = true:=by simpa [allStrKeys] using h
theorem strPairs_cons {x : Str} {t : Tok} {v : Value} {ps : List (Value × Value)} : strPairs ((.str x t,v) :: ps) = (x,v) :: strPairs ps:=rfl
theorem valsRun {pos : Pos} {es : List (Str × V)} {ks : List (Option Expr)} {vs : List Expr} (h : Vals c ρ σ ks vs es) : ∀ {τ : List (Value × V)} {s : Shared} {R : List (Value × Value) → Shared → Prop},St c ρ σ τ s →
    (∀ (ps : List (Value × Value)) (π : List (Value × V)) s',allStrKeys ps = true → (strPairs ps).map (·.1) = es.map (·.1) → (∀ fz,(∀ v d,(v,d) ∈ π → c.VR fz v d) → SRels c.prog c.w (c.Knows fz) (strPairs ps) es) → St c ρ σ (π ++ τ) s' → R ps s') →
    wpAny c.M c.A (evalPairs (pairTrees ks vs c.env pos)) R Nope s:=by
  induction h with
  | nil => exact fun X k => pairTrees_nil_walk (k [] [] _ rfl rfl (fun Z Z => .nil) X)
  | @cons x d n q v ks vs r h1 _ ih =>
    intro τ s R X k
    refine pairTrees_cons_walk (wStr (c:=c) (Q:=fun d' σ' => d' = .str x ∧ σ' = σ) ⟨rfl,rfl⟩ τ s _ X fun kv kd σ₁ s₁ hq X₁ => ?_)
    obtain ⟨rfl,rfl⟩:=hq
    refine h1 (fun d' σ' => d' = d ∧ σ' = σ₁) ⟨rfl,rfl⟩ _ s₁ _ X₁ fun vv d' σ₂ s₂ hq X₂ => ?_
    obtain ⟨rfl,rfl⟩:=hq
    obtain ⟨t,rfl⟩:=sStr X₂ (.tail _ (.head _))
    refine ih X₂ fun ps π s' e1 e2 e3 X₃ => k ((.str x t,vv) :: ps) (π ++ [(vv,d'),(.str x t,.str x)]) s' (strKeys_cons e1) (congrArg (x :: ·) e2) (fun fz hz => ?_) (by rw [List.append_assoc]; exact X₃)
    exact SRels.cons (hz _ _ (List.mem_append_right _ (.head _))) (e3 fz fun v d hm => hz _ _ (List.mem_append_left _ hm))
theorem wDictS {ks : List (Option Expr)} {vs : List Expr} {pos : Pos} {es : List (Str × V)} (hall : ks.all (·.isSome) = true) (hl : ks.length = vs.length) (h0 : ks ≠ []) (hlen : ks.length ≤ 15) (hn : (es.map (·.1)).Nodup)
    (h : ∀ a,Vals c ρ ((a,.dict []) :: σ) ks vs es) (q : Q (.sdict es) σ) : WT c (eval (.Dict ks vs pos) c.env) ρ σ Q:=fun τ s R X hR => by
  refine wpAny_Dict_walk (knd:=strKind c.prog c.w) hall hl h0 hlen ?_
  refine valsRun (h _) X.newD fun ps π s' e1 e2 e3 X₂ => ?_
  refine display_done_str e1 (by rw [e2]; exact hn) ?_ fun h' hm hs => hR _ _ _ _ q ((St.toS (σ₁:=[]) X₂ hs hm fun fz hz => e3 fz fun v d hq => hz v d (List.mem_append_left _ hq)).sub fun p hp => ?_)
  · obtain ⟨fz,b,o,h1,h2,_⟩:=X₂.peek (.head _)
    obtain ⟨_,rfl,g1,g2,g3⟩:=h2.inv
    cases g3
    obtain ⟨es',ep,w1,w2,w3,w4,w5⟩:=g2
    have e : es'.toList = []:=by cases hq : es'.toList with
      | nil => rfl
      | cons a b => rw [hq] at w4; cases w4
    refine Heap.dictOf_iff.mpr ⟨_,h1,es',ep,w1,w2,fun x hx => ?_,by rw [e]; exact .nil,by simp⟩
    have:=Array.mem_toList_iff.mpr hx
    rw [e] at this; cases this
  · rcases List.mem_cons.mp hp with e | e
    · exact e ▸ .head _
    · exact .tail _ (List.mem_append_right _ (.tail _ e))
end
end
end Mine
end
section
set_option tactic.hygienic false
namespace Mine
noncomputable section
section
variable {c : Cx} {ρ : Vars} {σ : Sto} {τ : List (Value × V)} {s : Shared}
theorem perm2 {raw cl R fz : Led} {x y : Addr × Obj} : (raw ++ (cl ++ (([x,y] ++ R) ++ fz))).Perm (x :: y :: (raw ++ (cl ++ (R ++ fz)))):=(permP (p₁:=[]) (p₂:=[y])).trans (List.Perm.cons x (permP (p₁:=[]) (p₂:=[])))
theorem frOver {h₀ h h' : Heap} {L : Addr} {f : Str → Option Value} (fr : Fr h₀ L h f) (hl : ∀ o,h.get? L = some o → h'.get? L = some o) (hk : ∀ x o,h₀.get? x = some o → h.get? x = some o → h'.get? x = some o) : Fr h₀ L h' f:=
  ⟨let ⟨o,es,ep,ho,q⟩:=fr.ns; ⟨o,es,ep,hl o ho,q⟩,fun x o hx => hk x o hx (fr.keep x o hx),fr.above⟩
theorem Stand.two {h₀ h h' : Heap} {L a b : Addr} {oa ob oa' ob' on : Obj} {M : Led} (z : Stand h₀ L h ((a,oa) :: (b,ob) :: M)) (lt : L < h.objs.size) (fresh : h₀.get? h.objs.size = none) (h1 : h'.get? a = some oa') (h2 : h'.get? b = some ob') (h3 : h'.get? h.objs.size = some on)
    (hk : ∀ x o,x ≠ a → x ≠ b → h.get? x = some o → h'.get? x = some o) : Stand h₀ L h' ((h.objs.size,on) :: (a,oa') :: (b,ob') :: M) where
  nw:=List.forall_mem_cons.mpr ⟨⟨h3,Nat.ne_of_gt lt,fresh⟩,List.forall_mem_cons.mpr ⟨⟨h1,(z.nw _ (.head _)).2⟩,List.forall_mem_cons.mpr ⟨⟨h2,(z.nw _ (.tail _ (.head _))).2⟩,fun p hp =>
    have w:=z.nw p (.tail _ (.tail _ hp))
    have n:=List.nodup_cons.mp z.nd
    ⟨hk _ _ (fun e => n.1 (.tail _ (List.mem_map.mpr ⟨p,hp,e⟩))) (fun e => (List.nodup_cons.mp n.2).1 (List.mem_map.mpr ⟨p,hp,e⟩)) w.1,w.2⟩⟩⟩⟩
  nd:=List.nodup_cons.mpr ⟨z.fresh,z.nd⟩
theorem St.repin2 {a b : Addr} {oa ob oa' ob' on : Obj} {h' : Heap} {t : Nat} (X : St (c.pins [(a,oa),(b,ob)]) ρ σ τ s) (ha : ∀ v,oa.data ≠ .cell v) (hb : ∀ v,ob.data ≠ .cell v) (h1 : h'.get? a = some oa') (h2 : h'.get? b = some ob') (h3 : h'.get? s.heap.objs.size = some on)
    (hk : ∀ x o,x ≠ a → x ≠ b → s.heap.get? x = some o → h'.get? x = some o) {v : Value} {d : V} (hv : ∀ fz,(∀ v d,(v,d) ∈ τ → c.VR fz v d) → (s.heap.objs.size,on) ∈ fz → c.VR fz v d) : St (c.pins [(a,oa'),(b,ob')]) ρ σ ((v,d) :: τ) { s with heap:=h',toks:=t }:=by
  obtain ⟨ok,g,os,m,raw,cl,fz,r,l⟩:=X
  have fr : Fr c.h₀ c.fenv.locals s.heap (c.comp.getD m):=l.fr
  have z:=l.standP.perm perm2.symm
  have za:=(z.nw _ (.head _)).2
  have zb:=(z.nw _ (.tail _ (.head _))).2
  have w : Stand c.h₀ c.fenv.locals h' (raw ++ (cl ++ (([(a,oa'),(b,ob')] ++ c.rest) ++ ((s.heap.objs.size,on) :: fz)))):=(z.two fr.ns.lt fr.fresh h1 h2 h3 hk).perm (permZ.trans (List.Perm.cons _ perm2))
  have r':=(r.repin (qs:=[(a,oa'),(b,ob')]) (noCells_sub (List.forall_mem_cons.mpr ⟨ha,List.forall_mem_cons.mpr ⟨hb,fun p hp => nomatch hp⟩⟩))).mono fun Z q => .tail (s.heap.objs.size,on) q
  exact ⟨ok.unpins.pins _,g,os,m,raw,cl,(s.heap.objs.size,on) :: fz,r'.held (hv _ (fun v d hm => r'.tmp v d hm) (.head _)),
    frOver fr (fun o => hk _ o (Ne.symm za.1) (Ne.symm zb.1)) fun x o hx => hk x o (fun e => by rw [e,za.2] at hx; cases hx) (fun e => by rw [e,zb.2] at hx; cases hx),w.nw,w.nd,l.cm⟩
theorem Stand.pair {h₀ h h' : Heap} {L : Addr} {oa ob : Obj} {M : Led} (z : Stand h₀ L h M) (lt : L < h.objs.size) (above : h₀.objs.size ≤ h.objs.size) (h1 : h'.get? (h.objs.size + 1) = some oa) (h2 : h'.get? h.objs.size = some ob) (hk : ∀ x o,h.get? x = some o → h'.get? x = some o) :
    Stand h₀ L h' ((h.objs.size + 1,oa) :: (h.objs.size,ob) :: M) where
  nw:=List.forall_mem_cons.mpr ⟨⟨h1,Nat.ne_of_gt (Nat.lt_succ_of_lt lt),Heap.get?_none_of_le (Nat.le_succ_of_le above)⟩,List.forall_mem_cons.mpr ⟨⟨h2,Nat.ne_of_gt lt,Heap.get?_none_of_le above⟩,fun p hp => ⟨hk _ _ (z.nw p hp).1,(z.nw p hp).2⟩⟩⟩
  nd:=by
    have low : ∀ x ∈ keys M,x < h.objs.size:=fun x hx => by
      obtain ⟨p,hp,rfl⟩:=List.mem_map.mp hx
      exact Heap.lt_size (z.nw p hp).1
    refine List.nodup_cons.mpr ⟨fun hm => ?_,List.nodup_cons.mpr ⟨z.fresh,z.nd⟩⟩
    rcases List.mem_cons.mp hm with h | h
    · exact Nat.succ_ne_self _ h
    · exact Nat.lt_irrefl _ (Nat.lt_of_succ_lt (low _ h))
theorem St.pin2 {oa ob : Obj} {h' : Heap} (X : St c ρ σ τ s) (h1 : h'.get? (s.heap.objs.size + 1) = some oa) (h2 : h'.get? s.heap.objs.size = some ob) (hk : ∀ x o,s.heap.get? x = some o → h'.get? x = some o) :
    St (c.pins [(s.heap.objs.size + 1,oa),(s.heap.objs.size,ob)]) ρ σ τ { s with heap:=h' }:=by
  obtain ⟨ok,g,os,m,raw,cl,fz,r,l⟩:=X
  have fr : Fr c.h₀ c.fenv.locals s.heap (c.comp.getD m):=l.fr
  have lt:=fr.ns.lt
  exact ⟨ok.pins _,g,os,m,raw,cl,fz,Rel.repin (ps:=[]) r (fun p hp => nomatch hp),Lay.repin (ps:=[]) l (frOver fr (fun o => hk _ o) fun x o Z => hk x o) ((l.stand.pair lt (Nat.le_trans fr.above (Nat.le_of_lt lt)) h1 h2 hk).perm perm2)⟩

noncomputable abbrev enumO (it : Addr) (i : Int) (old : Value) : Obj:={ cls:=.type "enumerate",dict:=none,data:=.fields #[.none,.bool false,.ref it,rawInt i,.none,old],slots:=#[] }
noncomputable def enumV (ds : List V) : List V:=ds.mapIdx fun i d => .tup [.int (i : Nat),d]
inductive EnumAt (va : Value) (e : Addr) (i : Nat) (ps : Led) : Prop
  | mk (it l : Addr) (oi : Obj) (old : Value) (e1 : ps = [(e,enumO it i old),(it,oi)]) (e2 : va = .ref l) (hne : e ≠ it) (hc : oi.cls = .type "list_iterator") (hd : oi.data = .fields #[.ref l,.int i 0])
theorem flds {a : Array Value} (v : Option Value) : Data.fields a ≠ .cell v:=fun q => nomatch q
theorem enumNoc {e it : Addr} {oi : Obj} {i : Int} {old : Value} {a : Array Value} (hd : oi.data = .fields a) : NoCells [(e,enumO it i old),(it,oi)]:=
  List.forall_mem_cons.mpr ⟨flds,List.forall_mem_cons.mpr ⟨fun v => hd ▸ flds v,fun p hp => nomatch hp⟩⟩
inductive EnumX (ds : List V) (i : Nat) : V → Prop
  | mk (d : V) (h : ds[i]? = some d) : EnumX ds i (.tup [.int i,d])
theorem enumX {ds : List V} {i : Nat} {x : V} (h : (enumV ds)[i]? = some x) : EnumX ds i x:=by
  unfold enumV at h
  rw [List.getElem?_mapIdx] at h
  obtain ⟨d,h1,rfl⟩:=Option.map_eq_some_iff.mp h
  exact ⟨d,h1⟩
theorem enumNext {ds : List V} {va : Value} {it : Addr} {i : Nat} {ps : Led} {x : V} {R : Option Value → Shared → Prop} {E : Value → Shared → Prop} (X : St (c.pins ps) ρ σ τ s) (ha : (va,.list ds) ∈ τ) (hj : EnumAt va it i ps) (hx : (enumV ds)[i]? = some x)
    (k : ∀ v s',(∀ {target : Expr} {R' : Unit → Shared → Prop} {E' : Value → Shared → Prop},(∃ elts k pos,target = .Tuple elts k pos) → (∀ ps' s'',EnumAt va it (i + 1) ps' → NoCells ps' → St (c.pins ps') ρ σ ((v,x) :: τ) s'' → R' () s'') → wpAny c.M c.A (letOwnedTupleGo target (.ref it) v) R' E' s') → R (some v) s') : wpAny c.M c.A (pyNext (.ref it)) R E s:=by
  obtain ⟨u,l,oi,old,rfl,e2,hne,hc,hd⟩:=hj
  obtain ⟨a,vs,e,hL,hl,get⟩:=X.seqList ha
  obtain rfl : l = a:=Value.ref.inj (e2.symm.trans e)
  obtain ⟨d,hdi⟩:=enumX hx
  obtain ⟨v,hv,X1⟩:=get i d hdi
  refine wpAny_pyNext_enum_item (X.pinned (.head _)) ⟨oi,X.pinned (.tail _ (.head _)),hc,hd⟩ hL (by rw [List.getElem?_toArray]; exact hv) hne fun h' a1 a2 a3 a4 a5 => ?_
  obtain ⟨oi',ho',hc',hd'⟩:=a2
  have X2:=X1.repin2 (t:=s.toks + 1) flds (fun v => hd ▸ flds v) a1 ho' a3 a5 fun fz hz hm => .tup (n:=0) (vs:=[.int i s.toks,v]) (.inl hm) (.cons (.int _ _) (.cons (hz _ _ (.head _)) .nil))
  refine k _ _ fun {target R' E'} ht k' => ?_
  obtain ⟨elts,kk,pos,rfl⟩:=ht
  refine wpAny_letOwnedTupleGo_enum (i:=(i : Int) + 1) (item:=v) (it:=u) (X2.pinned (.head _)) fun h'' b1 b2 => ?_
  exact k' _ _ ⟨u,l,oi',v,rfl,e2,hne,hc',hd'⟩ (enumNoc hd') (St.repin (p₁:=[]) (o':=enumO u ((i : Int) + 1) v) (t:=s.toks + 1) X2 flds b2 b1).r1
theorem enumFin {ds : List V} {va : Value} {it : Addr} {i : Nat} {ps : Led} {R : Option Value → Shared → Prop} {E : Value → Shared → Prop} (X : St (c.pins ps) ρ σ τ s) (ha : (va,.list ds) ∈ τ) (hj : EnumAt va it i ps) (hx : (enumV ds)[i]? = none)
    (k : ∀ h' t,St c ρ σ τ { s with heap:=h',toks:=t } → R none { s with heap:=h',toks:=t }) : wpAny c.M c.A (pyNext (.ref it)) R E s:=by
  obtain ⟨u,l,oi,old,rfl,e2,hne,hc,hd⟩:=hj
  obtain ⟨a,vs,e,hL,hl,get⟩:=X.seqList ha
  obtain rfl : l = a:=Value.ref.inj (e2.symm.trans e)
  have h1:=List.getElem?_eq_none_iff.mp hx
  rw [enumV,List.length_mapIdx,← hl] at h1
  refine wpAny_pyNext_enum_end X.ok.hd (X.pinned (.head _)) ⟨oi,X.pinned (.tail _ (.head _)),hc,hd⟩ hL (by rw [List.getElem?_toArray]; exact List.getElem?_eq_none_iff.mpr h1) fun h' hs => ?_
  have X1 : St (c.pins [(it,enumO u i old)]) ρ σ τ { s with heap:=h',toks:=s.toks }:=St.unpin1 (p₁:=[(it,enumO u i old)]) (p₂:=[]) X (fun v => hd ▸ flds v) hs
  have X2:=St.unpin1 (p₁:=[]) (p₂:=[]) (h':=h') (t:=s.toks) X1 flds (fun Z Z Z x => x)
  exact k h' s.toks X2
noncomputable def Itr.enum {ds : List V} : Itr (.list ds) (enumV ds) where
  G:=Unit
  kd _:=.list ds
  J _ va e i ps:=EnumAt va e i ps
  noc:=fun ⟨it,l,oi,old,e,_,_,_,hd⟩ => e ▸ enumNoc hd
  T t:=∃ elts k pos,t = .Tuple elts k pos
  next:=fun X ha Z hj hx k => enumNext X ha hj hx k
  fin:=fun X ha Z hj hx k => enumFin X ha hj hx k
  self:=fun {c ρ σ τ s g va it i ps R E} X hj k => by
    obtain ⟨u,l,oi,old,rfl,e2,hne,hc,hd⟩:=hj
    exact wpAny_pyIter_enum (X.pinned (.head _)) k
end
section
variable {c : Cx} {ρ : Vars} {σ : Sto} {Q : V → Sto → Prop}
theorem wEnumComp {kx vx target : Expr} {cs : Scope} {x : Str} {p1 p2 p3 : Pos} (scope : Scope) {pos : Pos} (vs : List Str) (fv gl : List (Str × V)) {ds : List V}
    (hcomp : c.comp = Option.none) (hsc : c.env.scope = scope) (sg : CompOk scope cs vs (fv.map (·.1)) (gl.map (·.1)))
    (hfv : ∀ p ∈ fv,(p.1,Slot.own (some p.2)) ∈ ρ ∨ (p.1,Slot.ro p.2) ∈ ρ) (hg : ∀ p ∈ gl,∃ v,GV c.K p.1 v ∧ ∀ fz,c.VR fz v p.2)
    (hT : ∃ elts k pos,target = .Tuple elts k pos) (he : Loads ρ "enumerate" (.raw (.type "enumerate"))) (hx : Loads ρ x (.list ds))
    (h : DCompOf c vs fv gl target [] kx vx (enumV ds) σ fun D acc σ' => Q (.raw (.ref D)) ((D,.dict acc) :: σ')) :
    WT c (eval (.DictComp kx vx [⟨target,.Call (.Name "enumerate" p1) [.Name x p2] [] p3,[],0⟩] cs pos) c.env) ρ σ Q:=fun τ s R X hR => by
  show wpAny _ _ (comprehension (.DictComp kx vx [⟨target,.Call (.Name "enumerate" p1) [.Name x p2] [] p3,[],0⟩] cs pos) cs c.env (firstIterPos [⟨target,.Call (.Name "enumerate" p1) [.Name x p2] [] p3,[],0⟩] pos) newDict false (eval (.Call (.Name "enumerate" p1) [.Name x p2] [] p3) c.env)) _ _ _
  refine wpAny_comprehension_free (use:=Option.none) rfl (fun Z => rfl) (cells_of X hsc sg hfv) sg.kind sg.names ?_
  obtain ⟨f,X1,kf⟩:=X.look he
  have hf:=sRaw X1 (.head _)
  subst hf
  refine wpAny_Call_Name_kw (kf p1 _ _ (callWith_of (P:=c.K.In) (by rfl) (callable_T (c:=c) c.M) (evalArgs_gen rfl ((lCons (wName hx (lNil (QL:=fun ds' σ' => V.list ds :: ds' = [.list ds] ∧ σ' = σ) ⟨rfl,rfl⟩)) rfl : WL c _ ρ σ fun ds' σ' => ds' = [.list ds] ∧ σ' = σ) _ _ _ X1 fun vs' ds' σ' s' q hl X' => ⟨X'.inK,?_⟩))))
  obtain ⟨rfl,rfl⟩:=q
  match vs',hl with
  | [va],_ =>
    have ha : (va,V.list ds) ∈ [va].zip [V.list ds] ++ (Value.type "enumerate",V.raw (Value.type "enumerate")) :: τ:=by simp
    obtain ⟨l,vs2,rfl,hL,hlen,get⟩:=X'.seqList ha
    refine call_enumerate_list hL fun h' he hit hsz keep => ?_
    obtain ⟨oi,hoi,hci,hdi⟩:=hit
    have X3:=X'.pin2 he hoi keep
    refine compCoreD (s:={ s' with heap:=h' }) (τ:=(Value.ref l,V.list ds) :: τ) (va:=.ref l) (RR:=fun acc C => compPost c.M c.A Nope Option.none R acc C) Itr.enum hcomp hsc sg hfv hg (.head _) hT (modules_low X.ok.T.nolimit) (fun R E k => ?_) h fun D C oC m' acc σ' s'' q X₂ hns hnc => ?_
    · refine wpAny_pyIter_enum (it:=s'.heap.objs.size) (i:=0) (old:=.none) he ?_
      refine k () _ [(s'.heap.objs.size + 1,enumO s'.heap.objs.size 0 .none),(s'.heap.objs.size,oi)] h' s'.toks ⟨_,l,oi,.none,rfl,rfl,Nat.succ_ne_self _,hci,hdi⟩ ?_
      refine X3.sub fun p hp => ?_
      rcases List.mem_cons.mp hp with rfl | hp
      · exact ha
      · rcases List.mem_cons.mp hp with rfl | hp
        · exact ha
        · exact List.mem_append_right _ (.tail _ hp)
    · refine ⟨m',hns _ (X₂.pinned (.head _)),fun h'' hs' => ?_⟩
      exact hR _ _ _ _ q (St.unpin1 (p₁:=[]) (p₂:=[]) (t:=s''.toks) X₂ hnc hs'.extBut).r1
end
end
end Mine
end
section
set_option tactic.hygienic false
namespace Mine
noncomputable section
section
variable {t : Tab} {c : Cx} {σ : Sto} {Q : V → Sto → Prop}
noncomputable def bodyPs : List Str:=["self", "name", "arg_count", "locals_told", "blocks", "spots"]
theorem bindsB3 (H : Has t c) : BindsD c.K (parsOf (partOf 18 0)) (bodyOf (partOf 18 0)) (scopeOf (partOf 18 0)) t.bodyD bodyPs 4 2:=by
  intro name qual kV doc pm an cdv ct s vs X hl
  obtain ⟨a,o,n,e,h1,h2⟩:=H.bodyD
  rw [e]
  obtain ⟨v1,v2,v3,v4,rfl⟩:=len4 hl
  exact BindsTo.of_defaults (T:=a) rfl (X _ _ h1) h2 rfl rfl
theorem bindsB5 (H : Has t c) : BindsD c.K (parsOf (partOf 18 0)) (bodyOf (partOf 18 0)) (scopeOf (partOf 18 0)) t.bodyD bodyPs 6 0:=by
  intro name qual kV doc pm an cdv ct s vs X hl
  obtain ⟨a,o,n,e,h1,h2⟩:=H.bodyD
  rw [e]
  obtain ⟨v0,vs,rfl⟩:=List.exists_cons_of_length_eq_add_one hl
  obtain ⟨v1,vs,rfl⟩:=List.exists_cons_of_length_eq_add_one (Nat.succ.inj hl)
  obtain ⟨v3,v4,v5,v6,rfl⟩:=len4 (Nat.succ.inj (Nat.succ.inj hl))
  exact BindsTo.of_defaults (T:=a) rfl (X _ _ h1) h2 rfl rfl
noncomputable abbrev bodR (t : Tab) (nm : Str) (na : Int) (L : List V) (D : Addr) : V:=.obj t.Body [("name",.str nm),("arg_count",.int na),("locals",.list L),("blocks",.raw (.ref D)),("spots",.dict [])]
theorem s_list {ds : List V} (hl : ds.length ≤ 1000) : FnTo c σ (.type "list") [.list ds] (.list ds) σ:=⟨fun c' hs ρ Q q => bListL LRd.data (Nat.le_trans hl (by decide)) q⟩
theorem zv (v : Value) : v = v:=rfl
theorem s_Body3 {nm : Str} {na : Int} {L : List V} (hl : L.length ≤ 1000) (H : Has t c) (hn : 1 ≤ c.n) : FnGe c σ (.ref t.Body) [.str nm,.int na,.list L] ⟨Addr,fun Z => True,fun D => (bodR t nm na L D,(D,.list []) :: σ)⟩:=by
  refine geTo (k:=2) (ps:=bodyPs) (ls:=[]) (gl:=[("list",.raw (.type "list"))]) H.Body.make H.Body.find H.Body.fn H.Body.me hn (bindsB3 H) rfl (SigOk.of (gn:=["list"]) (by decide +kernel)) (gcons (gF H.b_list) gnil) ?_
  intro x c' hlk hn' hcomp hsc Q q
  have H':=H.like hlk
  have m : ∀ D : Addr,Made Q x t.Body .none ((D,MO.list []) :: (x,MO.inst t.Body ([("name",V.str nm),("arg_count",V.int na),("locals",V.list L),("blocks",V.raw (.ref D)),("spots",V.dict [])] : List (Str × V))) :: σ):=fun D => ⟨rfl,[(D,.list [])],_,σ,rfl,q D trivial⟩
  exact ⟨{ pos:=[(80008024,0),(81008034,0),(82008039,0),(83008054,1),(84008051,1)],calls:=[(82022039,.list L,none)],muts:=[83022024] },
    kc9 (zv (.ref x)) H'.s_Body_name (zv (.ref x)) H'.s_Body_arg_count (callable_T (c:=c') (T := "list")) (s_list (c:=c') (σ:=(x,.inst t.Body [("name",.str nm),("arg_count",.int na)]) :: σ) hl) (zv (.ref x)) H'.s_Body_locals fun D => (⟨zv (.ref x),H'.s_Body_blocks,zv (.ref x),H'.s_Body_spots,m D⟩ : _ ∧ _ ∧ _ ∧ _ ∧ _)⟩
theorem s_Body5 {nm : Str} {na : Int} {L : List V} {D : Addr} (hl : L.length ≤ 1000) (H : Has t c) (hn : 1 ≤ c.n) : FnTo c σ (.ref t.Body) [.str nm,.int na,.list L,.raw (.ref D),.dict []] (bodR t nm na L D) σ:=by
  refine FnGe.toFn (A:=⟨Unit,fun Z => True,fun Z => (bodR t nm na L D,σ)⟩) (geTo (k:=0) (ds:=[.str nm,.int na,.list L,.raw (.ref D),.dict []]) (ps:=bodyPs) (ls:=[]) (gl:=[("list",.raw (.type "list"))]) H.Body.make H.Body.find H.Body.fn H.Body.me hn (bindsB5 H) rfl (SigOk.of (gn:=["list"]) (by decide +kernel)) (gcons (gF H.b_list) gnil) ?_) fun Z Z => rfl
  intro x c' hlk hn' hcomp hsc Q q
  have H':=H.like hlk
  have m : Made Q x t.Body .none ((x,MO.inst t.Body ([("name",V.str nm),("arg_count",V.int na),("locals",V.list L),("blocks",V.raw (.ref D)),("spots",V.dict [])] : List (Str × V))) :: σ):=⟨rfl,[],_,σ,rfl,q () trivial⟩
  exact ⟨{ pos:=[(80008024,0),(81008034,0),(82008039,0),(83008054,0),(84008051,0)],calls:=[(82022039,.list L,none)] },
    kc12 (zv (.ref x)) H'.s_Body_name (zv (.ref x)) H'.s_Body_arg_count (callable_T (c:=c') (T := "list")) (s_list (c:=c') (σ:=(x,.inst t.Body [("name",.str nm),("arg_count",.int na)]) :: σ) hl) (zv (.ref x)) H'.s_Body_locals (zv (.ref x)) H'.s_Body_blocks (zv (.ref x)) (And.intro H'.s_Body_spots m)⟩
end
end
end Mine
end
section
set_option tactic.hygienic false
namespace Mine
noncomputable section
section
variable {t : Tab} {c : Cx} {σ : Sto}
theorem CmTo.neNil {ds : List V} {xs : List PyData} {b : Bool} (hx : V.pys ds = some xs) (hs : SeqAt.shaped (.list xs) = true) (hb : xs.isEmpty = !b) : CmTo c σ .NotEq (.list ds) (.list []) (.bool b):=
  ⟨fun c' hs' ρ Q q => oNeR (x:=.list xs) (y:=.list []) (Rd.data (by show (V.pys ds).map _ = _; rw [hx]; rfl)) (Rd.data rfl) hs rfl (by
    have : PyData.eqv (.list xs) (.list []) = !b:=by rw [← hb]; cases xs <;> simp [PyData.eqv,PyData.eqvAll]
    rw [this,Bool.not_not]; exact q)⟩
theorem pys_ints : ∀ l : List Int,V.pys (l.map V.int) = some (l.map PyData.int)
  | [] => rfl
  | n :: l => by
    show (match some (PyData.int n),V.pys (l.map V.int) with | some a,some b => some (a :: b) | _,_ => none) = _
    rw [pys_ints l]; rfl
theorem shaped_ints (l : List Int) : SeqAt.shaped (.list (l.map PyData.int)) = true:=by
  have h1 : ∀ l : List Int,PyData.canLayAll0 (l.map PyData.int) = true:=fun l => by
    induction l with
    | nil => rfl
    | cons n l ih => show (PyData.canLay0 (.int n) && PyData.canLayAll0 (l.map PyData.int)) = true; rw [ih]; rfl
  have h2 : ∀ l : List Int,PyData.depthAll (l.map PyData.int) = 0:=fun l => by
    induction l with
    | nil => rfl
    | cons n l ih => show max (PyData.depth (.int n)) (PyData.depthAll (l.map PyData.int)) = 0; rw [ih]; rfl
  show (PyData.canLayAll0 (l.map PyData.int) && decide (PyData.depthAll (l.map PyData.int) + 1 ≤ 64)) = true
  rw [h1,h2]; rfl
theorem s_max {a b : Int} : FnTo c σ (.builtin "max") [.int a,.int b] (.int (if b > a then b else a)) σ:=⟨fun c' hs ρ Q q => bMax q⟩
theorem s_intB {b : Bool} : FnTo c σ (.type "int") [.bool b] (.int (if b then 1 else 0)) σ:=⟨fun c' hs ρ Q q => bIntB q⟩
theorem BiTo.mulR {a b : Int} (h : Builtin.Int.intBits b ≤ 64) : BiTo c σ .Mult (.int a) (.int b) (.int (a * b)):=⟨fun c' hs ρ Q q => oMul (.of_right h) q⟩
theorem BiTo.mul {a b : Int} (h : IntMulOk a b) : BiTo c σ .Mult (.int a) (.int b) (.int (a * b)):=⟨fun c' hs ρ Q q => oMul h q⟩
theorem BiTo.ten : BiTo c σ .Pow (.int 10) (.int 18) (.int 1000000000000000000):=⟨fun c' hs ρ Q q => oPow (by decide) (by decide) (by decide) q⟩
noncomputable abbrev srcV (a b : Int) : List V:=[.int a,.int b,.list []]
structure SrcOk (a b : Int) : Prop where
  a0 : 0 ≤ a
  b0 : 0 ≤ b
  b1 : b < 2147483647
noncomputable def poolG (σ : Sto) : Gen:=⟨Int × Int × Addr,fun i => SrcOk i.1 i.2.1,fun i => (.raw (.ref i.2.2),(i.2.2,.list (srcV i.1 i.2.1)) :: σ)⟩
noncomputable def bigR (x : Int) : Int:=if -1 - x > x then -1 - x else x
noncomputable def keepR (g : Int) : Int:=if decide (g ≥ 1000000000000000000) then 1 else 0
noncomputable def mixR (g : Int) : Int:=((g.fmod 2147483629 + 17) * 48271).fmod 2147483647
theorem pool_ok (x : Int) : SrcOk (bigR x * keepR (bigR x)) (mixR (bigR x)):=by
  have h : 0 ≤ bigR x:=by unfold bigR; split <;> omega
  refine ⟨?_,Int.fmod_nonneg_of_pos _ (by decide),Int.fmod_lt_of_pos _ (by decide)⟩
  unfold keepR
  split
  · omega
  · simp
noncomputable def poolO (x : Int) (b : Bool) : Orc:={ muts:=[358011075],ops:=[(355024036,.bool b),(357012043,.int (((bigR x).fmod 2147483629 + 17) * 48271)),(358029037,.int 1000000000000000000),(358012038,.int (bigR x * keepR (bigR x))),(358054066,.bool !b)],calls:=[(356010030,.int (bigR x),none),(358018038,.int (keepR (bigR x)),none)] }
theorem CmTo.eqNil {ds : List V} {xs : List PyData} {b : Bool} (hx : V.pys ds = some xs) (hs : SeqAt.shaped (.list xs) = true) (hb : xs.isEmpty = b) : CmTo c σ .Eq (.list ds) (.list []) (.bool b):=
  ⟨fun c' hs' ρ Q q => oEqR (x:=.list xs) (y:=.list []) (Rd.data (by show (V.pys ds).map _ = _; rw [hx]; rfl)) (Rd.data rfl) hs rfl (by
    have : PyData.eqv (.list xs) (.list []) = b:=by rw [← hb]; cases xs <;> simp [PyData.eqv,PyData.eqvAll]
    rw [this]; exact q)⟩
theorem keepR_bits {x : Int} : Builtin.Int.intBits (keepR x) ≤ 64:=by unfold keepR; split <;> decide
theorem s_pool {is : List Int} (H : Has t c) (hn : 1 ≤ c.n) : FnGe c σ (.ref t.l_pool) [.list (is.map V.int),.list []] (poolG σ):=by
  refine fnGe (ps:=["script", "row"]) (ls:=["cell", "big", "mixed"]) (gl:=[("max",.raw (.builtin "max")),("int",.raw (.type "int"))]) H.l_pool.2 hn (Binds.of2 fun Z Z Z Z Z Z Z Z Z Z => rfl) rfl (SigOk.of (gn:=["max", "int"]) (by decide +kernel)) (gcons (gF H.b_max) (gcons (gF H.b_int) gnil)) ?_
  intro c' hlk hn' hcomp hsc Q q
  have fin : ∀ (x : Int) (S : Addr),Q (.raw (.ref S)) ((S,.list (srcV (bigR x * keepR (bigR x)) (mixR (bigR x)))) :: σ):=fun x S => q (_,_,S) (pool_ok x)
  have m1:=fun (x : Int) => s_max (c:=c') (σ:=σ) (a:=x) (b:=-1 - x)
  have m2:=fun (x : Int) => BiTo.mulR (c:=c') (σ:=σ) (a:=(bigR x).fmod 2147483629 + 17) (b:=48271) (by decide)
  have m3:=fun (x : Int) => s_intB (c:=c') (σ:=σ) (b:=decide (bigR x ≥ 1000000000000000000))
  have m4:=fun (x : Int) => BiTo.mulR (c:=c') (σ:=σ) (a:=bigR x) (b:=keepR (bigR x)) keepR_bits
  have k1 : Callable c' (.builtin "max"):=callable_B
  have k2 : Callable c' (.type "int"):=callable_T
  cases is with
  | nil => exact ⟨poolO 0 false,kc10 (CmTo.neNil (c:=c') (σ:=σ) (ds:=[]) (b:=false) rfl rfl rfl) k1 (m1 0) (m2 0) k2 (BiTo.ten (c:=c') (σ:=σ)) (m3 0) (m4 0) (CmTo.eqNil (c:=c') (σ:=σ) (ds:=[]) (b:=true) rfl rfl rfl) (fin 0)⟩
  | cons i r => exact ⟨poolO i true,kc10 (CmTo.neNil (c:=c') (σ:=σ) (b:=true) (pys_ints (i :: r)) (shaped_ints _) rfl) k1 (m1 i) (m2 i) k2 (BiTo.ten (c:=c') (σ:=σ)) (m3 i) (m4 i) (CmTo.eqNil (c:=c') (σ:=σ) (b:=false) (pys_ints (i :: r)) (shaped_ints _) rfl) (fin i)⟩
end
end
end Mine
end
section
set_option tactic.hygienic false
namespace Mine
noncomputable section
section
variable {t : Tab} {c : Cx} {σ₁ σ₂ : Sto}
theorem ItTo.gl {σ : Sto} {S : Addr} {ds : List V} {i : Nat} {d : V} (hσ : (S,MO.glist ds) ∈ σ) (hd : ds[i]? = some d) (hi : (i : Int) < 2 ^ 63) : ItTo c σ (.raw (.ref S)) (.int i) d:=
  ⟨fun v s hs c' hs' ρ Q q => gListM (.gchg hσ) (by omega) hi (by rw [Int.toNat_natCast]; exact hd) hs q⟩
theorem SeTo.gl {S : Addr} {ds ds' : List V} {i : Nat} {d : V} (hi : i < ds.length) (hb : (i : Int) < 2 ^ 63) (e : ds.set i d = ds') : SeTo c (σ₁ ++ (S,.glist ds) :: σ₂) (.raw (.ref S)) (.int i) d (σ₁ ++ (S,.glist ds') :: σ₂):=
  ⟨fun c' hs ρ Q q => iGlist (by omega) hb (by omega) (by rw [Int.toNat_natCast,e]; exact q)⟩
theorem BiTo.mod {σ : Sto} {a b : Int} (h : b ≠ 0) : BiTo c σ .Mod (.int a) (.int b) (.int (a.fmod b)):=⟨fun c' hs ρ Q q => oMod h q⟩
theorem BiTo.div {σ : Sto} {a b : Int} (h : b ≠ 0) (hb : b.natAbs < 1073741824) : BiTo c σ .FloorDiv (.int a) (.int b) (.int (a.fdiv b)):=⟨fun c' hs ρ Q q => oDiv h hb q⟩
noncomputable def stepR (b : Int) : Int:=(b * 39373 + 7).fmod 2147483647
noncomputable def drawR (b top : Int) : Int:=(((stepR b * stepR b).fmod 2147483629).fdiv 32).fmod top
noncomputable abbrev Src:=Int × Int
noncomputable abbrev srcM (S : Addr) (s : Src) : Addr × MO:=(S,.glist (srcV s.1 s.2))
noncomputable abbrev SOk (s : Src) : Prop:=SrcOk s.1 s.2
noncomputable def takeR (top : Int) (s : Src) : Int × Src:=if s.1 > 0 then (s.1.fmod top,s.1.fdiv top,s.2) else (drawR s.2 top,s.1,stepR s.2)
theorem take_ok {top : Int} {s : Src} (h : SOk s) (ht : 1 ≤ top) : (0 ≤ (takeR top s).1 ∧ (takeR top s).1 < top) ∧ SOk (takeR top s).2:=by
  unfold takeR
  split
  · exact ⟨⟨Int.fmod_nonneg_of_pos _ (by assumption),Int.fmod_lt_of_pos _ (by assumption)⟩,Int.fdiv_nonneg h.a0 (by exact Int.le_of_lt (by assumption)),h.b0,h.b1⟩
  · exact ⟨⟨Int.fmod_nonneg_of_pos _ (by assumption),Int.fmod_lt_of_pos _ (by assumption)⟩,h.a0,Int.fmod_nonneg_of_pos _ (by decide),Int.fmod_lt_of_pos _ (by decide)⟩
theorem s_take {S : Addr} {s : Src} {top : Int} (hs : SOk s) (h1 : 1 ≤ top) (h2 : top ≤ 1000) (H : Has t c) (hn : 1 ≤ c.n) : FnTo c (σ₁ ++ srcM S s :: σ₂) (.ref t.l_take) [.raw (.ref S),.int top] (.int (takeR top s).1) (σ₁ ++ srcM S (takeR top s).2 :: σ₂):=by
  obtain ⟨a,b⟩:=s
  have hs : SrcOk a b:=hs
  refine fnTo (ps:=["source", "top"]) (ls:=["drawn"]) (gl:=[]) H.l_take.2 hn (Binds.of2 fun Z Z Z Z Z Z Z Z Z Z => rfl) rfl (SigOk.of (gn:=[]) (by decide +kernel)) gnil ?_
  intro c' hlk hn' hcomp hsc Q q
  have hσ : ∀ {ds : List V},(S,MO.glist ds) ∈ σ₁ ++ (S,MO.glist ds) :: σ₂:=List.mem_append_right _ (.head _)
  have i0:=fun a b => ItTo.gl (c:=c') (i:=0) (d:=.int a) (hσ (ds:=srcV a b)) rfl (by decide)
  have i1:=fun a b => ItTo.gl (c:=c') (i:=1) (d:=.int b) (hσ (ds:=srcV a b)) rfl (by decide)
  have i2:=fun a b => ItTo.gl (c:=c') (i:=2) (d:=.list []) (hσ (ds:=srcV a b)) rfl (by decide)
  have nn:=CmTo.neNil (c:=c') (σ:=σ₁ ++ (S,.glist (srcV a b)) :: σ₂) (ds:=[]) (b:=false) rfl rfl rfl
  have ht : top ≠ 0:=by exact Int.ne_of_gt (by assumption)
  have hb : 0 ≤ stepR b ∧ stepR b < 2147483647:=⟨Int.fmod_nonneg_of_pos _ (by decide),Int.fmod_lt_of_pos _ (by decide)⟩
  by_cases ha : a > 0
  · refine ⟨{ tests:=[(362007020,true)],ops:=[(360007016,.list []),(360007022,.bool false),(362007016,.int a),(363016025,.int a),(363016031,.int (a.fmod top)),(364020029,.int a),(364020036,.int (a.fdiv top))],sets:=[(364008036,σ₁ ++ (S,.glist (srcV (a.fdiv top) b)) :: σ₂)] },kc10 (i2 a b) nn (i0 a b) (decide_eq_true ha) (i0 a b) (BiTo.mod (c:=c') (σ:=σ₁ ++ (S,.glist (srcV a b)) :: σ₂) (a:=a) ht) (i0 a b) (BiTo.div (c:=c') (σ:=σ₁ ++ (S,.glist (srcV a b)) :: σ₂) (a:=a) ht (by omega)) (SeTo.gl (c:=c') (σ₁:=σ₁) (σ₂:=σ₂) (S:=S) (ds:=srcV a b) (ds':=srcV (a.fdiv top) b) (i:=0) (d:=.int (a.fdiv top)) (by simp) (by decide) rfl)
      (show Q (.int (a.fmod top)) (σ₁ ++ (S,.glist (srcV (a.fdiv top) b)) :: σ₂) from by rw [show takeR top (a,b) = (a.fmod top,a.fdiv top,b) from if_pos ha] at q; exact q)⟩
  · refine ⟨{ tests:=[(362007020,false)],ops:=[(360007016,.list []),(360007022,.bool false),(362007016,.int a),(366017026,.int b),(366017034,.int (b * 39373)),(367011020,.int (stepR b)),(367023032,.int (stepR b)),(367011032,.int (stepR b * stepR b)),(367011051,.int (((stepR b * stepR b).fmod 2147483629).fdiv 32)),(367011057,.int (drawR b top))],sets:=[(366004052,σ₁ ++ (S,.glist (srcV a (stepR b))) :: σ₂)] },kc13 (i2 a b) nn (i0 a b) (decide_eq_false ha) (i1 a b) (BiTo.mulR (c:=c') (σ:=σ₁ ++ (S,.glist (srcV a b)) :: σ₂) (a:=b) (b:=39373) (by decide)) (SeTo.gl (c:=c') (σ₁:=σ₁) (σ₂:=σ₂) (S:=S) (ds:=srcV a b) (ds':=srcV a (stepR b)) (i:=1) (d:=.int (stepR b)) (by simp) (by decide) rfl)
      (i1 a (stepR b)) (i1 a (stepR b)) (BiTo.mulR (c:=c') (σ:=σ₁ ++ (S,.glist (srcV a (stepR b))) :: σ₂) (a:=stepR b) (b:=stepR b) (PySem.intBits_le_iff.mpr (by omega))) (BiTo.div (c:=c') (σ:=σ₁ ++ (S,.glist (srcV a (stepR b))) :: σ₂) (a:=(stepR b * stepR b).fmod 2147483629) (b:=32) (by decide) (by decide)) (BiTo.mod (c:=c') (σ:=σ₁ ++ (S,.glist (srcV a (stepR b))) :: σ₂) (a:=((stepR b * stepR b).fmod 2147483629).fdiv 32) ht)
      (show Q (.int (drawR b top)) (σ₁ ++ (S,.glist (srcV a (stepR b))) :: σ₂) from by rw [show takeR top (a,b) = (drawR b top,a,stepR b) from if_neg ha] at q; exact q)⟩
end
end
end Mine
end
section
set_option tactic.hygienic false
namespace Mine
noncomputable section
section
variable {t : Tab} {c : Cx} {σ₁ σ₂ : Sto}
inductive RowOf : V → List V → Prop
  | list {ds : List V} : ds.length ≤ 1000 → RowOf (.list ds) ds
  | rng {a b : Nat} : a ≤ b → b ≤ 1000 → RowOf (.rng a b) ((List.range (b - a)).map fun i : Nat => V.int ((a : Int) + i))
noncomputable def oneR (ds : List V) (s : Src) : V × Src:=((ds[(takeR ds.length s).1.toNat]?).getD .none,(takeR ds.length s).2)
theorem RowOf.le {w : V} {ds : List V} (h : RowOf w ds) : ds.length ≤ 1000:=by
  cases h with
  | list h => exact h
  | rng h1 h2 => rw [List.length_map,List.length_range]; exact Nat.le_trans (Nat.sub_le _ _) h2
theorem RowOf.len {w : V} {ds : List V} {σ : Sto} (h : RowOf w ds) : FnTo c σ (.builtin "len") [w] (.int ds.length) σ:=⟨fun c' hs ρ Q q => by
  cases h with
  | list h => exact bLenL LRd.data (Nat.lt_of_le_of_lt h (by decide)) q
  | @rng a b h1 h2 =>
    rw [List.length_map,List.length_range] at q
    refine bLenR (Int.ofNat_le.mpr h1) (Int.lt_of_le_of_lt (Int.sub_le_self _ (Int.natCast_nonneg _)) (Int.lt_of_le_of_lt (Int.ofNat_le.mpr h2) (by decide))) ?_
    rw [← Int.ofNat_sub h1]; exact q⟩
theorem x63 {x : Int} {n : Nat} (h : x < n) (hn : n ≤ 1000) : x < 2 ^ 63:=Int.lt_trans h (Int.lt_of_le_of_lt (Int.ofNat_le.mpr hn) (by decide))
theorem RowOf.item {w : V} {ds : List V} {σ : Sto} {x : Int} (h : RowOf w ds) (h0 : 0 ≤ x) (h1 : x < ds.length) : ItTo c σ w (.int x) ((ds[x.toNat]?).getD .none):=⟨fun v s hs c' hc ρ Q q => by
  have lt : x.toNat < ds.length:=(Int.toNat_lt h0).mpr h1
  have b:=x63 h1 h.le
  have e:=List.getElem?_eq_getElem lt
  rw [e] at q
  cases h with
  | list h => exact gListM LRd.data h0 b e hs q
  | @rng u v h2 h3 =>
    rw [List.length_map,List.length_range,Int.ofNat_sub h2] at h1
    refine gRng h0 h1 hs ?_
    rw [List.getElem_map,List.getElem_range,Int.toNat_of_nonneg h0] at q
    exact q⟩
theorem s_one {S : Addr} {s : Src} {w : V} {ds : List V} (hs : SOk s) (h1 : 1 ≤ ds.length) (hw : RowOf w ds) (H : Has t c) (hn : 2 ≤ c.n) : FnTo c (σ₁ ++ srcM S s :: σ₂) (.ref t.l_one) [.raw (.ref S),w] (oneR ds s).1 (σ₁ ++ srcM S (oneR ds s).2 :: σ₂):=by
  refine fnTo (ps:=["source", "things"]) (ls:=[]) (gl:=[("_law_take",.raw (.ref t.l_take)),("len",.raw (.builtin "len"))]) H.l_one.2 (ule hn) (Binds.of2 fun Z Z Z Z Z Z Z Z Z Z => rfl) rfl (SigOk.of (gn:=["_law_take", "len"]) (by decide +kernel)) (gcons (gF H.l_take.1) (gcons (gF H.b_len) gnil)) ?_
  intro c' hlk hn' hcomp hsc Q q
  have H':=H.like hlk
  have b:=take_ok (top:=ds.length) hs (Int.ofNat_le.mpr h1)
  exact ⟨{ calls:=[(369036047,.int ds.length,none),(369018048,.int (takeR ds.length s).1,some (σ₁ ++ srcM S (takeR ds.length s).2 :: σ₂))],ops:=[(369011049,(oneR ds s).1)] },
    kc6 (callable_K (c:=c') H'.l_take.2.keep) (callable_B (c:=c') (T := "len")) (hw.len (c:=c') (σ:=σ₁ ++ srcM S s :: σ₂)) (s_take (σ₁:=σ₁) (σ₂:=σ₂) (S:=S) hs (Int.ofNat_le.mpr h1) (Int.ofNat_le.mpr hw.le) H' (nle hn' hn)) (hw.item (c:=c') (σ:=σ₁ ++ srcM S (takeR ds.length s).2 :: σ₂) b.1.1 b.1.2) q⟩
end
end
end Mine
end
section
set_option tactic.hygienic false
namespace Mine
noncomputable section
section
variable {t : Tab} {c : Cx} {σ₁ σ₂ : Sto}
theorem BiTo.addE {σ : Sto} {a b d : Int} (h : a + b = d) : BiTo c σ .Add (.int a) (.int b) (.int d):=⟨fun c' hs ρ Q q => oAdd (h ▸ q)⟩
theorem BiTo.subE {σ : Sto} {a b d : Int} (h : a - b = d) : BiTo c σ .Sub (.int a) (.int b) (.int d):=⟨fun c' hs ρ Q q => oSub (h ▸ q)⟩
noncomputable def constR (k : Int) : Int:=([0,1,2,100,200,255][k.toNat]?).getD 0
noncomputable def numsV : List V:=[.int 0,.int 1,.int 2,.int 100,.int 200,.int 255]
noncomputable def operandR (numbers n : Nat) (s : Src) : Opd × Src:=
  let w:=takeR ((2 + numbers : Int) + n) s
  if w.1 < 2 then (.num (constR (takeR 6 w.2).1),(takeR 6 w.2).2) else if w.1 < 2 + n then (.loc (w.1 - 1).toNat,w.2) else if numbers = 4 ∧ w.1 = 5 + n then (.part (n + 6) false,w.2) else (.loc (w.1 - 1).toNat,w.2)
theorem numsI : numsV = [0,1,2,100,200,255].map V.int:=rfl
theorem get_map {α β : Type} {f : α → β} {l : List α} {i : Nat} {d : α} {e : β} (h : i < l.length) : ((l.map f)[i]?).getD e = f ((l[i]?).getD d):=by
  rw [List.getElem?_map,List.getElem?_eq_getElem h]; rfl
theorem one_nums {s : Src} (hs : SOk s) : oneR numsV s = (.int (constR (takeR 6 s).1),(takeR 6 s).2):=by
  have h:=(take_ok (top:=6) hs (by decide)).1
  have e:=get_map (f:=V.int) (l:=[0,1,2,100,200,255]) (d:=0) (e:=.none) ((Int.toNat_lt h.1).mpr h.2)
  exact congrArg (·,(takeR 6 s).2) e
theorem top_ok {numbers n : Nat} (hm : numbers = 0 ∨ numbers = 4) (h2 : n ≤ 2) : 1 ≤ (2 + numbers : Int) + n ∧ (2 + numbers : Int) + n ≤ 1000:=
  ⟨Int.ofNat_le.mpr (Nat.le_trans (by decide : 1 ≤ 2) (Nat.le_trans (Nat.le_add_right 2 numbers) (Nat.le_add_right _ n))),Int.ofNat_le.mpr (Nat.le_trans (Nat.add_le_add (Nat.add_le_add_left (hm.elim (fun e => e ▸ Nat.zero_le 4) Nat.le_of_eq) 2) h2) (by decide : 2 + 4 + 2 ≤ 1000))⟩
theorem nat6 (n : Nat) : (n : Int) + 1 + 5 = ((n + 6 : Nat) : Int):=rfl
theorem natPred {w : Int} (h : ¬ w < 2) : w - 1 = ((w - 1).toNat : Nat):=(Int.toNat_of_nonneg (Int.sub_nonneg_of_le (Int.le_trans (by decide : (1 : Int) ≤ 2) (Int.not_lt.mp h)))).symm
theorem natPred2 {w : Int} {n : Nat} (h : ¬ w < 2) : (n : Int) + 1 + w - 2 - n = ((w - 1).toNat : Nat):=by
  rw [← natPred h,Int.add_assoc,Int.add_sub_assoc,Int.add_comm,Int.add_sub_cancel,Int.add_comm 1 w,Int.add_sub_assoc]; rfl
theorem is4 {numbers : Nat} : ((numbers : Int) == 4) = decide (numbers = 4):=by
  cases h : decide (numbers = 4) with
  | true => rw [of_decide_eq_true h]; rfl
  | false => exact beq_eq_false_iff_ne.mpr fun e => of_decide_eq_false h (Int.ofNat.inj e)
noncomputable def opO (w : Int) (s' : Src) (σ₁ σ₂ : Sto) (S : Addr) (n : Nat) (b1 b2 b3 b4 : Bool) : Orc where
  calls:=[(391010052,.int w,some (σ₁ ++ srcM S s' :: σ₂)),(393040082,.int (constR (takeR 6 s').1),some (σ₁ ++ srcM S (takeR 6 s').2 :: σ₂))]
  tests:=[(392007014,b1),(394007026,b2),(396007019,b3),(396024044,b4)]
  ops:=[(395025032,.int ((w - 1).toNat : Nat)),(397025034,.int ((n + 6 : Nat) : Int)),(398021048,.int ((w - 1).toNat : Nat))]
theorem s_operand {S : Addr} {s : Src} {numbers n : Nat} (hs : SOk s) (hm : numbers = 0 ∨ numbers = 4) (h2 : n ≤ 2) (H : Has t c) (hn : 3 ≤ c.n) : FnTo c (σ₁ ++ srcM S s :: σ₂) (.ref t.l_operand) [.raw (.ref S),.int numbers,.int n] (operandR numbers n s).1.v (σ₁ ++ srcM S (operandR numbers n s).2 :: σ₂):=by
  refine fnTo (ps:=["source", "numbers", "arguments"]) (ls:=["first", "way"]) (gl:=[("_law_take",.raw (.ref t.l_take)),("_law_one",.raw (.ref t.l_one))]) H.l_operand.2 (ule hn) (Binds.of3 fun Z Z Z Z Z Z Z Z Z Z Z => rfl) rfl (SigOk.of (gn:=["_law_take", "_law_one"]) (by decide +kernel)) (gcons (gF H.l_take.1) (gcons (gF H.l_one.1) gnil)) ?_
  intro c' hlk hn' hcomp hsc Q q
  have H':=H.like hlk
  have k1 : Callable c' (.ref t.l_take):=callable_K H'.l_take.2.keep
  have k2 : Callable c' (.ref t.l_one):=callable_K H'.l_one.2.keep
  have st:=s_take (σ₁:=σ₁) (σ₂:=σ₂) (S:=S) hs (top_ok hm h2).1 (top_ok hm h2).2 H' (nle hn' hn)
  obtain ⟨⟨h0,h1⟩,hs'⟩:=take_ok hs (top_ok hm h2).1
  unfold operandR at q
  obtain ⟨w,s',hp⟩ : ∃ w s',takeR ((2 + numbers : Int) + n) s = (w,s'):=⟨_,_,rfl⟩
  rw [hp] at st h0 h1 hs' q
  have h0 : 0 ≤ w:=h0
  have h1 : w < (2 + numbers : Int) + n:=h1
  have so:=s_one (σ₁:=σ₁) (σ₂:=σ₂) (S:=S) (w:=.list numsV) (ds:=numsV) hs' (by decide) (.list (by decide)) H' (nle hn' hn)
  rw [one_nums hs'] at so
  by_cases c1 : w < 2
  · rw [if_pos c1] at q
    exact ⟨opO w s' σ₁ σ₂ S n true false false false,kc6 k1 st (decide_eq_true c1) k2 so (show Q (Opd.num (constR (takeR 6 s').1)).v (σ₁ ++ srcM S (takeR 6 s').2 :: σ₂) from q)⟩
  · rw [if_neg c1] at q
    by_cases c2 : w < 2 + n
    · rw [if_pos c2] at q
      exact ⟨opO w s' σ₁ σ₂ S n false true false false,kc6 k1 st (decide_eq_false c1) (decide_eq_true c2) (BiTo.subE (c:=c') (σ:=σ₁ ++ srcM S s' :: σ₂) (natPred c1)) (show Q (Opd.loc (w - 1).toNat).v (σ₁ ++ srcM S s' :: σ₂) from q)⟩
    · rw [if_neg c2] at q
      by_cases c3 : numbers = 4
      · by_cases c4 : w = 5 + n
        · exact ⟨opO w s' σ₁ σ₂ S n false false true true,kc8 k1 st (decide_eq_false c1) (decide_eq_false c2) (is4.trans (decide_eq_true c3)) (beq_iff_eq.mpr c4) (BiTo.addE (c:=c') (σ:=σ₁ ++ srcM S s' :: σ₂) (nat6 n)) (show Q (Opd.part (n + 6) false).v (σ₁ ++ srcM S s' :: σ₂) from by rwa [if_pos ⟨c3,c4⟩] at q)⟩
        · exact ⟨opO w s' σ₁ σ₂ S n false false true false,kc8 k1 st (decide_eq_false c1) (decide_eq_false c2) (is4.trans (decide_eq_true c3)) (beq_eq_false_iff_ne.mpr c4) (BiTo.subE (c:=c') (σ:=σ₁ ++ srcM S s' :: σ₂) (natPred2 (n:=n) c1)) (show Q (Opd.loc (w - 1).toNat).v (σ₁ ++ srcM S s' :: σ₂) from by rwa [if_neg fun e => c4 e.2] at q)⟩
      · exact ⟨opO w s' σ₁ σ₂ S n false false false false,kc7 k1 st (decide_eq_false c1) (decide_eq_false c2) (is4.trans (decide_eq_false c3)) (BiTo.subE (c:=c') (σ:=σ₁ ++ srcM S s' :: σ₂) (natPred2 (n:=n) c1)) (show Q (Opd.loc (w - 1).toNat).v (σ₁ ++ srcM S s' :: σ₂) from by rwa [if_neg fun e => c3 e.1] at q)⟩
end
end
end Mine
end
section
set_option tactic.hygienic false
namespace Mine
noncomputable section
section
variable {t : Tab} {c : Cx} {σ₁ σ₂ : Sto}
noncomputable def truthL (n : Nat) : List Opd:=[.loc (n + 4),.loc (n + 5),.part (n + 6) true,.bit true]
noncomputable def pickR {α : Type} (l : List α) (d : α) (s : Src) : α × Src:=((l[(takeR l.length s).1.toNat]?).getD d,(takeR l.length s).2)
theorem one_pick {α : Type} {f : α → V} {l : List α} {d : α} {s : Src} (hs : SOk s) (hl : 1 ≤ l.length) : oneR (l.map f) s = (f (pickR l d s).1,(pickR l d s).2):=by
  obtain ⟨⟨h0,h1⟩,_⟩:=take_ok (top:=l.length) hs (by exact Int.ofNat_le.mpr (by assumption))
  unfold oneR pickR
  rw [List.length_map]
  obtain ⟨x,s',e⟩ : ∃ x s',takeR l.length s = (x,s'):=⟨_,_,rfl⟩
  rw [e] at h0 h1 ⊢
  have h1 : x < l.length:=h1
  have h0 : 0 ≤ x:=h0
  have hlt : x.toNat < l.length:=by exact (Int.toNat_lt (by assumption)).mpr (by assumption)
  simp [hlt]
theorem pick_ok {α : Type} {l : List α} {d : α} {s : Src} (hs : SOk s) (hl : 1 ≤ l.length) : (pickR l d s).1 ∈ l ∧ SOk (pickR l d s).2:=by
  obtain ⟨⟨h0,h1⟩,h2⟩:=take_ok (top:=l.length) hs (by exact Int.ofNat_le.mpr (by assumption))
  unfold pickR
  obtain ⟨x,s',e⟩ : ∃ x s',takeR l.length s = (x,s'):=⟨_,_,rfl⟩
  rw [e] at h0 h1 h2 ⊢
  have h1 : x < l.length:=h1
  have h0 : 0 ≤ x:=h0
  have hlt : x.toNat < l.length:=by exact (Int.toNat_lt (by assumption)).mpr (by assumption)
  simp [hlt]
  exact h2
theorem s_pick {α : Type} {f : α → V} {l : List α} {d : α} {S : Addr} {s : Src} (hs : SOk s) (hl : 1 ≤ l.length) (hl' : l.length ≤ 1000) (H : Has t c) (hn : 2 ≤ c.n) : FnTo c (σ₁ ++ srcM S s :: σ₂) (.ref t.l_one) [.raw (.ref S),.list (l.map f)] (f (pickR l d s).1) (σ₁ ++ srcM S (pickR l d s).2 :: σ₂):=by
  have:=s_one (σ₁:=σ₁) (σ₂:=σ₂) (S:=S) (w:=.list (l.map f)) (ds:=l.map f) hs (by rw [List.length_map]; exact hl) (.list (by rw [List.length_map]; exact hl')) H hn
  rwa [one_pick (d:=d) hs hl] at this
noncomputable abbrev truthR (n : Nat) (s : Src) : Opd × Src:=pickR (truthL n) (.bit true) s
theorem s_truth {S : Addr} {s : Src} {n : Nat} (hs : SOk s) (H : Has t c) (hn : 3 ≤ c.n) : FnTo c (σ₁ ++ srcM S s :: σ₂) (.ref t.l_truth) [.raw (.ref S),.int n] (truthR n s).1.v (σ₁ ++ srcM S (truthR n s).2 :: σ₂):=by
  refine fnTo (ps:=["source", "arguments"]) (ls:=["first", "some"]) (gl:=[("_law_one",.raw (.ref t.l_one))]) H.l_truth.2 (ule hn) (Binds.of2 fun Z Z Z Z Z Z Z Z Z Z => rfl) rfl (SigOk.of (gn:=["_law_one"]) (by decide +kernel)) (gcons (gF H.l_one.1) gnil) ?_
  intro c' hlk hn' hcomp hsc Q q
  have H':=H.like hlk
  have k2 : Callable c' (.ref t.l_one):=callable_K H'.l_one.2.keep
  have so:=s_pick (c:=c') (t:=t) (σ₁:=σ₁) (σ₂:=σ₂) (S:=S) (f:=Opd.v) (l:=truthL n) (d:=.bit true) hs (by simp [truthL]) (by simp [truthL]) H' (nle hn' hn)
  have ad:=fun (k : Int) (d : Nat) (h : (n : Int) + 1 + k = d) => BiTo.addE (c:=c') (σ:=σ₁ ++ srcM S s :: σ₂) (a:=(n : Int) + 1) (b:=k) (d:=d) h
  exact ⟨{ ops:=[(401022031,.int ((n + 4 : Nat) : Int)),(401049058,.int ((n + 5 : Nat) : Int)),(401076085,.int ((n + 6 : Nat) : Int))],calls:=[(402011064,(truthR n s).1.v,some (σ₁ ++ srcM S (truthR n s).2 :: σ₂))] },
    kc6 (ad 3 (n + 4) (rfl)) (ad 4 (n + 5) (rfl)) (ad 5 (n + 6) (rfl)) k2 so q⟩
end
end
end Mine
end
section
set_option tactic.hygienic false
namespace Mine
noncomputable section
section
variable {t : Tab} {c : Cx} {σ₁ σ₂ : Sto}
noncomputable def arL : List Ar:=[.add,.sub,.mul,.and,.or,.xor]
noncomputable def ckL : List Ar:=[.add,.sub,.mul]
noncomputable def cmL : List Cm:=[.eq,.ne,.lt,.le,.gt,.ge]
noncomputable def unS (b : Bool) : V:=.str (if b then "!" else "-")
noncomputable def unV (b : Bool) (o : Opd) : Rv:=if b then .inv o else .neg o
theorem unV_v (b : Bool) (o : Opd) : (unV b o).v = .tup [.str "unary",unS b,o.v]:=by cases b <;> rfl
set_option genInjectivity false in
set_option genSizeOf false in
structure Pre where
  o1 : Opd
  o2 : Opd
  num : Nat
  tru : Nat
  s : Src
noncomputable def preR (n : Nat) (s : Src) : Pre:=
  let a:=operandR 4 n s
  let b:=operandR 4 n a.2
  let k:=takeR 3 b.2
  let j:=takeR 2 k.2
  ⟨a.1,b.1,n + 1 + k.1.toNat,n + 4 + j.1.toNat,j.2⟩
noncomputable def stmR (n : Nat) (w : Int) (p : Pre) : List Stm × Src:=
  if w = 0 then ([.print p.o1],p.s)
  else if w = 1 then ([.asg p.num (.use p.o1)],p.s)
  else if w = 2 then ([.asg p.num (.binary (.ar (pickR arL .add p.s).1) p.o1 p.o2)],(pickR arL .add p.s).2)
  else if w = 3 then ([.asg (n + 6) (.checked (pickR ckL .add p.s).1 p.o1 p.o2)],(pickR ckL .add p.s).2)
  else if w = 4 then ([.asg p.tru (.binary (.cm (pickR cmL .eq p.s).1) p.o1 p.o2)],(pickR cmL .eq p.s).2)
  else if w = 5 then ([.asg p.num (unV (pickR [true,false] true p.s).1 p.o1),.nop],(pickR [true,false] true p.s).2)
  else if w = 6 then ([.asg p.tru (.inv (truthR n p.s).1),.print (.loc p.tru)],(truthR n p.s).2)
  else ([.asg p.num (.cast (truthR n p.s).1),.asg 0 (.use p.o1)],(truthR n p.s).2)
noncomputable def statementR (n : Nat) (s : Src) : List Stm × Src:=stmR n (takeR 8 s).1 (preR n (takeR 8 s).2)
theorem operand_ok {numbers n : Nat} {s : Src} (hs : SOk s) (hm : numbers = 0 ∨ numbers = 4) : SOk (operandR numbers n s).2:=by
  have h:=(take_ok (top:=(2 + numbers : Int) + n) hs (Int.ofNat_le.mpr (Nat.le_trans (by decide : 1 ≤ 2) (Nat.le_trans (Nat.le_add_right 2 numbers) (Nat.le_add_right _ n))))).2
  have e : (operandR numbers n s).2 = (takeR 6 (takeR ((2 + numbers : Int) + n) s).2).2 ∨ (operandR numbers n s).2 = (takeR ((2 + numbers : Int) + n) s).2:=by
    unfold operandR
    dsimp only
    split
    · exact .inl rfl
    · split
      · exact .inr rfl
      · split <;> exact .inr rfl
  rcases e with e | e <;> rw [e]
  · exact (take_ok h (by decide)).2
  · exact h
theorem natAdd {a : Nat} {k : Int} (h : 0 ≤ k) : (a : Int) + k = ((a + k.toNat : Nat) : Int):=by rw [Int.natCast_add,Int.toNat_of_nonneg h]
theorem stepI {w k : Int} {P : Prop} (h : w < k + 1) (a : w < k → P) (b : w = k → P) : P:=(Int.lt_or_eq_of_le (Int.lt_add_one_iff.mp h)).elim a b
theorem eight {w : Int} (h0 : 0 ≤ w) (h1 : w < 8) : w = 0 ∨ w = 1 ∨ w = 2 ∨ w = 3 ∨ w = 4 ∨ w = 5 ∨ w = 6 ∨ w = 7:=
  stepI (k:=7) h1 (fun h => stepI (k:=6) h (fun h => stepI (k:=5) h (fun h => stepI (k:=4) h (fun h => stepI (k:=3) h (fun h => stepI (k:=2) h (fun h => stepI (k:=1) h (fun h => stepI (k:=0) h (fun h => absurd h (Int.not_lt.mpr h0)) .inl) (fun e => .inr (.inl e))) (fun e => .inr (.inr (.inl e)))) (fun e => .inr (.inr (.inr (.inl e))))) (fun e => .inr (.inr (.inr (.inr (.inl e)))))) (fun e => .inr (.inr (.inr (.inr (.inr (.inl e))))))) (fun e => .inr (.inr (.inr (.inr (.inr (.inr (.inl e)))))))) (fun e => .inr (.inr (.inr (.inr (.inr (.inr (.inr e)))))))
noncomputable def stO (n : Nat) (w : Int) (s0 : Src) (S : Addr) (σ₁ σ₂ : Sto) (d : V) (e : Src) : Orc:=
  let a:=operandR 4 n s0
  let b:=operandR 4 n a.2
  let k:=takeR 3 b.2
  let j:=takeR 2 k.2
  { calls:=[(404033053,.int w,some (σ₁ ++ srcM S s0 :: σ₂)),(405018052,a.1.v,some (σ₁ ++ srcM S a.2 :: σ₂)),(405054088,b.1.v,some (σ₁ ++ srcM S b.2 :: σ₂)),(406030050,.int k.1,some (σ₁ ++ srcM S k.2 :: σ₂)),(406070090,.int j.1,some (σ₁ ++ srcM S j.2 :: σ₂)),(412046094,d,some (σ₁ ++ srcM S e :: σ₂)),(414056089,d,some (σ₁ ++ srcM S e :: σ₂)),(416045097,d,some (σ₁ ++ srcM S e :: σ₂)),(418045073,d,some (σ₁ ++ srcM S e :: σ₂)),(420049078,d,some (σ₁ ++ srcM S e :: σ₂)),(421020049,d,some (σ₁ ++ srcM S e :: σ₂))]
    ops:=[(406022050,.int ((n + 1 + k.1.toNat : Nat) : Int)),(406058090,.int ((n + 4 + j.1.toNat : Nat) : Int)),(414028037,.int ((n + 6 : Nat) : Int))]
    muts:=[408015031,410015049,412015109,414015104,416015112,418015091,420015109,422011072] }
noncomputable def StPre (c : Cx) (t : Tab) (σ₁ σ₂ : Sto) (S : Addr) (n : Nat) (s s0 : Src) (w : Int) (X : Prop) : Prop:=
  let a:=operandR 4 n s0
  let b:=operandR 4 n a.2
  let k:=takeR 3 b.2
  let j:=takeR 2 k.2
  Callable c (.ref t.l_take) ∧ FnTo c (σ₁ ++ srcM S s :: σ₂) (.ref t.l_take) [.raw (.ref S),.int 8] (.int w) (σ₁ ++ srcM S s0 :: σ₂) ∧
  Callable c (.ref t.l_operand) ∧ FnTo c (σ₁ ++ srcM S s0 :: σ₂) (.ref t.l_operand) [.raw (.ref S),.int 4,.int n] a.1.v (σ₁ ++ srcM S a.2 :: σ₂) ∧
  Callable c (.ref t.l_operand) ∧ FnTo c (σ₁ ++ srcM S a.2 :: σ₂) (.ref t.l_operand) [.raw (.ref S),.int 4,.int n] b.1.v (σ₁ ++ srcM S b.2 :: σ₂) ∧
  Callable c (.ref t.l_take) ∧ FnTo c (σ₁ ++ srcM S b.2 :: σ₂) (.ref t.l_take) [.raw (.ref S),.int 3] (.int k.1) (σ₁ ++ srcM S k.2 :: σ₂) ∧
  BiTo c (σ₁ ++ srcM S k.2 :: σ₂) .Add (.int ((n : Int) + 1)) (.int k.1) (.int ((n + 1 + k.1.toNat : Nat) : Int)) ∧
  Callable c (.ref t.l_take) ∧ FnTo c (σ₁ ++ srcM S k.2 :: σ₂) (.ref t.l_take) [.raw (.ref S),.int 2] (.int j.1) (σ₁ ++ srcM S j.2 :: σ₂) ∧
  BiTo c (σ₁ ++ srcM S j.2 :: σ₂) .Add (.int ((n : Int) + 1 + 3)) (.int j.1) (.int ((n + 4 + j.1.toNat : Nat) : Int)) ∧ X
theorem stPre {S : Addr} {n : Nat} {s s0 : Src} {w : Int} {X : Prop} (hs : SOk s) (hp : takeR 8 s = (w,s0)) (h2 : n ≤ 2) (H : Has t c) (hn : 3 ≤ c.n) (x : SOk (preR n s0).s → X) : StPre c t σ₁ σ₂ S n s s0 w X:=by
  have st:=s_take (c:=c) (σ₁:=σ₁) (σ₂:=σ₂) (S:=S) (top:=8) hs (by decide) (by decide) H (ule hn)
  have hs0:=(take_ok (top:=8) hs (by decide)).2
  rw [hp] at st hs0
  have ha':=operand_ok (numbers:=4) (n:=n) hs0 (.inr rfl)
  have hb':=operand_ok (numbers:=4) (n:=n) ha' (.inr rfl)
  obtain ⟨hkb,hk'⟩:=take_ok (top:=3) hb' (by decide)
  obtain ⟨hjb,hj'⟩:=take_ok (top:=2) hk' (by decide)
  have k1:=callable_K (c:=c) H.l_take.2.keep
  have k2:=callable_K (c:=c) H.l_operand.2.keep
  exact ⟨k1,st,k2,s_operand (numbers:=4) hs0 (.inr rfl) h2 H hn,k2,s_operand (numbers:=4) ha' (.inr rfl) h2 H hn,k1,s_take hb' (by decide) (by decide) H (ule hn),BiTo.addE (natAdd (a:=n + 1) hkb.1),k1,s_take hk' (by decide) (by decide) H (ule hn),BiTo.addE (natAdd (a:=n + 4) hjb.1),x hj'⟩
section
variable {S : Addr} {s s0 : Src} {n : Nat} {Q : Fl → Vars → Sto → Prop}
noncomputable abbrev stV (t : Tab) (S : Addr) (n : Nat) : Vars:=startVars ["source", "arguments"] ["first", "way", "one", "other", "number", "truth", "made"] [("_law_take",.raw (.ref t.l_take)),("_law_operand",.raw (.ref t.l_operand)),("_law_one",.raw (.ref t.l_one)),("_law_truth",.raw (.ref t.l_truth))] [.raw (.ref S),.int n]
noncomputable abbrev StQ (w : Int) (S : Addr) (n : Nat) (s0 : Src) (σ₁ σ₂ : Sto) (Q : V → Sto → Prop) : Prop:=∀ B : Addr,Q (.raw (.ref B)) ((B,.list ((stmR n w (preR n s0)).1.map Stm.v)) :: (σ₁ ++ srcM S (stmR n w (preR n s0)).2 :: σ₂))
noncomputable abbrev StX (c : Cx) (t : Tab) (σ₁ σ₂ : Sto) (S : Addr) (n : Nat) (s : Src) (Q : V → Sto → Prop) : Prop:=∃ O,xv c (scopeOf (stmtAt 40)) O 60 (stV t S n) (σ₁ ++ srcM S s :: σ₂) (bodyOf (stmtAt 40)) (Ends Q)
theorem stPick {α : Type} (f : α → V) (l : List α) (d : α) (h1 : 1 ≤ l.length) (h2 : l.length ≤ 1000) (hs : SOk s) (H : Has t c) (hn : 2 ≤ c.n) : FnTo c (σ₁ ++ srcM S s :: σ₂) (.ref t.l_one) [.raw (.ref S),.list (l.map f)] (f (pickR l d s).1) (σ₁ ++ srcM S (pickR l d s).2 :: σ₂):=s_pick hs h1 h2 H hn
theorem stAll {Q : V → Sto → Prop} (hs : SOk s) (h0 : 0 ≤ (takeR 8 s).1) (h1 : (takeR 8 s).1 < 8) (h2 : n ≤ 2) (H : Has t c) (hn : 3 ≤ c.n) (q : StQ (takeR 8 s).1 S n (takeR 8 s).2 σ₁ σ₂ Q) : StX c t σ₁ σ₂ S n s Q:=by
  have pre:=fun (w : Int) (hp : takeR 8 s = (w,(takeR 8 s).2)) (X : Prop) (x : SOk (preR n (takeR 8 s).2).s → X) => stPre (c:=c) (σ₁:=σ₁) (σ₂:=σ₂) (S:=S) hs hp h2 H hn x
  have hp : takeR 8 s = ((takeR 8 s).1,(takeR 8 s).2):=rfl
  revert h0 h1 q hp
  generalize (takeR 8 s).1 = w
  intro h0 h1 q hp
  have k3:=callable_K (c:=c) H.l_one.2.keep
  have k4:=callable_K (c:=c) H.l_truth.2.keep
  rcases eight h0 h1 with rfl | rfl | rfl | rfl | rfl | rfl | rfl | rfl
  · exact ⟨stO n 0 (takeR 8 s).2 S σ₁ σ₂ .none (takeR 8 s).2,kc1 (pre 0 hp _ fun Z => q)⟩
  · exact ⟨stO n 1 (takeR 8 s).2 S σ₁ σ₂ .none (takeR 8 s).2,kc1 (pre 1 hp _ fun Z => q)⟩
  · exact ⟨stO n 2 (takeR 8 s).2 S σ₁ σ₂ (.str (pickR arL .add (preR n (takeR 8 s).2).s).1.str) (pickR arL .add (preR n (takeR 8 s).2).s).2,kc1 (pre 2 hp _ fun hj => And.intro k3 (And.intro (stPick (c:=c) (σ₁:=σ₁) (σ₂:=σ₂) (S:=S) (fun o : Ar => V.str o.str) arL .add (by decide) (by decide) hj H (ule hn)) q))⟩
  · exact ⟨stO n 3 (takeR 8 s).2 S σ₁ σ₂ (.str (pickR ckL .add (preR n (takeR 8 s).2).s).1.str) (pickR ckL .add (preR n (takeR 8 s).2).s).2,kc1 (pre 3 hp _ fun hj => And.intro (BiTo.addE (c:=c) (σ:=σ₁ ++ srcM S (preR n (takeR 8 s).2).s :: σ₂) (nat6 n)) (And.intro k3 (And.intro (stPick (c:=c) (σ₁:=σ₁) (σ₂:=σ₂) (S:=S) (fun o : Ar => V.str o.str) ckL .add (by decide) (by decide) hj H (ule hn)) q)))⟩
  · exact ⟨stO n 4 (takeR 8 s).2 S σ₁ σ₂ (.str (pickR cmL .eq (preR n (takeR 8 s).2).s).1.str) (pickR cmL .eq (preR n (takeR 8 s).2).s).2,kc1 (pre 4 hp _ fun hj => And.intro k3 (And.intro (stPick (c:=c) (σ₁:=σ₁) (σ₂:=σ₂) (S:=S) (fun o : Cm => V.str o.str) cmL .eq (by decide) (by decide) hj H (ule hn)) q))⟩
  · have q5 : ∀ B : Addr,Q (.raw (.ref B)) ((B,.list [.tup [.str "assign",placeV (preR n (takeR 8 s).2).num,.tup [.str "unary",unS (pickR [true,false] true (preR n (takeR 8 s).2).s).1,(preR n (takeR 8 s).2).o1.v]],.tup [.str "nop"]]) :: (σ₁ ++ srcM S (pickR [true,false] true (preR n (takeR 8 s).2).s).2 :: σ₂)):=fun B => by
      rw [← unV_v]; exact q B
    exact ⟨stO n 5 (takeR 8 s).2 S σ₁ σ₂ (unS (pickR [true,false] true (preR n (takeR 8 s).2).s).1) (pickR [true,false] true (preR n (takeR 8 s).2).s).2,kc1 (pre 5 hp _ fun hj => And.intro k3 (And.intro (stPick (c:=c) (σ₁:=σ₁) (σ₂:=σ₂) (S:=S) unS [true,false] true (by decide) (by decide) hj H (ule hn)) q5))⟩
  · exact ⟨stO n 6 (takeR 8 s).2 S σ₁ σ₂ (truthR n (preR n (takeR 8 s).2).s).1.v (truthR n (preR n (takeR 8 s).2).s).2,kc1 (pre 6 hp _ fun hj => And.intro k4 (And.intro (s_truth (c:=c) (σ₁:=σ₁) (σ₂:=σ₂) (S:=S) (n:=n) hj H hn) q))⟩
  · exact ⟨stO n 7 (takeR 8 s).2 S σ₁ σ₂ (truthR n (preR n (takeR 8 s).2).s).1.v (truthR n (preR n (takeR 8 s).2).s).2,kc1 (pre 7 hp _ fun hj => And.intro k4 (And.intro (s_truth (c:=c) (σ₁:=σ₁) (σ₂:=σ₂) (S:=S) (n:=n) hj H hn) q))⟩
end
theorem s_statement {S : Addr} {s : Src} {n : Nat} (hs : SOk s) (h2 : n ≤ 2) (H : Has t c) (hn : 4 ≤ c.n) : FnGe c (σ₁ ++ srcM S s :: σ₂) (.ref t.l_statement) [.raw (.ref S),.int n] ⟨Addr,fun Z => True,fun B => (.raw (.ref B),(B,.list ((statementR n s).1.map Stm.v)) :: (σ₁ ++ srcM S (statementR n s).2 :: σ₂))⟩:=by
  refine fnGe (ps:=["source", "arguments"]) (ls:=["first", "way", "one", "other", "number", "truth", "made"]) (gl:=[("_law_take",.raw (.ref t.l_take)),("_law_operand",.raw (.ref t.l_operand)),("_law_one",.raw (.ref t.l_one)),("_law_truth",.raw (.ref t.l_truth))]) H.l_statement.2 (ule hn) (Binds.of2 fun Z Z Z Z Z Z Z Z Z Z => rfl) rfl (SigOk.of (gn:=["_law_take", "_law_operand", "_law_one", "_law_truth"]) (by decide +kernel)) (gcons (gF H.l_take.1) (gcons (gF H.l_operand.1) (gcons (gF H.l_one.1) (gcons (gF H.l_truth.1) gnil)))) ?_
  intro c' hlk hn' hcomp hsc Q q
  have H':=H.like hlk
  obtain ⟨⟨h0,h1⟩,_⟩:=take_ok (top:=8) hs (by decide)
  have q : StQ (takeR 8 s).1 S n (takeR 8 s).2 σ₁ σ₂ Q:=fun B => q B trivial
  exact stAll hs h0 h1 h2 H' (nle hn' hn) q
end
end
end Mine
end
section
set_option tactic.hygienic false
namespace Mine
noncomputable section
section
variable {t : Tab} {c : Cx} {σ₁ σ₂ : Sto}
noncomputable def trmL : List Trm:=[.ret,.ret,.panic]
noncomputable def laterR (lo hi : Nat) (s : Src) : Nat × Src:=(lo + (takeR ((hi - lo : Nat) : Int) s).1.toNat,(takeR ((hi - lo : Nat) : Int) s).2)
theorem later_ok {lo hi : Nat} {s : Src} (hs : SOk s) (h : lo < hi) : (lo ≤ (laterR lo hi s).1 ∧ (laterR lo hi s).1 < hi) ∧ SOk (laterR lo hi s).2:=by
  obtain ⟨⟨h0,h1⟩,h2⟩:=take_ok (top:=((hi - lo : Nat) : Int)) hs (Int.ofNat_le.mpr (Nat.sub_pos_of_lt h))
  exact ⟨⟨by show lo ≤ lo + _; exact Nat.le_add_right _ _,Nat.add_lt_of_lt_sub' ((Int.toNat_lt h0).mpr h1)⟩,h2⟩
theorem s_later {S : Addr} {s : Src} {lo hi : Nat} (hs : SOk s) (h : lo < hi) (hh : hi ≤ 1000) (H : Has t c) (hn : 2 ≤ c.n) : FnTo c (σ₁ ++ srcM S s :: σ₂) (.ref t.l_one) [.raw (.ref S),.rng lo hi] (natV (laterR lo hi s).1) (σ₁ ++ srcM S (laterR lo hi s).2 :: σ₂):=by
  have:=s_one (σ₁:=σ₁) (σ₂:=σ₂) (S:=S) (w:=.rng lo hi) hs (by rw [List.length_map,List.length_range]; exact Nat.sub_pos_of_lt h) (.rng (Nat.le_of_lt h) hh) H hn
  obtain ⟨⟨h0,h1⟩,h2⟩:=take_ok (top:=((hi - lo : Nat) : Int)) hs (Int.ofNat_le.mpr (Nat.sub_pos_of_lt h))
  have e : oneR ((List.range (hi - lo)).map fun i : Nat => V.int ((lo : Int) + i)) s = (natV (laterR lo hi s).1,(laterR lo hi s).2):=by
    unfold oneR laterR
    rw [List.length_map,List.length_range,List.getElem?_map,List.getElem?_range ((Int.toNat_lt h0).mpr h1)]
    rfl
  rwa [e] at this
noncomputable def endW (n block many : Nat) (w : Int) (s0 : Src) : Trm × Src:=
  let a:=laterR (block + 1) many s0
  let b:=laterR (block + 1) many a.2
  if w = 0 then (.goto a.1,b.2)
  else if w = 1 then (.swB (truthR n b.2).1 a.1 b.1,(truthR n b.2).2)
  else if w = 2 then (.swN (operandR 4 n b.2).1 a.1 b.1 (many - 1),(operandR 4 n b.2).2)
  else (.asrt (truthR n b.2).1 a.1,(truthR n b.2).2)
noncomputable def endR (n block many : Nat) (s : Src) : Trm × Src:=
  if block + 1 = many then pickR trmL .ret s else endW n block many (takeR 4 s).1 (takeR 4 s).2
noncomputable def enO (block many : Nat) (w : Int) (s0 : Src) (S : Addr) (σ₁ σ₂ : Sto) (d : V) (e : Src) : Orc:=
  let a:=laterR (block + 1) many s0
  let b:=laterR (block + 1) many a.2
  { calls:=[(426018040,.rng ((block + 1 : Nat) : Int) (many : Nat),none),(426042062,.int w,some (σ₁ ++ srcM S s0 :: σ₂)),(427018041,natV a.1,some (σ₁ ++ srcM S a.2 :: σ₂)),(427043066,natV b.1,some (σ₁ ++ srcM S b.2 :: σ₂)),(431026055,d,some (σ₁ ++ srcM S e :: σ₂)),(433026060,d,some (σ₁ ++ srcM S e :: σ₂)),(434022051,d,some (σ₁ ++ srcM S e :: σ₂))]
    ops:=[(433088096,.int ((many - 1 : Nat) : Int))]
    tests:=[(424007024,false)] }
theorem s_range {σ : Sto} {a b : Int} {lo hi : Nat} (h1 : a = lo) (h2 : b = hi) : FnTo c σ (.type "range") [.int a,.int b] (.rng lo hi) σ:=⟨fun c' hs ρ Q q => bRange2 (by rw [h1,h2]; exact q)⟩
theorem s_end {S : Addr} {s : Src} {n block many : Nat} (hs : SOk s) (h2 : n ≤ 2) (hb : block < many) (hm : many ≤ 10) (H : Has t c) (hn : 4 ≤ c.n) : FnTo c (σ₁ ++ srcM S s :: σ₂) (.ref t.l_end) [.raw (.ref S),.int n,.int block,.int many] (endR n block many s).1.v (σ₁ ++ srcM S (endR n block many s).2 :: σ₂):=by
  refine fnTo (ps:=["source", "arguments", "block", "many"]) (ls:=["later", "way", "one", "other"]) (gl:=[("_law_one",.raw (.ref t.l_one)),("range",.raw (.type "range")),("_law_take",.raw (.ref t.l_take)),("_law_truth",.raw (.ref t.l_truth)),("_law_operand",.raw (.ref t.l_operand))]) H.l_end.2 (ule hn) (Binds.of4 fun Z Z Z Z Z Z Z Z Z Z Z Z => rfl) rfl (SigOk.of (gn:=["_law_one", "range", "_law_take", "_law_truth", "_law_operand"]) (by decide +kernel)) (gcons (gF H.l_one.1) (gcons (gF H.b_range) (gcons (gF H.l_take.1) (gcons (gF H.l_truth.1) (gcons (gF H.l_operand.1) gnil))))) ?_
  intro c' hlk hn' hcomp hsc Q q
  have H':=H.like hlk
  have k1 : Callable c' (.ref t.l_take):=callable_K H'.l_take.2.keep
  have k2 : Callable c' (.ref t.l_operand):=callable_K H'.l_operand.2.keep
  have k3 : Callable c' (.ref t.l_one):=callable_K H'.l_one.2.keep
  have k4 : Callable c' (.ref t.l_truth):=callable_K H'.l_truth.2.keep
  have k5 : Callable c' (.type "range"):=callable_T
  unfold endR at q
  by_cases he : block + 1 = many
  · rw [if_pos he] at q
    have pk:=s_pick (c:=c') (t:=t) (σ₁:=σ₁) (σ₂:=σ₂) (S:=S) (f:=Trm.v) (l:=trmL) (d:=.ret) hs (by decide) (by decide) H' (nle hn' hn)
    have eb : ((block : Int) + 1 == (many : Int)) = true:=beq_iff_eq.mpr (congrArg Int.ofNat he)
    exact ⟨{ tests:=[(424007024,true)],calls:=[(425015077,(pickR trmL .ret s).1.v,some (σ₁ ++ srcM S (pickR trmL .ret s).2 :: σ₂))] },kc4 eb k3 pk q⟩
  · rw [if_neg he] at q
    have eb : ((block : Int) + 1 == (many : Int)) = false:=beq_eq_false_iff_ne.mpr fun e => he (Int.ofNat.inj e)
    have hlt:=Nat.lt_of_le_of_ne hb he
    have rg:=s_range (c:=c') (σ:=σ₁ ++ srcM S s :: σ₂) (a:=(block : Int) + 1) (b:=many) (lo:=block + 1) (hi:=many) (rfl) rfl
    have st:=s_take (σ₁:=σ₁) (σ₂:=σ₂) (S:=S) (top:=4) hs (by decide) (by decide) H' (nle hn' hn)
    obtain ⟨⟨h0,h1⟩,hs0⟩:=take_ok (top:=4) hs (by decide)
    obtain ⟨w,s0,hp⟩ : ∃ w s0,takeR 4 s = (w,s0):=⟨_,_,rfl⟩
    rw [hp] at q st h0 h1 hs0
    have hs0 : SOk s0:=hs0
    have h0 : 0 ≤ w:=h0
    have h1 : w < 4:=h1
    have la:=s_later (σ₁:=σ₁) (σ₂:=σ₂) (S:=S) (lo:=block + 1) (hi:=many) hs0 hlt (Nat.le_trans hm (by decide)) H' (nle hn' hn)
    have la':=(later_ok (lo:=block + 1) (hi:=many) hs0 hlt).2
    have lb:=s_later (σ₁:=σ₁) (σ₂:=σ₂) (S:=S) (lo:=block + 1) (hi:=many) la' hlt (Nat.le_trans hm (by decide)) H' (nle hn' hn)
    have lb':=(later_ok (lo:=block + 1) (hi:=many) la' hlt).2
    have tr:=s_truth (σ₁:=σ₁) (σ₂:=σ₂) (S:=S) (n:=n) lb' H' (nle hn' hn)
    have op:=s_operand (σ₁:=σ₁) (σ₂:=σ₂) (S:=S) (numbers:=4) (n:=n) lb' (.inr rfl) h2 H' (nle hn' hn)
    have : w = 0 ∨ w = 1 ∨ w = 2 ∨ w = 3:=by omega
    rcases this with rfl | rfl | rfl | rfl
    · exact ⟨enO block many 0 s0 S σ₁ σ₂ .none s,kc10 eb k5 rg k1 st k3 la k3 lb q⟩
    · exact ⟨enO block many 1 s0 S σ₁ σ₂ (truthR n (laterR (block + 1) many (laterR (block + 1) many s0).2).2).1.v (truthR n (laterR (block + 1) many (laterR (block + 1) many s0).2).2).2,kc12 eb k5 rg k1 st k3 la k3 lb k4 tr q⟩
    · exact ⟨enO block many 2 s0 S σ₁ σ₂ (operandR 4 n (laterR (block + 1) many (laterR (block + 1) many s0).2).2).1.v (operandR 4 n (laterR (block + 1) many (laterR (block + 1) many s0).2).2).2,kc13 eb k5 rg k1 st k3 la k3 lb k2 op (BiTo.subE (c:=c') (σ:=σ₁ ++ srcM S (operandR 4 n (laterR (block + 1) many (laterR (block + 1) many s0).2).2).2 :: σ₂) (a:=many) (b:=1) (d:=((many - 1 : Nat) : Int)) (Int.ofNat_sub (Nat.lt_of_le_of_lt (Nat.zero_le _) hb)).symm) q⟩
    · exact ⟨enO block many 3 s0 S σ₁ σ₂ (truthR n (laterR (block + 1) many (laterR (block + 1) many s0).2).2).1.v (truthR n (laterR (block + 1) many (laterR (block + 1) many s0).2).2).2,kc12 eb k5 rg k1 st k3 la k3 lb k4 tr q⟩
end
end
end Mine
end
section
namespace Mine
noncomputable section
section
variable {t : Tab} {c : Cx} {σ : Sto}
theorem ItTo.dict {D : Addr} {es : List (Int × V)} {k : Int} {d : V} (hσ : (D,MO.dict es) ∈ σ) (h : dget es k = some d) : ItTo c σ (.raw (.ref D)) (.int k) d:=
  ⟨fun v s hs c' hs' ρ Q q => gDict (.chg hσ) h hs q⟩
theorem s_read {D : Addr} {env : Kn} {o : Opd} {v : Vl} (hσ : (D,MO.dict (enc env)) ∈ σ) (hv : atO env o = some v) (H : Has t c) (hn : 1 ≤ c.n) : FnTo c σ (.ref t.l_read) [o.v,.raw (.ref D)] v.v σ:=by
  refine fnTo (ps:=["operand", "values"]) (ls:=["value", "projection"]) (gl:=[]) H.l_read.2 (ule hn) (Binds.of2 fun Z Z Z Z Z Z Z Z Z Z => rfl) rfl (SigOk.of (gn:=[]) (by decide +kernel)) gnil ?_
  intro c' hlk hn' hcomp hsc Q q
  have it:=fun {k : Int} {v : Vl} (h : kget env k = some v) => ItTo.dict (c:=c') (k:=k) (d:=v.v) hσ (by rw [dget_enc',h]; rfl)
  cases o with
  | num i => cases hv; exact ⟨{},kc1 q⟩
  | bit b => cases hv; exact ⟨{},kc1 q⟩
  | loc l => exact ⟨{ ops:=[(438012033,v.v)] },kc2 (it hv) q⟩
  | part l k =>
    simp only [atO] at hv
    split at hv
    · rename_i i x e
      cases hv
      have q : Q ((if k then Vl.b x else Vl.n i).v) σ:=q
      cases k with
      | false => exact ⟨{ ops:=[(438012033,.tup [.int i,.bool x])] },kc2 (it e) q⟩
      | true => exact ⟨{ ops:=[(438012033,.tup [.int i,.bool x])] },kc2 (it e) q⟩
    · cases hv
end
end
end Mine
end
section
set_option tactic.hygienic false
namespace Mine
noncomputable section
section
variable {t : Tab} {c : Cx} {σ : Sto}
theorem ItTo.chr {x : Str} {k : Nat} (hc : (seqIndex? 0 x.length).bind (x.cps[·]?) = some k) : ItTo c σ (.str x) (.int 0) (.str ⟨#[k]⟩):=⟨fun v s hs c' hs' ρ Q q => gStr (by decide) hc hs q⟩
noncomputable def wkO (k : Nat) (t1 t2 : Bool) : Orc:={ ops:=[(445026031,.str ⟨#[k]⟩),(445055060,.str ⟨#[k]⟩)],tests:=[(444016056,t1),(444066106,t2)] }
theorem s_workedC {o : Cm} {a b : Int} (H : Has t c) (hn : 1 ≤ c.n) : FnTo c σ (.ref t.l_worked) [.str o.str,.int a,.int b] (.bool (o.run a b)) σ:=by
  refine fnTo (ps:=["op", "a", "b"]) (ls:=["told", "whole"]) (gl:=[("int",.raw (.type "int")),("isinstance",.raw (.builtin "isinstance")),("bool",.raw (.type "bool"))]) H.l_worked.2 (ule hn) (Binds.of3 fun Z Z Z Z Z Z Z Z Z Z Z => rfl) rfl (SigOk.of (gn:=["int", "isinstance", "bool"]) (by decide +kernel)) (gcons (gF H.b_int) (gcons (gF H.b_isinstance) (gcons (gF H.b_bool) gnil))) ?_
  intro c' hlk hn' hcomp hsc Q q
  have go : ∀ {x y : Bool},x = y → Q (.bool x) σ → Q (.bool y) σ:=fun e h => e ▸ h
  have t1 : ∀ {p : Prop} [Decidable p],p → decide p = true:=fun h => decide_eq_true h
  have t2 : ∀ {p : Prop} [Decidable p],¬ p → decide p = false:=fun h => decide_eq_false h
  have tri : (a < b ∧ ¬ a > b) ∨ (¬ a < b ∧ ¬ a > b) ∨ (¬ a < b ∧ a > b):=by omega
  have ieq:=ItTo.chr (c:=c') (σ:=σ) (x:=Cm.eq.str) (k:=61) (by rfl)
  have ine:=ItTo.chr (c:=c') (σ:=σ) (x:=Cm.ne.str) (k:=33) (by rfl)
  have ilt:=ItTo.chr (c:=c') (σ:=σ) (x:=Cm.lt.str) (k:=60) (by rfl)
  have ile:=ItTo.chr (c:=c') (σ:=σ) (x:=Cm.le.str) (k:=60) (by rfl)
  have igt:=ItTo.chr (c:=c') (σ:=σ) (x:=Cm.gt.str) (k:=62) (by rfl)
  have ige:=ItTo.chr (c:=c') (σ:=σ) (x:=Cm.ge.str) (k:=62) (by rfl)
  cases o with
  | eq =>
    rcases tri with ⟨h1,h2⟩ | ⟨h1,h2⟩ | ⟨h1,h2⟩
    · exact ⟨wkO 61 true false,kc5 (t1 h1) (t2 h2) ieq ieq (go (x:=Cm.eq.run a b) (y:=(true == (a == b))) (by simp [Cm.run]) q)⟩
    · exact ⟨wkO 61 false false,kc5 (t2 h1) (t2 h2) ieq ieq (go (x:=Cm.eq.run a b) (y:=(true == (a == b))) (by simp [Cm.run]) q)⟩
    · exact ⟨wkO 61 false true,kc5 (t2 h1) (t1 h2) ieq ieq (go (x:=Cm.eq.run a b) (y:=(true == (a == b))) (by simp [Cm.run]) q)⟩
  | ne =>
    rcases tri with ⟨h1,h2⟩ | ⟨h1,h2⟩ | ⟨h1,h2⟩
    · exact ⟨wkO 33 true false,kc5 (t1 h1) (t2 h2) ine ine (go (x:=Cm.ne.run a b) (y:=(false == (a == b))) (by simp [Cm.run,bne]) q)⟩
    · exact ⟨wkO 33 false false,kc5 (t2 h1) (t2 h2) ine ine (go (x:=Cm.ne.run a b) (y:=(false == (a == b))) (by simp [Cm.run,bne]) q)⟩
    · exact ⟨wkO 33 false true,kc5 (t2 h1) (t1 h2) ine ine (go (x:=Cm.ne.run a b) (y:=(false == (a == b))) (by simp [Cm.run,bne]) q)⟩
  | lt =>
    rcases tri with ⟨h1,h2⟩ | ⟨h1,h2⟩ | ⟨h1,h2⟩
    · exact ⟨wkO 60 true false,kc4 (t1 h1) (t2 h2) ilt (go (x:=Cm.lt.run a b) (y:=decide (a < b)) (by rw [Bool.eq_iff_iff]; simp [Cm.run] <;> omega) q)⟩
    · exact ⟨wkO 60 false false,kc4 (t2 h1) (t2 h2) ilt (go (x:=Cm.lt.run a b) (y:=false) (by rw [Bool.eq_iff_iff]; simp [Cm.run] <;> omega) q)⟩
    · exact ⟨wkO 60 false true,kc4 (t2 h1) (t1 h2) ilt (go (x:=Cm.lt.run a b) (y:=false) (by rw [Bool.eq_iff_iff]; simp [Cm.run] <;> exact Int.le_of_lt (by assumption)) q)⟩
  | le =>
    rcases tri with ⟨h1,h2⟩ | ⟨h1,h2⟩ | ⟨h1,h2⟩
    · exact ⟨wkO 60 true false,kc4 (t1 h1) (t2 h2) ile (go (x:=Cm.le.run a b) (y:=decide (a < b)) (by rw [Bool.eq_iff_iff]; simp [Cm.run] <;> omega) q)⟩
    · exact ⟨wkO 60 false false,kc4 (t2 h1) (t2 h2) ile (go (x:=Cm.le.run a b) (y:=(a == b)) (by rw [Bool.eq_iff_iff]; simp [Cm.run] <;> omega) q)⟩
    · exact ⟨wkO 60 false true,kc4 (t2 h1) (t1 h2) ile (go (x:=Cm.le.run a b) (y:=(a == b)) (by rw [Bool.eq_iff_iff]; simp [Cm.run] <;> omega) q)⟩
  | gt =>
    rcases tri with ⟨h1,h2⟩ | ⟨h1,h2⟩ | ⟨h1,h2⟩
    · exact ⟨wkO 62 true false,kc5 (t1 h1) (t2 h2) igt igt (go (x:=Cm.gt.run a b) (y:=false) (by rw [Bool.eq_iff_iff]; simp [Cm.run] <;> exact Int.le_of_lt (by assumption)) q)⟩
    · exact ⟨wkO 62 false false,kc5 (t2 h1) (t2 h2) igt igt (go (x:=Cm.gt.run a b) (y:=false) (by rw [Bool.eq_iff_iff]; simp [Cm.run] <;> omega) q)⟩
    · exact ⟨wkO 62 false true,kc5 (t2 h1) (t1 h2) igt igt (go (x:=Cm.gt.run a b) (y:=decide (a > b)) (by rw [Bool.eq_iff_iff]; simp [Cm.run] <;> omega) q)⟩
  | ge =>
    rcases tri with ⟨h1,h2⟩ | ⟨h1,h2⟩ | ⟨h1,h2⟩
    · exact ⟨wkO 62 true false,kc5 (t1 h1) (t2 h2) ige ige (go (x:=Cm.ge.run a b) (y:=(a == b)) (by rw [Bool.eq_iff_iff]; simp [Cm.run] <;> omega) q)⟩
    · exact ⟨wkO 62 false false,kc5 (t2 h1) (t2 h2) ige ige (go (x:=Cm.ge.run a b) (y:=(a == b)) (by rw [Bool.eq_iff_iff]; simp [Cm.run] <;> omega) q)⟩
    · exact ⟨wkO 62 false true,kc5 (t2 h1) (t1 h2) ige ige (go (x:=Cm.ge.run a b) (y:=decide (a > b)) (by rw [Bool.eq_iff_iff]; simp [Cm.run] <;> omega) q)⟩
end
end
end Mine
end
section
set_option tactic.hygienic false
set_option backward.match.sparseCases false
namespace Mine
noncomputable section
section
variable {t : Tab} {c : Cx} {σ : Sto}
noncomputable def subE : Stmt → Expr
  | .Assign _ (.Subscript v _ _) _ => v
  | _ => .Constant .none 0 ⟨0,0,0,0⟩
noncomputable def dictE : Expr:=subE ((bodyOf (stmtAt 43))[1]?.getD (.Pass ⟨0,0,0,0⟩))
noncomputable def wkV (a b : Int) : List (Str × V):=[("+",.int (a + b)),("-",.int (a - b)),("*",.int (a * b)),("&",.int (Builtin.bitAnd a b)),("|",.int (Builtin.bitOr a b)),("^",.int (Builtin.bitXor a b))]
theorem x_dict {ρ : Vars} {a b : Int} (ha : Loads ρ "a" (.int a)) (hb : Loads ρ "b" (.int b)) (hi : Loads ρ "int" (.raw (.type "int"))) (hm : IntMulOk a b) : ExTo c ρ σ dictE (.sdict (wkV a b)) σ:=⟨fun c' hs Q q => by
  have k : Callable c' (.type "int"):=callable_T
  have na : ∀ {p : Pos} {σ : Sto} {Q : V → Sto → Prop},Q (.int a) σ → WT c' (eval (.Name "a" p) c'.env) ρ σ Q:=fun q => wName ha q
  have nb : ∀ {p : Pos} {σ : Sto} {Q : V → Sto → Prop},Q (.int b) σ → WT c' (eval (.Name "b" p) c'.env) ρ σ Q:=fun q => wName hb q
  have ca : ∀ {p p1 p2 : Pos} {σ : Sto} {Q : V → Sto → Prop},Q (.int a) σ → WT c' (eval (.Call (.Name "int" p1) [.Name "a" p2] [] p) c'.env) ρ σ Q:=fun q => wCall hi k rfl (lCons (na (lNil (bIntI q))) rfl)
  have cb : ∀ {p p1 p2 : Pos} {σ : Sto} {Q : V → Sto → Prop},Q (.int b) σ → WT c' (eval (.Call (.Name "int" p1) [.Name "b" p2] [] p) c'.env) ρ σ Q:=fun q => wCall hi k rfl (lCons (nb (lNil (bIntI q))) rfl)
  show WT c' (eval (.Dict _ _ _) c'.env) ρ σ Q
  refine wDictS (es:=wkV a b) rfl rfl (by simp) (by decide) (show (["+", "-", "*", "&", "|", "^"] : List Str).Nodup by decide +kernel) (fun A => ?_) q
  exact .cons (fun Q q => wBin (na (nb (oAdd q)))) (.cons (fun Q q => wBin (na (nb (oSub q)))) (.cons (fun Q q => wBin (na (nb (oMul hm q)))) (.cons (fun Q q => wBin (ca (cb (oAnd q)))) (.cons (fun Q q => wBin (ca (cb (oOr q)))) (.cons (fun Q q => wBin (ca (cb (oXor q)))) .nil)))))⟩
noncomputable def waO (a b : Int) (d : V) : Orc:={ exprs:=[(446012114,.sdict (wkV a b),none)],calls:=[(447025044,.bool false,none)] }
theorem s_isB {x : Int} : FnTo c σ (.builtin "isinstance") [.int x,.raw (.type "bool")] (.bool false) σ:=⟨fun c' hs ρ Q q => bIsBool (.inr ⟨_,rfl,rfl⟩) q⟩
theorem s_workedA {o : Ar} {a b : Int} (hm : IntMulOk a b) (H : Has t c) (hn : 1 ≤ c.n) : FnTo c σ (.ref t.l_worked) [.str o.str,.int a,.int b] (.int (o.run a b)) σ:=by
  refine fnTo (ps:=["op", "a", "b"]) (ls:=["told", "whole"]) (gl:=[("int",.raw (.type "int")),("isinstance",.raw (.builtin "isinstance")),("bool",.raw (.type "bool"))]) H.l_worked.2 (ule hn) (Binds.of3 fun Z Z Z Z Z Z Z Z Z Z Z => rfl) rfl (SigOk.of (gn:=["int", "isinstance", "bool"]) (by decide +kernel)) (gcons (gF H.b_int) (gcons (gF H.b_isinstance) (gcons (gF H.b_bool) gnil))) ?_
  intro c' hlk hn' hcomp hsc Q q
  have x:=fun o : Ar => x_dict (c:=c') (σ:=σ) (ρ:=([("op",.own (some (.str o.str))),("a",.own (some (.int a))),("b",.own (some (.int b))),("told",.own Option.none),("whole",.own Option.none),("int",.ro (.raw (.type "int"))),("isinstance",.ro (.raw (.builtin "isinstance"))),("bool",.ro (.raw (.type "bool")))] : Vars)) (a:=a) (b:=b) (.tl .own) (.tl (.tl .own)) (.tl (.tl (.tl (.tl (.tl .ro))))) hm
  have k : Callable c' (.builtin "isinstance"):=callable_B
  cases o with
  | add => exact ⟨waO a b .none,kc4 (x .add) k (s_isB (c:=c') (σ:=σ) (x:=a)) q⟩
  | sub => exact ⟨waO a b .none,kc4 (x .sub) k (s_isB (c:=c') (σ:=σ) (x:=a)) q⟩
  | mul => exact ⟨waO a b .none,kc4 (x .mul) k (s_isB (c:=c') (σ:=σ) (x:=a)) q⟩
  | and => exact ⟨waO a b .none,kc4 (x .and) k (s_isB (c:=c') (σ:=σ) (x:=a)) q⟩
  | or => exact ⟨waO a b .none,kc4 (x .or) k (s_isB (c:=c') (σ:=σ) (x:=a)) q⟩
  | xor => exact ⟨waO a b .none,kc4 (x .xor) k (s_isB (c:=c') (σ:=σ) (x:=a)) q⟩
end
end
end Mine
end
section
set_option backward.match.sparseCases false
namespace Mine
noncomputable section
section
variable {t : Tab} {c : Cx} {σ : Sto}
theorem s_isBt {x : Bool} : FnTo c σ (.builtin "isinstance") [.bool x,.raw (.type "bool")] (.bool true) σ:=⟨fun c' hs ρ Q q => bIsBool (.inl ⟨_,rfl,rfl⟩) q⟩
theorem s_tupL {ds : List V} (h : ds.length ≤ 1000) : FnTo c σ (.type "tuple") [.list ds] (.tup ds) σ:=⟨fun c' hs ρ Q q => bTupL (Nat.le_trans h (by decide)) q⟩
noncomputable def mdO (a b r : V) (ib : Bool) (l : List V) (t1 : Bool) : Orc:=
  { calls:=[(451015043,a,none),(455016044,a,none),(456028051,.bool ib,none),(458019047,a,none),(458015048,r,none),(459034062,a,none),(459064092,b,none),(459011093,r,none),(460007029,.bool ib,none),(453015075,.tup l,none)]
    exprs:=[(453021074,.list l,none)]
    tests:=[(462028043,t1)] }
noncomputable def ifB : Stmt → List Stmt
  | .If _ b _ _ => b
  | _ => []
noncomputable def inCall : Stmt → Expr
  | .Return (some (.Call _ as _ _)) _ => as[0]?.getD (.Constant .none 0 ⟨0,0,0,0⟩)
  | _ => .Constant .none 0 ⟨0,0,0,0⟩
noncomputable def pairE : Expr:=inCall ((ifB ((bodyOf (stmtAt 44))[2]?.getD (.Pass ⟨0,0,0,0⟩)))[0]?.getD (.Pass ⟨0,0,0,0⟩))
theorem x_pair {ρ : Vars} {D : Addr} {env : Kn} {a b : Opd} {va vb : Vl} {w : Str} (hcomp : c.comp = Option.none) (hsc : c.env.scope = scopeOf (stmtAt 44)) (hr : Loads ρ "rvalue" (.tup [.str w,.tup [a.v,b.v]])) (hvv : (("values" : Str),Slot.own (some (.raw (.ref D)))) ∈ ρ) (hσ : (D,MO.dict (enc env)) ∈ σ) (ha : atO env a = some va) (hb : atO env b = some vb) (H : Has t c) (hn : 1 ≤ c.n) :
    ExTo c ρ σ pairE (.list [va.v,vb.v]) σ:=⟨fun c' hs Q q => by
  have H':=H.like hs.like
  have hcomp' : c'.comp = Option.none:=hs.comp.trans hcomp
  have hsc' : c'.env.scope = scopeOf (stmtAt 44):=by rw [hs.env]; exact hsc
  have hn' : 1 ≤ c'.n:=by rw [hs.n]; exact hn
  show WT c' (eval (.ListComp _ [⟨_,_,[],0⟩] _ _) c'.env) ρ σ Q
  refine wFreezeL (wListComp (scopeOf (stmtAt 44)) ["operand"] [("values",.raw (.ref D))] [("_law_read",.raw (.ref t.l_read))] hcomp' hsc' (CompOk.of (fv:=["values"]) (gn:=["_law_read"]) (by decide +kernel)) (fvCons (.inl hvv) fvNil) (gcons (gF H'.l_read.1) gnil) (fun Z => rfl) (wSub (wName hr (wInt (gTup (by decide) (by decide) rfl rfl (fun Z Z => rfl) (itrAnd rfl ?_))))))
  intro c2 hl2 hn2 D2
  have H2:=H'.like hl2
  have k1 : Callable c2 (.ref t.l_read):=callable_K H2.l_read.2.keep
  have one : ∀ {o : Opd} {v : Vl} {ps : Led} {σ' : Sto} {Q : V → Sto → Prop} {p p1 p2 p3 : Pos},(D,MO.dict (enc env)) ∈ σ' → atO env o = some v → Q v.v σ' → WT (c2.pins ps) (eval (.Call (.Name "_law_read" p) [.Name "operand" p1,.Name "values" p2] [] p3) (c2.pins ps).env) [("operand",.own (some o.v)),("values",.ro (.raw (.ref D))),("_law_read",.ro (.raw (.ref t.l_read)))] σ' Q:=fun hσ' ho q =>
    wCall (.tl (.tl .ro)) k1 rfl (lCons (wName .own (lCons (wName (.tl .ro) (lNil ((s_read (c:=c2.pins _) hσ' ho H2 (by show 1 ≤ c2.n; omega)).run _ Cx.Same.refl _ _ q))) rfl)) rfl)
  refine cgoCons fun ps noc => uName .hd (tNone' ⟨fun Z => one (.tail _ hσ) ha ?_,(fun e => nomatch e)⟩)
  refine ⟨_,rfl,by simp,cgoCons fun ps noc => uName .hd (tNone' ⟨fun Z => one (.tail _ hσ) hb ?_,(fun e => nomatch e)⟩)⟩
  exact ⟨_,rfl,by simp,cgoNil ⟨D2,[],σ,_,rfl,.inl rfl,q⟩⟩⟩
theorem s_made {D : Addr} {env : Kn} {tys : List Ty} {r : Rv} {ty : Ty} {v : Vl} (hr : RvTy tys r ty) (hk : KnOk tys env) (hσ : (D,MO.dict (enc env)) ∈ σ) (hv : valO env r = some v) (H : Has t c) (hn : 2 ≤ c.n) : FnTo c σ (.ref t.l_made) [r.v,.raw (.ref D)] v.v σ:=by
  refine fnTo (ps:=["rvalue", "values"]) (ls:=["kind", "value", "told"]) (gl:=[("_law_read",.raw (.ref t.l_read)),("tuple",.raw (.type "tuple")),("isinstance",.raw (.builtin "isinstance")),("bool",.raw (.type "bool")),("int",.raw (.type "int")),("_law_worked",.raw (.ref t.l_worked))]) H.l_made.2 (ule hn) (Binds.of2 fun Z Z Z Z Z Z Z Z Z Z => rfl) rfl (SigOk.of (gn:=["_law_read", "tuple", "isinstance", "bool", "int", "_law_worked"]) (by decide +kernel)) (gcons (gF H.l_read.1) (gcons (gF H.b_tuple) (gcons (gF H.b_isinstance) (gcons (gF H.b_bool) (gcons (gF H.b_int) (gcons (gF H.l_worked.1) gnil)))))) ?_
  intro c' hlk hn' hcomp hsc Q q
  have H':=H.like hlk
  have k1 : Callable c' (.ref t.l_read):=callable_K H'.l_read.2.keep
  have k2 : Callable c' (.type "tuple"):=callable_T
  have k3 : Callable c' (.builtin "isinstance"):=callable_B
  have k4 : Callable c' (.type "int"):=callable_T
  have k5 : Callable c' (.ref t.l_worked):=callable_K H'.l_worked.2.keep
  have rd:=fun {o : Opd} {v : Vl} (h : atO env o = some v) => s_read (c:=c') (t:=t) (D:=D) hσ h H' (nle hn' hn)
  have go : ∀ {x y : Int},x = y → Q (.int x) σ → Q (.int y) σ:=fun e h => e ▸ h
  have mo : ∀ {i j : Int},ValTy (.n i) .byte → ValTy (.n j) .byte → IntMulOk i j:=fun {i j} hi hj => .of_right (PySem.intBits_le_iff.mpr (by have:=(show small j from hj).1; have:=(show small j from hj).2; omega))
  cases hr with
  | @use o ty ho => exact ⟨mdO v.v .none .none false [] false,kc3 k1 (rd hv) q⟩
  | @tuple a b ha hb =>
    simp only [valO] at hv
    split at hv
    · rename_i i x e1 e2
      cases hv
      exact ⟨mdO .none .none .none false [.int i,.bool x] false,kc4 k2 (x_pair (ρ:=([("rvalue",.own (some (Rv.tuple a b).v)),("values",.own (some (.raw (.ref D)))),("kind",.own (some (.str "tuple"))),("value",.own Option.none),("told",.own Option.none),("_law_read",.ro (.raw (.ref t.l_read))),("tuple",.ro (.raw (.type "tuple"))),("isinstance",.ro (.raw (.builtin "isinstance"))),("bool",.ro (.raw (.type "bool"))),("int",.ro (.raw (.type "int"))),("_law_worked",.ro (.raw (.ref t.l_worked)))] : Vars)) hcomp hsc .own (.tail _ (.head _)) hσ e1 e2 H' (nle hn' hn)) (s_tupL (c:=c') (σ:=σ) (ds:=[.int i,.bool x]) (by simp)) q⟩
    · cases hv
  | @ar o a b ha hb =>
    simp only [valO] at hv
    split at hv
    · rename_i i j e1 e2
      cases hv
      exact ⟨mdO (.int i) (.int j) (.int (o.run i j)) false [] false,kc9 k5 k1 (rd e1) k1 (rd e2) (s_workedA (σ:=σ) (o:=o) (mo (hk.at ha e1) (hk.at hb e2)) H' (nle hn' hn)) k3 (s_isB (c:=c') (σ:=σ) (x:=o.run i j)) q⟩
    · cases hv
  | @cm o a b ha hb =>
    simp only [valO] at hv
    split at hv
    · rename_i i j e1 e2
      cases hv
      exact ⟨mdO (.int i) (.int j) (.bool (o.run i j)) true [] false,kc9 k5 k1 (rd e1) k1 (rd e2) (s_workedC (σ:=σ) (o:=o) (a:=i) (b:=j) H' (nle hn' hn)) k3 (s_isBt (c:=c') (σ:=σ) (x:=o.run i j)) q⟩
    · cases hv
  | @checked o a b ha hb =>
    simp only [valO] at hv
    split at hv
    · rename_i i j e1 e2
      cases hv
      have bo : ∀ {x y : Bool},x = y → Q (.tup [.int ((o.run i j).fmod 256),.bool x]) σ → Q (.tup [.int ((o.run i j).fmod 256),.bool y]) σ:=fun e h => e ▸ h
      by_cases h0 : 0 ≤ o.run i j
      · exact ⟨mdO (.int i) (.int j) (.int (o.run i j)) false [] true,kc10 k5 k1 (rd e1) k1 (rd e2) (s_workedA (σ:=σ) (o:=o) (mo (hk.at ha e1) (hk.at hb e2)) H' (nle hn' hn)) k3 (s_isB (c:=c') (σ:=σ) (x:=o.run i j)) (decide_eq_true h0) (bo (x:=over (o.run i j)) (y:=!decide (o.run i j < 256)) (by unfold over; rw [Bool.eq_iff_iff]; simp; omega) q)⟩
      · exact ⟨mdO (.int i) (.int j) (.int (o.run i j)) false [] false,kc10 k5 k1 (rd e1) k1 (rd e2) (s_workedA (σ:=σ) (o:=o) (mo (hk.at ha e1) (hk.at hb e2)) H' (nle hn' hn)) k3 (s_isB (c:=c') (σ:=σ) (x:=o.run i j)) (decide_eq_false h0) (bo (x:=over (o.run i j)) (y:=!decide (0 ≤ o.run i j)) (by unfold over; rw [Bool.eq_iff_iff]; simp; omega) q)⟩
    · cases hv
  | @invN a ha =>
    simp only [valO] at hv
    split at hv
    · rename_i i e
      cases hv
      have hi : small i:=hk.at ha e
      exact ⟨mdO (.int i) .none .none false [] false,kc5 k1 (rd e) k3 (s_isB (c:=c') (σ:=σ) (x:=i)) (go (x:=(-1 - i).fmod 256) (y:=255 - i) (by have:=hi.1; have:=hi.2; rw [Int.fmod_eq_emod_of_nonneg _ (by decide)]; omega) q)⟩
    · rename_i x e; exact False.elim (hk.at ha e)
    · cases hv
  | @invB a ha =>
    simp only [valO] at hv
    split at hv
    · rename_i i e; exact False.elim (hk.at ha e)
    · rename_i x e
      cases hv
      exact ⟨mdO (.bool x) .none .none true [] false,kc5 k1 (rd e) k3 (s_isBt (c:=c') (σ:=σ) (x:=x)) q⟩
    · cases hv
  | @neg a ha =>
    simp only [valO] at hv
    split at hv
    · rename_i i e
      cases hv
      exact ⟨mdO (.int i) .none .none false [] false,kc5 k1 (rd e) k3 (s_isB (c:=c') (σ:=σ) (x:=i)) (go (x:=(0 - i).fmod 256) (y:=(-i).fmod 256) (by rw [Int.zero_sub]) q)⟩
    · cases hv
  | @cast a ha =>
    simp only [valO] at hv
    split at hv
    · rename_i x e
      cases hv
      exact ⟨mdO (.bool x) .none (.int (bI x)) false [] false,kc5 k4 k1 (rd e) (s_intB (c:=c') (σ:=σ) (b:=x)) q⟩
    · cases hv
end
end
end Mine
end
section
namespace Mine
noncomputable section
section
variable {t : Tab} {c : Cx} {σ : Sto}
noncomputable def nextT (env : Kn) : Trm → Option V
  | .goto b => some (natV b)
  | .asrt o x => match atO env o with
    | some (.b v) => some (if v then .none else natV x)
    | _ => Option.none
  | .swB o x d => match atO env o with
    | some (.b v) => some (natV (if v then d else x))
    | _ => Option.none
  | .sw1 o x d => match atO env o with
    | some (.n i) => some (natV (if i = 0 then x else d))
    | _ => Option.none
  | .swN o x y d => match atO env o with
    | some (.n i) => some (natV (if i = 0 then x else if i = 255 then y else d))
    | _ => Option.none
  | _ => Option.none
noncomputable def nxO (v : V) (b : Bool) : Orc:={ calls:=[(481012044,v,none)],tests:=[(483032054,b)],stops:=[484004069] }
noncomputable abbrev nxR (t : Tab) (m : V) (D : Addr) (v : V) : Vars:=[("terminator",.own (some m)),("values",.own (some (.raw (.ref D)))),("value",.own (some v)),("found",.own Option.none),("_law_read",.ro (.raw (.ref t.l_read)))]
theorem CGo.runF {α : Type} (f g : α → V) (p : α → Bool) {D : Addr} {target elt : Expr} {ifs : List Expr} {K : List V → Sto → Prop} (I : List α → Vars → Sto → Prop)
    (turn : ∀ x xs ρ σ acc,I (x :: xs) ρ σ → ∀ ps,NoCells ps → WU (c.pins ps) (assign target c.env) (f x) ρ ((D,.list acc) :: σ) fun ρ₁ σ₁ => WB (c.pins ps) (testsOf ifs c.env) ρ₁ σ₁ fun b σ₂ => b = p x ∧
      (b = true → WT (c.pins ps) (eval elt c.env) ρ₁ σ₂ fun y σ₃ => ∃ σ',σ₃ = (D,.list acc) :: σ' ∧ y = g x ∧ I xs ρ₁ σ') ∧ (b = false → ∃ σ',σ₂ = (D,.list acc) :: σ' ∧ I xs ρ₁ σ')) :
    ∀ (xs : List α) (acc : List V) (ρ : Vars) (σ : Sto),acc.length + xs.length < 1000000 → I xs ρ σ → (∀ ρ σ,I [] ρ σ → K (acc ++ (xs.filter p).map g) σ) → CGo c D target ifs elt K (xs.map f) acc ρ σ
  | [],acc,ρ,σ,hl,h,fin => by
    have:=fin ρ σ h
    rw [List.filter_nil,List.map_nil,List.append_nil] at this
    exact this
  | x :: xs,acc,ρ,σ,hl,h,fin => fun ps noc => by
    have tn:=turn x xs ρ σ acc h ps noc
    rw [List.length_cons] at hl
    intro τ s va R ha X hR
    refine tn τ s va R ha X fun ρ₁ σ₁ s₁ q X₁ => hR ρ₁ σ₁ s₁ ?_ X₁
    intro τ s R X hR
    refine q τ s R X fun b σ₂ s₂ q₂ X₂ => hR b σ₂ s₂ ?_ X₂
    obtain ⟨hb,h1,h2⟩:=q₂
    refine ⟨fun e => (h1 e).mono fun y σ₃ q₃ => ?_,fun e => ?_⟩
    · obtain ⟨σ',rfl,rfl,hi⟩:=q₃
      refine ⟨σ',rfl,by omega,CGo.runF f g p I turn xs (acc ++ [g x]) ρ₁ σ' (by rw [List.length_append]; simp; omega) hi fun ρ σ hf => ?_⟩
      have:=fin ρ σ hf
      rwa [List.filter_cons,← hb,e,if_pos rfl,List.map_cons,List.append_cons] at this
    · obtain ⟨σ',rfl,hi⟩:=h2 e
      refine ⟨σ',rfl,CGo.runF f g p I turn xs acc ρ₁ σ' (by exact Nat.le_of_lt (by assumption)) hi fun ρ σ hf => ?_⟩
      have:=fin ρ σ hf
      rwa [List.filter_cons,← hb,e,if_neg Bool.false_ne_true] at this
theorem x_next {m v : V} {w : Str} {o : V} {D : Addr} {rows : List (V × Nat)} {hit : V × Nat → Bool} {e : Nat} (hm : m = .tup [.str w,o,.tup (rows.map fun p => .tup [p.1,natV p.2]),natV e]) (hrows : rows.length ≤ 10) (hcomp : c.comp = Option.none) (hsc : c.env.scope = scopeOf (stmtAt 46))
    (hcm : ∀ p ∈ rows,∀ (c : Cx) (ρ : Vars) (σ : Sto) (Q : V → Sto → Prop),Q (.bool (hit p)) σ → W2 c (compareOp .Eq) p.1 v ρ σ Q) (H : Has t c) {Q : V → Sto → Prop} (q : Q (natV ((((rows.filter hit).map (·.2))[0]?).getD e)) σ) :
    XTo c (nxR t m D v) σ ((bodyOf (stmtAt 46)).drop 3) (Ends Q):=⟨fun c' hs => by
  have H':=H.like hs.like
  have hcomp' : c'.comp = Option.none:=hs.comp.trans hcomp
  have hsc' : c'.env.scope = scopeOf (stmtAt 46):=by rw [hs.env]; exact hsc
  subst hm
  refine xCons ?_
  refine xSetComp (scopeOf (stmtAt 46)) ["told", "block"] [("value",v)] [] ?_ hcomp' hsc' (CompOk.of (fv:=["value"]) (gn:=[]) (by decide +kernel)) (fvCons (.inl (.tail _ (.tail _ (.head _)))) fvNil) gnil (fun Z => rfl) ?_
  · exact (swapsWith_env hsc').trans (by rfl)
  refine wSub (wName .own (wInt (gTup (j:=2) (by decide) (by decide) rfl rfl (fun Z Z => rfl) (itrAnd rfl ?_))))
  intro c2 hl2 hn2 D2
  refine CGo.runF (fun p : V × Nat => .tup [p.1,natV p.2]) (fun p => natV p.2) hit (fun (xs : List (V × Nat)) (ρ : Vars) (σ' : Sto) => (∀ p ∈ xs,p ∈ rows) ∧ σ' = σ ∧ ∃ o1 o2,ρ = ([("told",.own o1),("block",.own o2),("value",.ro v)] : Vars)) ?_ rows [] _ σ (by simp; exact Nat.lt_of_le_of_lt (by assumption) (by decide)) ⟨fun p h => h,rfl,_,_,rfl⟩ ?_
  · rintro x xs ρ σ' acc ⟨hx,rfl,o1,o2,rfl⟩ ps noc
    have hc:=hcm x (hx x (.head _))
    refine uUnpack apart2 (.inl rfl) (.cons .hd (.cons (.tl .hd) .nil)) (tOne (bCmp rfl (wName .own (wName (.tl (.tl .ro)) (hc _ _ _ _ (tBool ⟨rfl,fun e => wName (.tl .own) ⟨_,rfl,rfl,fun p hp => hx p (.tail _ hp),rfl,_,_,rfl⟩,fun e => ⟨_,rfl,fun p hp => hx p (.tail _ hp),rfl,_,_,rfl⟩⟩))))))
  · rintro ρ σ' ⟨_,rfl,_⟩
    refine ⟨_,.tl (.tl (.tl .hd)),thenNext (xFreezeL (σ₁:=[]) (.tl (.tl (.tl .hd))) ?_)⟩
    rw [List.nil_append,List.nil_append]
    cases hf : (rows.filter hit) with
    | nil =>
      rw [hf] at q
      exact xv_sound hsc' 60 (O:={ ops:=[(485023034,.bool false)] }) (kc2 (CmTo.neNil (c:=c') (σ:=σ') (ds:=[]) (b:=false) rfl rfl rfl) (show Q (natV e) σ' from q)) Cx.Same.refl
    | cons p r =>
      rw [hf] at q
      have e1 : (p :: r).map (fun p : V × Nat => natV p.2) = (((p :: r).map (·.2)).map natV):=by rw [List.map_map]; rfl
      exact xv_sound hsc' 60 (O:={ ops:=[(485023034,.bool true)] }) (kc2 (CmTo.neNil (c:=c') (σ:=σ') (ds:=(p :: r).map fun p : V × Nat => natV p.2) (b:=true) (e1 ▸ pys_nats _) (shaped_nats _) rfl) (show Q (natV p.2) σ' from q)) Cx.Same.refl⟩
theorem s_next {D : Addr} {env : Kn} {tys : List Ty} {m : Trm} {v : V} (hm : TrmTy tys m) (hσ : (D,MO.dict (enc env)) ∈ σ) (hv : nextT env m = some v) (H : Has t c) (hn : 2 ≤ c.n) : FnTo c σ (.ref t.l_next) [m.v,.raw (.ref D)] v σ:=by
  refine fnTo (ps:=["terminator", "values"]) (ls:=["value", "found"]) (gl:=[("_law_read",.raw (.ref t.l_read))]) H.l_next.2 (ule hn) (Binds.of2 fun Z Z Z Z Z Z Z Z Z Z => rfl) rfl (SigOk.of (gn:=["_law_read"]) (by decide +kernel)) (gcons (gF H.l_read.1) gnil) ?_
  intro c' hlk hn' hcomp hsc Q q
  have H':=H.like hlk
  have k1 : Callable c' (.ref t.l_read):=callable_K H'.l_read.2.keep
  have rd:=fun {o : Opd} {v : Vl} (h : atO env o = some v) => s_read (c:=c') (t:=t) (D:=D) hσ h H' (nle hn' hn)
  cases m with
  | ret => cases hv
  | panic => cases hv
  | goto b => cases hv; exact ⟨{},kc1 q⟩
  | asrt o x =>
    simp only [nextT] at hv
    split at hv
    · rename_i b e
      cases hv
      cases b with
      | true => exact ⟨nxO (.bool true) false,kc4 k1 (rd e) (rfl : (true == false) = false) q⟩
      | false => exact ⟨nxO (.bool false) true,kc4 k1 (rd e) (rfl : (false == false) = true) q⟩
    · cases hv
  | swB o x d =>
    simp only [nextT] at hv
    split at hv
    · rename_i b e
      cases hv
      exact ⟨nxO (.bool b) true,kc3 k1 (rd e) (x_next (t:=t) (w := "switch") (o:=o.v) (D:=D) (v:=.bool b) (rows:=[(.bool false,x)]) (hit:=fun Z => !b) (e:=d) rfl (by simp) hcomp hsc (fun p hp c ρ σ Q q => by
        rw [List.mem_singleton] at hp; subst hp
        exact oEqBool (by cases b <;> exact q)) H' (by cases b <;> exact q))⟩
    · cases hv
  | sw1 o x d =>
    simp only [nextT] at hv
    split at hv
    · rename_i i e
      cases hv
      exact ⟨nxO (.int i) true,kc3 k1 (rd e) (x_next (t:=t) (w := "switch") (o:=o.v) (D:=D) (v:=.int i) (rows:=[(.int 0,x)]) (hit:=fun p => match p.1 with | .int k => k == i | _ => false) (e:=d) rfl (by simp) hcomp hsc (fun p hp c ρ σ Q q => by
        rw [List.mem_singleton] at hp; subst hp
        exact oEqInt q) H' (by
        by_cases h0 : i = 0
        · subst h0; exact q
        · have e0 : ((0 : Int) == i) = false:=beq_eq_false_iff_ne.mpr (Ne.symm h0)
          simpa [List.filter_cons,e0,h0] using q))⟩
    · cases hv
  | swN o x y d =>
    simp only [nextT] at hv
    split at hv
    · rename_i i e
      cases hv
      exact ⟨nxO (.int i) true,kc3 k1 (rd e) (x_next (t:=t) (w := "switch") (o:=o.v) (D:=D) (v:=.int i) (rows:=[(.int 0,x),(.int 255,y)]) (hit:=fun p => match p.1 with | .int k => k == i | _ => false) (e:=d) rfl (by simp) hcomp hsc (fun p hp c ρ σ Q q => by
        rcases List.mem_cons.mp hp with rfl | hp
        · exact oEqInt q
        · rw [List.mem_singleton] at hp; subst hp
          exact oEqInt q) H' (by
        by_cases h0 : i = 0
        · subst h0; exact q
        · by_cases h1 : i = 255
          · subst h1; exact q
          · have e0 : ((0 : Int) == i) = false:=beq_eq_false_iff_ne.mpr (Ne.symm h0)
            have e1 : ((255 : Int) == i) = false:=beq_eq_false_iff_ne.mpr (Ne.symm h1)
            simpa [List.filter_cons,e0,e1,h0,h1] using q))⟩
    · cases hv
end
end
end Mine
end
section
set_option tactic.hygienic false
set_option backward.match.sparseCases false
namespace Mine
noncomputable section
theorem ze (v : Value) : v = v:=rfl
structure At (ρ' : Vars) (σ' : Sto) (f : Fl) (ρ : Vars) (σ : Sto) : Prop where
  h : f = .next ∧ ρ = ρ' ∧ σ = σ'
theorem At.rf {ρ : Vars} {σ : Sto} : At ρ σ .next ρ σ:=⟨rfl,rfl,rfl⟩
theorem wxAt {c : Cx} {sc : Scope} {O : Orc} {ρ ρ' : Vars} {σ σ' : Sto} {ss : List Stmt} {K : Fl → Vars → Sto → Prop} (hsc : c.env.scope = sc) (h : xv c sc O 60 ρ σ ss (At ρ' σ')) (k : K .next ρ' σ') : WX c (execs ss c.env) ρ σ K:=
  (xv_sound hsc 60 h Cx.Same.refl).mono fun f ρ₁ σ₁ q => by obtain ⟨rfl,rfl,rfl⟩:=q.h; exact k
structure AtV (d' : V) (σ' : Sto) (d : V) (σ : Sto) : Prop where
  h : d = d' ∧ σ = σ'
theorem AtV.rf {d : V} {σ : Sto} : AtV d σ d σ:=⟨rfl,rfl⟩
theorem wtAt {c : Cx} {O : Orc} {ρ : Vars} {σ σ' : Sto} {d' : V} {e : Expr} {Q : V → Sto → Prop} (h : ev c O ρ 40 false e σ (AtV d' σ')) (k : Q d' σ') : WT c (eval e c.env) ρ σ Q:=
  ((ev_sound 40).v h Cx.Same.refl).mono fun d σ₁ q => by obtain ⟨rfl,rfl⟩:=q.h; exact k
noncomputable def begA (n : Nat) : List Nat → Src → List Stm × Src
  | [],s => ([],s)
  | l :: ls,s => (.asg l (.use (operandR 0 n s).1) :: (begA n ls (operandR 0 n s).2).1,(begA n ls (operandR 0 n s).2).2)
noncomputable def begB : List Nat → Src → List Stm × Src
  | [],s => ([],s)
  | l :: ls,s => (.asg l (.use (.bit ((takeR 2 s).1 == 0))) :: (begB ls (takeR 2 s).2).1,(begB ls (takeR 2 s).2).2)
noncomputable def begunR (n : Nat) (s : Src) : List Stm × Src:=
  let a:=begA n [n + 1,n + 2,n + 3] s
  let b:=begB [n + 4,n + 5] a.2
  (.asg 0 (.use (.num 7)) :: (a.1 ++ (b.1 ++ [.asg (n + 6) (.tuple (.num 3) (.bit false))])),b.2)
theorem begA_ok {n : Nat} : ∀ {ls : List Nat} {s : Src},SOk s → SOk (begA n ls s).2
  | [],s,h => h
  | l :: ls,s,h => begA_ok (ls:=ls) (operand_ok h (.inl rfl))
theorem begB_ok : ∀ {ls : List Nat} {s : Src},SOk s → SOk (begB ls s).2
  | [],s,h => h
  | l :: ls,s,h => begB_ok (ls:=ls) (take_ok h (by decide)).2
section
variable {t : Tab} {c : Cx} {σ₁ σ₂ : Sto}
theorem rng_side {a k : Int} (h0 : 0 ≤ a) (hk : 0 ≤ k) (h : a + k ≤ 1000) : -1000000 ≤ a ∧ a ≤ 1000000 ∧ -1000000 ≤ a + k ∧ a + k ≤ 1000000:=
  have h1 : a ≤ a + k:=Int.le_add_of_nonneg_right hk
  ⟨Int.le_trans (by decide) h0,Int.le_trans h1 (Int.le_trans h (by decide)),Int.le_trans (by decide) (Int.le_trans h0 h1),Int.le_trans h (by decide)⟩
theorem rng_elems {a : Int} {lo k : Nat} (h : a = lo) (hk : lo + k ≤ 1000) : V.elems (.rng a (a + k)) = some ((List.range k).map fun i => natV (lo + i)):=by
  subst h
  have e : ((lo : Int) + k - lo).toNat = k:=by rw [Int.add_comm,Int.add_sub_cancel]; exact Int.toNat_natCast k
  have b : ((lo + k : Nat) : Int) ≤ 1000:=Int.ofNat_le.mpr hk
  show (if _ then some ((List.range ((lo : Int) + k - lo).toNat).map fun i : Nat => V.int ((lo : Int) + i)) else Option.none) = _
  rw [if_pos (rng_side (Int.natCast_nonneg lo) (Int.natCast_nonneg k) b),e]
  rfl
theorem len_snoc {α β : Type} {a : α} {b : β} {l : List α} {r : List β} {N : Nat} (h : l.length + (b :: r).length ≤ N) : (l ++ [a]).length + r.length ≤ N:=by
  rw [List.length_append,Nat.add_assoc,Nat.add_comm _ r.length]; exact h
theorem len_map {α β : Type} {f : α → β} {l : List α} {N : Nat} (h : l.length ≤ N) : (l.map f).length ≤ N:=by rw [List.length_map]; exact h
noncomputable def forB : Stmt → List Stmt
  | .For _ _ b _ _ => b
  | _ => []
noncomputable abbrev bg37 (i : Nat) : Stmt:=(bodyOf (stmtAt 37))[i]?.getD (.Pass ⟨0,0,0,0⟩)
noncomputable abbrev bgV (t : Tab) (S M : Addr) (n : Nat) (ol : Option V) : Vars:=[("source",.own (some (.raw (.ref S)))),("arguments",.own (some (.int n))),("byte",.own (some byteV)),("bit",.own (some bitV)),("first",.own (some (.int ((n : Int) + 1)))),("made",.own (some (.raw (.ref M)))),("local",.own ol),("range",.ro (.raw (.type "range"))),("_law_operand",.ro (.raw (.ref t.l_operand))),("_law_take",.ro (.raw (.ref t.l_take)))]
noncomputable abbrev bgS (σ₁ σ₂ : Sto) (S M : Addr) (done : List Stm) (s : Src) : Sto:=(M,MO.list (done.map Stm.v)) :: (σ₁ ++ srcM S s :: σ₂)
noncomputable def bgO (S : Addr) (σ : Sto) (d : V) : Orc:={ pos:=[(385008089,0),(387008096,0)],calls:=[(385052086,d,some σ),(387067087,d,some σ)],muts:=[383011061],stops:=[384004089,386004096] }
theorem bgS_snoc {S M : Addr} {done : List Stm} {x : Stm} {s : Src} : ((M,MO.list (done.map Stm.v ++ [x.v])) :: (σ₁ ++ srcM S s :: σ₂) : Sto) = bgS σ₁ σ₂ S M (done ++ [x]) s:=by
  rw [bgS,List.map_append]; rfl
section
variable {S M : Addr} {n : Nat} {K : Fl → Vars → Sto → Prop} {pos : Pos}
theorem begA_turn {ol : Option V} {done : List Stm} {s : Src} {l : Nat} (H : Has t c) (hn : 3 ≤ c.n) (hsc : c.env.scope = scopeOf (stmtAt 37)) (h2 : n ≤ 2) (hs : SOk s) (hl : done.length ≤ 1000)
    (k : K .next (bgV t S M n (some (natV l))) (bgS σ₁ σ₂ S M (done ++ [.asg l (.use (operandR 0 n s).1)]) (operandR 0 n s).2)) : WX c (execs (forB (bg37 2)) c.env) (bgV t S M n (some (natV l))) (bgS σ₁ σ₂ S M done s) K:=by
  rw [← bgS_snoc] at k
  exact xv_sound hsc 60 (O:=bgO S ((M,.list (done.map Stm.v)) :: (σ₁ ++ srcM S (operandR 0 n s).2 :: σ₂)) (operandR 0 n s).1.v) (kc6 (ze (.ref M)) (callable_K (c:=c) H.l_operand.2.keep) (s_operand (c:=c) (t:=t) (σ₁:=(M,.list (done.map Stm.v)) :: σ₁) (σ₂:=σ₂) (S:=S) (numbers:=0) (n:=n) hs (.inl rfl) h2 H hn) (ze (.ref M)) (Nat.le_trans (len_map (f:=Stm.v) hl) (by decide : 1000 ≤ sizeLine)) k) Cx.Same.refl
theorem begA_loop (H : Has t c) (hn : 3 ≤ c.n) (hsc : c.env.scope = scopeOf (stmtAt 37)) (h2 : n ≤ 2) : ∀ {ls : List Nat} {done : List Stm} {s : Src} {ol : Option V},SOk s → done.length + ls.length ≤ 10 →
    (∀ ol,K .next (bgV t S M n ol) (bgS σ₁ σ₂ S M (done ++ (begA n ls s).1) (begA n ls s).2)) → WFor c (.Name "local" pos) (forB (bg37 2)) K (ls.map natV) (bgV t S M n ol) (bgS σ₁ σ₂ S M done s)
  | [],done,s,ol,hs,hl,k => by have : K .next (bgV t S M n ol) (bgS σ₁ σ₂ S M (done ++ []) s):=k ol; rw [List.append_nil] at this; exact this
  | l :: ls,done,s,ol,hs,hl,k => fun ps noc => uName (.tl (.tl (.tl (.tl (.tl (.tl .hd)))))) (begA_turn (c:=c.pins ps) (ol:=ol) H hn hsc h2 hs (Nat.le_trans (Nat.le_trans (Nat.le_add_right _ _) hl) (by decide))
      (begA_loop H hn hsc h2 (operand_ok hs (.inl rfl)) (len_snoc hl) fun ol => by rw [List.append_assoc]; exact k ol))
theorem begB_turn {ol : Option V} {done : List Stm} {s : Src} {l : Nat} (H : Has t c) (hn : 3 ≤ c.n) (hsc : c.env.scope = scopeOf (stmtAt 37)) (hs : SOk s) (hl : done.length ≤ 1000)
    (k : K .next (bgV t S M n (some (natV l))) (bgS σ₁ σ₂ S M (done ++ [.asg l (.use (.bit ((takeR 2 s).1 == 0)))]) (takeR 2 s).2)) : WX c (execs (forB (bg37 3)) c.env) (bgV t S M n (some (natV l))) (bgS σ₁ σ₂ S M done s) K:=by
  rw [← bgS_snoc] at k
  exact xv_sound hsc 60 (O:=bgO S ((M,.list (done.map Stm.v)) :: (σ₁ ++ srcM S (takeR 2 s).2 :: σ₂)) (.int (takeR 2 s).1)) (kc6 (ze (.ref M)) (callable_K (c:=c) H.l_take.2.keep) (s_take (c:=c) (t:=t) (σ₁:=(M,.list (done.map Stm.v)) :: σ₁) (σ₂:=σ₂) (S:=S) (top:=2) hs (by decide) (by decide) H (ule hn)) (ze (.ref M)) (Nat.le_trans (len_map (f:=Stm.v) hl) (by decide : 1000 ≤ sizeLine)) k) Cx.Same.refl
theorem begB_loop (H : Has t c) (hn : 3 ≤ c.n) (hsc : c.env.scope = scopeOf (stmtAt 37)) : ∀ {ls : List Nat} {done : List Stm} {s : Src} {ol : Option V},SOk s → done.length + ls.length ≤ 20 →
    (∀ ol,K .next (bgV t S M n ol) (bgS σ₁ σ₂ S M (done ++ (begB ls s).1) (begB ls s).2)) → WFor c (.Name "local" pos) (forB (bg37 3)) K (ls.map natV) (bgV t S M n ol) (bgS σ₁ σ₂ S M done s)
  | [],done,s,ol,hs,hl,k => by have : K .next (bgV t S M n ol) (bgS σ₁ σ₂ S M (done ++ []) s):=k ol; rw [List.append_nil] at this; exact this
  | l :: ls,done,s,ol,hs,hl,k => fun ps noc => uName (.tl (.tl (.tl (.tl (.tl (.tl .hd)))))) (begB_turn (c:=c.pins ps) (ol:=ol) H hn hsc hs (Nat.le_trans (Nat.le_trans (Nat.le_add_right _ _) hl) (by decide))
      (begB_loop H hn hsc (take_ok hs (by decide)).2 (len_snoc hl) fun ol => by rw [List.append_assoc]; exact k ol))
noncomputable abbrev lastB (n : Nat) : Stm:=.asg (n + 6) (.tuple (.num 3) (.bit false))
theorem begF {s : Src} {ol : Option V} {ds : List Stm} {Q : V → Sto → Prop} (hl : ds.length ≤ 20) (q : ∀ B : Addr,Q (.raw (.ref B)) (bgS σ₁ σ₂ S B (ds ++ [lastB n]) s)) : WX c (execs ((bodyOf (stmtAt 37)).drop 4) c.env) (bgV t S M n ol) (bgS σ₁ σ₂ S M ds s) (Ends Q):=by
  refine xFreezeL (σ₁:=[]) (.tl (.tl (.tl (.tl (.tl .hd))))) (xCons (xRet (wBin (wName (.tl (.tl (.tl (.tl (.tl .own))))) (wtAt (O:={ ops:=[(388031040,.int ((n + 6 : Nat) : Int))] }) (d':=.list [(lastB n).v]) (σ':=σ₁ ++ srcM S s :: σ₂) (kc2 (BiTo.addE (c:=c) (σ:=σ₁ ++ srcM S s :: σ₂) (nat6 n)) (AtV.rf (d:=.list [(lastB n).v]) (σ:=σ₁ ++ srcM S s :: σ₂))) ?_)))))
  exact oAddListM (Nat.le_trans (Nat.add_le_add_right (len_map (f:=Stm.v) hl) 1) (by decide)) fun B => by have:=q B; rw [← bgS_snoc] at this; exact this
theorem begA_len {ls : List Nat} {s : Src} : (begA n ls s).1.length = ls.length:=by
  induction ls generalizing s with
  | nil => rfl
  | cons l ls ih => exact congrArg (· + 1) ih
theorem begB_len {ls : List Nat} {s : Src} : (begB ls s).1.length = ls.length:=by
  induction ls generalizing s with
  | nil => rfl
  | cons l ls ih => exact congrArg (· + 1) ih
theorem begX {s : Src} {ol : Option V} {ds : List Stm} {Q : V → Sto → Prop} (H : Has t c) (hn : 3 ≤ c.n) (hsc : c.env.scope = scopeOf (stmtAt 37)) (h2 : n ≤ 2) (hs : SOk s) (hl : ds.length ≤ 10) (q : ∀ B : Addr,Q (.raw (.ref B)) (bgS σ₁ σ₂ S B (ds ++ ((begB [n + 4,n + 5] s).1 ++ [lastB n])) (begB [n + 4,n + 5] s).2)) :
    WX c (execs ((bodyOf (stmtAt 37)).drop 3) c.env) (bgV t S M n ol) (bgS σ₁ σ₂ S M ds s) (Ends Q):=by
  refine xCons (xFor (fun Z => rfl) ?_)
  refine wCall (f:=.type "range") (.tl (.tl (.tl (.tl (.tl (.tl (.tl .ro))))))) callable_T rfl (lCons (wBin (wName (.tl (.tl (.tl (.tl .own)))) (wInt (oAdd (lCons (wBin (wName (.tl (.tl (.tl (.tl .own)))) (wInt (oAdd (lNil (bRange2 ?_)))))) rfl))))) rfl)
  rw [show (n : Int) + 1 + 5 = ((n : Int) + 1 + 3) + ((2 : Nat) : Int) by exact rfl]
  refine elemsAnd (rng_elems (lo:=n + 4) (k:=2) rfl (Nat.le_trans (Nat.add_le_add_right (Nat.add_le_add_right h2 4) 2) (by decide))) ?_
  refine begB_loop (ls:=[n + 4,n + 5]) H hn hsc hs (Nat.le_trans (Nat.add_le_add_right hl 2) (by decide)) fun ol => thenNext (begF ?_ fun B => ?_)
  · rw [List.length_append,begB_len]; exact Nat.le_trans (Nat.add_le_add_right hl 2) (by decide)
  · rw [List.append_assoc]; exact q B
theorem begW {s : Src} {ol : Option V} {ds : List Stm} {Q : V → Sto → Prop} (H : Has t c) (hn : 3 ≤ c.n) (hsc : c.env.scope = scopeOf (stmtAt 37)) (h2 : n ≤ 2) (hs : SOk s) (hl : ds.length ≤ 1)
    (q : ∀ B : Addr,Q (.raw (.ref B)) (bgS σ₁ σ₂ S B (ds ++ ((begA n [n + 1,n + 2,n + 3] s).1 ++ ((begB [n + 4,n + 5] (begA n [n + 1,n + 2,n + 3] s).2).1 ++ [lastB n]))) (begB [n + 4,n + 5] (begA n [n + 1,n + 2,n + 3] s).2).2)) :
    WX c (execs ((bodyOf (stmtAt 37)).drop 2) c.env) (bgV t S M n ol) (bgS σ₁ σ₂ S M ds s) (Ends Q):=by
  refine xCons (xFor (fun Z => rfl) ?_)
  refine wCall (f:=.type "range") (.tl (.tl (.tl (.tl (.tl (.tl (.tl .ro))))))) callable_T rfl (lCons (wName (.tl (.tl (.tl (.tl .own)))) (lCons (wBin (wName (.tl (.tl (.tl (.tl .own)))) (wInt (oAdd (lNil (bRange2 ?_)))))) rfl)) rfl)
  refine elemsAnd (rng_elems (lo:=n + 1) (k:=3) rfl (Nat.le_trans (Nat.add_le_add_right (Nat.add_le_add_right h2 1) 3) (by decide))) ?_
  refine begA_loop (ls:=[n + 1,n + 2,n + 3]) H hn hsc h2 hs (Nat.le_trans (Nat.add_le_add_right hl 3) (by decide)) fun ol => thenNext (begX H hn hsc h2 (begA_ok hs) ?_ fun B => ?_)
  · rw [List.length_append,begA_len]; exact Nat.le_trans (Nat.add_le_add_right hl 3) (by decide)
  · rw [List.append_assoc]; exact q B
end
theorem s_begun {S : Addr} {s : Src} {n : Nat} (hs : SOk s) (h2 : n ≤ 2) (H : Has t c) (hn : 4 ≤ c.n) : FnGe c (σ₁ ++ srcM S s :: σ₂) (.ref t.l_begun) [.raw (.ref S),.int n] ⟨Addr,fun Z => True,fun B => (.raw (.ref B),(B,.list ((begunR n s).1.map Stm.v)) :: (σ₁ ++ srcM S (begunR n s).2 :: σ₂))⟩:=by
  refine fnGe (ps:=["source", "arguments"]) (ls:=["byte", "bit", "first", "made", "local"]) (gl:=[("range",.raw (.type "range")),("_law_operand",.raw (.ref t.l_operand)),("_law_take",.raw (.ref t.l_take))]) H.l_begun.2 (ule hn) (Binds.of2 fun Z Z Z Z Z Z Z Z Z Z => rfl) rfl (SigOk.of (gn:=["range", "_law_operand", "_law_take"]) (by decide +kernel)) (gcons (gF H.b_range) (gcons (gF H.l_operand.1) (gcons (gF H.l_take.1) gnil))) ?_
  intro c' hlk hn' hcomp hsc Q q
  have x : ∀ M : Addr,XTo c' (bgV t S M n .none) (bgS σ₁ σ₂ S M [.asg 0 (.use (.num 7))] s) ((bodyOf (stmtAt 37)).drop 2) (Ends Q):=fun M => ⟨fun c2 hs2 =>
    begW (H.like (hlk.trans hs2.like)) (hs2.n ▸ nle hn' hn) (hs2.env ▸ hsc) h2 hs (Nat.le_refl 1) fun B => q B trivial⟩
  exact ⟨bgO S [] .none,kc1 x⟩
end
end
end Mine
end
section
set_option tactic.hygienic false
set_option backward.match.sparseCases false
namespace Mine
noncomputable section
theorem Cx.Same.trans {c c' c'' : Cx} (h : c.Same c') (g : c'.Same c'') : c.Same c'':=⟨g.prog.trans h.prog,g.w.trans h.w,g.K.trans h.K,g.base.trans h.base,g.n.trans h.n,g.env.trans h.env,g.comp.trans h.comp⟩
noncomputable def tysL (n : Nat) : List Ty:=List.replicate (n + 4) .byte ++ [.bit,.bit,.pair]
noncomputable def stmsR (n : Nat) : Nat → Src → List Stm × Src
  | 0,s => ([],s)
  | k + 1,s => ((statementR n s).1 ++ (stmsR n k (statementR n s).2).1,(stmsR n k (statementR n s).2).2)
noncomputable def madeR (n block : Nat) (s : Src) : List Stm × Src:=if block = 0 then begunR n s else ([],s)
noncomputable def turnsR (n : Nat) (m : List Stm × Src) : List Stm × Src:=(m.1 ++ (stmsR n (takeR 5 m.2).1.toNat (takeR 5 m.2).2).1,(stmsR n (takeR 5 m.2).1.toNat (takeR 5 m.2).2).2)
noncomputable def blkR (n block many : Nat) (s : Src) : Blk × Src:=
  let r:=turnsR n (madeR n block s)
  let e:=endR n block many r.2
  ((r.1,e.1),e.2)
noncomputable def blksR (n many : Nat) : List Nat → Src → List Blk × Src
  | [],s => ([],s)
  | b :: bs,s => ((blkR n b many s).1 :: (blksR n many bs (blkR n b many s).2).1,(blksR n many bs (blkR n b many s).2).2)
noncomputable def manyR (s : Src) : Nat:=1 + (takeR 4 s).1.toNat
noncomputable def bodyR (n : Nat) (s : Src) : List Blk × Src:=blksR n (manyR s) (List.range (manyR s)) (takeR 4 s).2
theorem truth_ok {n : Nat} {s : Src} (hs : SOk s) : SOk (truthR n s).2:=(pick_ok (l:=truthL n) (d:=.bit true) hs (by simp [truthL])).2
theorem statement_ok {n : Nat} {s : Src} (hs : SOk s) : SOk (statementR n s).2 ∧ (statementR n s).1.length ≤ 2:=by
  obtain ⟨_,hs0⟩:=take_ok (top:=8) hs (by decide)
  unfold statementR
  obtain ⟨w,s0,hp⟩ : ∃ w s0,takeR 8 s = (w,s0):=⟨_,_,rfl⟩
  rw [hp] at hs0 ⊢
  have h2:=operand_ok (numbers:=4) (n:=n) (operand_ok (numbers:=4) (n:=n) hs0 (.inr rfl)) (.inr rfl)
  have h3 : SOk (preR n s0).s:=(take_ok (top:=2) (take_ok (top:=3) h2 (by decide)).2 (by decide)).2
  show SOk (stmR n w (preR n s0)).2 ∧ (stmR n w (preR n s0)).1.length ≤ 2
  unfold stmR
  repeat' split
  all_goals first
    | exact ⟨h3,by simp⟩
    | exact ⟨(pick_ok (l:=arL) (d:=.add) h3 (by decide)).2,by simp⟩
    | exact ⟨(pick_ok (l:=ckL) (d:=.add) h3 (by decide)).2,by simp⟩
    | exact ⟨(pick_ok (l:=cmL) (d:=.eq) h3 (by decide)).2,by simp⟩
    | exact ⟨(pick_ok (l:=[true,false]) (d:=true) h3 (by decide)).2,by simp⟩
    | exact ⟨truth_ok h3,by simp⟩
theorem begun_ok {n : Nat} {s : Src} (hs : SOk s) : SOk (begunR n s).2:=begB_ok (begA_ok hs)
theorem end_ok {n block many : Nat} {s : Src} (hs : SOk s) (hb : block < many) : SOk (endR n block many s).2:=by
  unfold endR
  split
  · exact (pick_ok hs (by decide)).2
  · rename_i he
    obtain ⟨_,hs0⟩:=take_ok (top:=4) hs (by decide)
    have la:=(later_ok (lo:=block + 1) (hi:=many) hs0 (by omega)).2
    have lb:=(later_ok (lo:=block + 1) (hi:=many) la (by omega)).2
    unfold endW
    dsimp only
    repeat' split
    all_goals first
      | exact lb
      | exact truth_ok lb
      | exact operand_ok lb (.inr rfl)
theorem stms_ok {n : Nat} : ∀ {k : Nat} {s : Src},SOk s → SOk (stmsR n k s).2
  | 0,_,h => h
  | k + 1,s,h => stms_ok (k:=k) (statement_ok h).1
theorem made_ok {n block : Nat} {s : Src} (hs : SOk s) : SOk (madeR n block s).2:=by
  unfold madeR
  split
  · exact begun_ok hs
  · exact hs
theorem turns_ok {n : Nat} {m : List Stm × Src} (hs : SOk m.2) : SOk (turnsR n m).2:=stms_ok (take_ok hs (by decide)).2
theorem blk_ok {n block many : Nat} {s : Src} (hs : SOk s) (hb : block < many) : SOk (blkR n block many s).2:=end_ok (turns_ok (made_ok hs)) hb
theorem begun_len {n : Nat} {s : Src} : (begunR n s).1.length = 7:=by
  show (Stm.asg 0 (.use (.num 7)) :: (_ ++ (_ ++ [_]))).length = 7
  rw [List.length_cons,List.length_append,List.length_append,begA_len,begB_len]; rfl
theorem made_len {n block : Nat} {s : Src} : (madeR n block s).1.length ≤ 7:=by
  unfold madeR
  split
  · rw [begun_len]; exact Nat.le_refl 7
  · exact Nat.zero_le _
section
variable {t : Tab} {c : Cx} {σ₁ σ₂ : Sto}
theorem GmTo.ext {σ : Sto} {M : Addr} {ds : List V} (h : (M,MO.list ds) ∈ σ) : GmTo c σ "extend" (.raw (.ref M)) (.builtin "list.extend"):=⟨fun c' hs ρ => GM.mlist h PySem.F.slot_list_extend PySem.F.type_list_extend⟩
theorem s_extend {M B : Addr} {ds es : List V} {σ : Sto} (hsz : ds.length + es.length ≤ sizeLine) : FnTo c ((B,.list es) :: (M,.list ds) :: σ) (.builtin "list.extend") [.raw (.ref M),.raw (.ref B)] .none ((M,.list (ds ++ es)) :: σ):=⟨fun c' hs ρ Q q => mExtend (σ₁:=[]) hsz q⟩
noncomputable abbrev bdV (t : Tab) (S D : Addr) (n : Nat) (L : List Ty) (om oi om2 ot : Option V) : Vars:=[("source",.own (some (.raw (.ref S)))),("arguments",.own (some (.int n))),("byte",.own (some byteV)),("bit",.own (some bitV)),("rows",.own (some (.list (L.map Ty.v)))),("body",.own (some (bodR t "f" n (L.map fun ty => V.tup [ty.v,.bool true,.none]) D))),("many",.own om),("block",.own oi),("made",.own om2),("turn",.own ot),("Body",.ro (.raw (.ref t.Body))),("_law_take",.ro (.raw (.ref t.l_take))),("range",.ro (.raw (.type "range"))),("_law_begun",.ro (.raw (.ref t.l_begun))),("_law_statement",.ro (.raw (.ref t.l_statement))),("_law_end",.ro (.raw (.ref t.l_end)))]
noncomputable abbrev tn36 : List Stmt:=forB (((forB ((bodyOf (stmtAt 36))[4]?.getD (.Pass ⟨0,0,0,0⟩)))[1]?.getD (.Pass ⟨0,0,0,0⟩)))
theorem ext_stms {M B : Addr} {ds es : List Stm} {σ : Sto} (hd : ds.length ≤ 100) (he : es.length ≤ 100) : FnTo c ((B,.list (es.map Stm.v)) :: (M,.list (ds.map Stm.v)) :: σ) (.builtin "list.extend") [.raw (.ref M),.raw (.ref B)] .none ((M,.list ((ds ++ es).map Stm.v)) :: σ):=by
  rw [List.map_append]
  exact s_extend (Nat.le_trans (Nat.add_le_add (len_map (f:=Stm.v) hd) (len_map (f:=Stm.v) he)) (by decide))
section
variable {S M D : Addr} {n : Nat} {L : List Ty} {om oi : Option V} {Q : Fl → Vars → Sto → Prop}
theorem x_turn {s : Src} {ds : List Stm} {ot : Option V} (hs : SOk s) (h2 : n ≤ 2) (hl : ds.length ≤ 100) (H : Has t c) (hn : 4 ≤ c.n) (hsc : c.env.scope = scopeOf (stmtAt 36)) (q : Q .next (bdV t S D n L om oi (some (.raw (.ref M))) ot) (bgS σ₁ σ₂ S M (ds ++ (statementR n s).1) (statementR n s).2)) :
    WX c (execs tn36 c.env) (bdV t S D n L om oi (some (.raw (.ref M))) ot) (bgS σ₁ σ₂ S M ds s) Q:=
  xv_sound hsc 60 (O:={ meths:=[(378012058,.builtin "list.extend",.none,some (bgS σ₁ σ₂ S M (ds ++ (statementR n s).1) (statementR n s).2))],news:=[(378024057,⟨Addr,fun Z => True,fun B => (.raw (.ref B),(B,.list ((statementR n s).1.map Stm.v)) :: bgS σ₁ σ₂ S M ds (statementR n s).2)⟩)] })
    (kc4 (GmTo.ext (c:=c) (σ:=bgS σ₁ σ₂ S M ds s) (M:=M) (ds:=ds.map Stm.v) (.head _)) (callable_K (c:=c) H.l_statement.2.keep) (s_statement (c:=c) (t:=t) (σ₁:=(M,.list (ds.map Stm.v)) :: σ₁) (σ₂:=σ₂) (S:=S) hs h2 H hn)
      fun B (_ : True) => And.intro (ext_stms (c:=c) (σ:=σ₁ ++ srcM S (statementR n s).2 :: σ₂) (M:=M) (B:=B) (ds:=ds) hl (Nat.le_trans (statement_ok (n:=n) hs).2 (by decide))) q) Cx.Same.refl
theorem len_two {α : Type} {ds es : List α} {k N : Nat} (he : es.length ≤ 2) (h : ds.length + 2 * (k + 1) ≤ N) : (ds ++ es).length + 2 * k ≤ N:=by
  rw [List.length_append,Nat.add_right_comm]
  exact Nat.le_trans (Nat.add_le_add_left he _) (by rw [Nat.mul_succ,← Nat.add_assoc] at h; exact h)
theorem turns_loop {pos : Pos} (h2 : n ≤ 2) (H : Has t c) (hn : 4 ≤ c.n) (hsc : c.env.scope = scopeOf (stmtAt 36)) : ∀ {xs : List Nat} {ds : List Stm} {s : Src} {ot : Option V},SOk s → ds.length + 2 * xs.length ≤ 100 →
    (∀ ot,Q .next (bdV t S D n L om oi (some (.raw (.ref M))) ot) (bgS σ₁ σ₂ S M (ds ++ (stmsR n xs.length s).1) (stmsR n xs.length s).2)) → WFor c (.Name "turn" pos) tn36 Q (xs.map natV) (bdV t S D n L om oi (some (.raw (.ref M))) ot) (bgS σ₁ σ₂ S M ds s)
  | [],ds,s,ot,hs,hl,q => by have : Q .next (bdV t S D n L om oi (some (.raw (.ref M))) ot) (bgS σ₁ σ₂ S M (ds ++ []) s):=q ot; rw [List.append_nil] at this; exact this
  | x :: xs,ds,s,ot,hs,hl,q => fun ps noc => uName (.tl (.tl (.tl (.tl (.tl (.tl (.tl (.tl (.tl .hd))))))))) (x_turn (c:=c.pins ps) hs h2 (Nat.le_trans (Nat.le_add_right _ _) hl) H hn hsc
      (turns_loop h2 H hn hsc (statement_ok hs).1 (len_two (statement_ok hs).2 hl) fun ot => by rw [List.append_assoc]; exact q ot))
theorem x_turns {s : Src} {k : Nat} {ds : List Stm} {ot : Option V} (hs : SOk s) (h2 : n ≤ 2) (hk : k ≤ 10) (hl : ds.length ≤ 10) (H : Has t c) (hn : 4 ≤ c.n) (hsc : c.env.scope = scopeOf (stmtAt 36))
    (q : ∀ ot,Q .next (bdV t S D n L om oi (some (.raw (.ref M))) ot) (bgS σ₁ σ₂ S M (ds ++ (stmsR n k s).1) (stmsR n k s).2)) {pos : Pos} :
    WFor c (.Name "turn" pos) tn36 Q ((List.range k).map natV) (bdV t S D n L om oi (some (.raw (.ref M))) ot) (bgS σ₁ σ₂ S M ds s):=
  turns_loop h2 H hn hsc hs (by rw [List.length_range]; exact Nat.le_trans (Nat.add_le_add hl (Nat.mul_le_mul_left 2 hk)) (by decide)) (by rw [List.length_range]; exact q)
end
theorem s_range1 {σ : Sto} {n : Int} : FnTo c σ (.type "range") [.int n] (.rng 0 n) σ:=⟨fun c' hs ρ Q q => bRange1 q⟩
theorem rng0 {k : Nat} {n : Int} (h : n = k) (hk : k ≤ 1000) : V.elems (.rng 0 n) = some ((List.range k).map natV):=by
  subst h
  show (if _ then some ((List.range ((k : Int) - 0).toNat).map fun i : Nat => V.int ((0 : Int) + i)) else Option.none) = _
  have b : (0 : Int) + k ≤ 1000:=by rw [Int.zero_add]; exact Int.ofNat_le.mpr hk
  have s:=rng_side (Int.le_refl 0) (Int.natCast_nonneg k) b
  rw [Int.zero_add] at s
  rw [if_pos s,Int.sub_zero,Int.toNat_natCast]
  exact congrArg some (List.map_congr_left fun i Z => congrArg V.int (Int.zero_add _))
end
section
variable {t : Tab} {c : Cx} {σ₁ σ₂ : Sto}
noncomputable abbrev bk36 : List Stmt:=forB ((bodyOf (stmtAt 36))[4]?.getD (.Pass ⟨0,0,0,0⟩))
noncomputable abbrev dS (σ₁ : Sto) (D : Addr) (bs : List Blk) : Sto:=(D,.list (bs.map blkV)) :: σ₁
section
variable {S D M : Addr} {n block many : Nat} {bs : List Blk} {L : List Ty} {Q : Fl → Vars → Sto → Prop}
theorem x_blockE {s : Src} {ds : List Stm} {ot : Option V} (hs : SOk s) (h2 : n ≤ 2) (hb : block < many) (hm : many ≤ 10) (hl : bs.length ≤ 10) (H : Has t c) (hn : 4 ≤ c.n) (hsc : c.env.scope = scopeOf (stmtAt 36))
    (q : Q .next (bdV t S D n L (some (natV many)) (some (natV block)) (some (.list (ds.map Stm.v))) ot) (dS (σ₁ ++ srcM S (endR n block many s).2 :: σ₂) D (bs ++ [(ds,(endR n block many s).1)]))) :
    WX c (execs (bk36.drop 2) c.env) (bdV t S D n L (some (natV many)) (some (natV block)) (some (.raw (.ref M))) ot) (bgS (dS σ₁ D bs) σ₂ S M ds s) Q:=by
  rw [dS,List.map_append] at q
  exact xFreezeL (σ₁:=[]) (.tl (.tl (.tl (.tl (.tl (.tl (.tl (.tl .hd)))))))) (xv_sound hsc 60 (O:={ pos:=[(379008076,0)],calls:=[(379034074,(endR n block many s).1.v,some (dS (σ₁ ++ srcM S (endR n block many s).2 :: σ₂) D bs))] }) (kc7 H.g_Body_blocks (ze (.ref D)) (callable_K (c:=c) H.l_end.2.keep) (s_end (c:=c) (t:=t) (σ₁:=dS σ₁ D bs) (σ₂:=σ₂) (S:=S) hs h2 hb hm H hn) (ze (.ref D)) (Nat.le_trans (len_map (f:=blkV) hl) (by decide : 10 ≤ sizeLine)) q) Cx.Same.refl)
theorem x_blockT {s : Src} {m : List Stm} {om ot : Option V} (hs : SOk s) (h2 : n ≤ 2) (hb : block < many) (hm : many ≤ 10) (hl : bs.length ≤ 10) (hml : m.length ≤ 10) (H : Has t c) (hn : 4 ≤ c.n) (hsc : c.env.scope = scopeOf (stmtAt 36))
    (q : ∀ om ot,Q .next (bdV t S D n L (some (natV many)) (some (natV block)) om ot) (dS (σ₁ ++ srcM S (endR n block many (turnsR n (m,s)).2).2 :: σ₂) D (bs ++ [((turnsR n (m,s)).1,(endR n block many (turnsR n (m,s)).2).1)]))) :
    WX c (execs (bk36.drop 1) c.env) (bdV t S D n L (some (natV many)) (some (natV block)) (some (.raw (.ref M))) ot) (bgS (dS σ₁ D bs) σ₂ S M m s) Q:=by
  have tk:=s_take (c:=c) (t:=t) (σ₁:=(M,.list (m.map Stm.v)) :: dS σ₁ D bs) (σ₂:=σ₂) (S:=S) (top:=5) hs (by decide) (by decide) H (ule hn)
  obtain ⟨⟨h0,h1⟩,hs0⟩:=take_ok (top:=5) hs (by decide)
  refine xCons (xFor (fun Z => rfl) ?_)
  refine wtAt (c:=c) (O:={ calls:=[(377026046,.int (takeR 5 s).1,some (bgS (dS σ₁ D bs) σ₂ S M m (takeR 5 s).2)),(377020047,.rng 0 (takeR 5 s).1,none)] }) (d':=.rng 0 (takeR 5 s).1) (σ':=bgS (dS σ₁ D bs) σ₂ S M m (takeR 5 s).2) (kc5 (callable_T (c:=c) (T := "range")) (callable_K (c:=c) H.l_take.2.keep) tk (s_range1 (c:=c) (σ:=bgS (dS σ₁ D bs) σ₂ S M m (takeR 5 s).2) (n:=(takeR 5 s).1)) (AtV.rf (d:=.rng 0 (takeR 5 s).1) (σ:=bgS (dS σ₁ D bs) σ₂ S M m (takeR 5 s).2))) ?_
  refine elemsAnd (rng0 (k:=(takeR 5 s).1.toNat) (Int.toNat_of_nonneg h0).symm (Nat.le_of_lt (Nat.lt_trans ((Int.toNat_lt h0).mpr h1) (by decide)))) ?_
  exact x_turns (σ₁:=dS σ₁ D bs) hs0 h2 (Nat.le_of_lt (Nat.lt_trans ((Int.toNat_lt h0).mpr h1) (by decide))) hml H hn hsc fun ot => thenNext (x_blockE (turns_ok (m:=(m,s)) hs) h2 hb hm hl H hn hsc (q _ ot))
theorem x_block {s : Src} {om2 ot : Option V} (hs : SOk s) (h2 : n ≤ 2) (hb : block < many) (hm : many ≤ 10) (hl : bs.length ≤ 10) (H : Has t c) (hn : 4 ≤ c.n) (hsc : c.env.scope = scopeOf (stmtAt 36))
    (q : ∀ om ot,Q .next (bdV t S D n L (some (natV many)) (some (natV block)) om ot) (dS (σ₁ ++ srcM S (blkR n block many s).2 :: σ₂) D (bs ++ [(blkR n block many s).1]))) :
    WX c (execs bk36 c.env) (bdV t S D n L (some (natV many)) (some (natV block)) om2 ot) (dS (σ₁ ++ srcM S s :: σ₂) D bs) Q:=by
  have x : ∀ M : Addr,XTo c (bdV t S D n L (some (natV many)) (some (natV block)) (some (.raw (.ref M))) ot) (bgS (dS σ₁ D bs) σ₂ S M (madeR n block s).1 (madeR n block s).2) (bk36.drop 1) Q:=fun M => ⟨fun c2 hs2 =>
    x_blockT (om:=om2) (made_ok hs) h2 hb hm hl (Nat.le_trans made_len (by decide)) (H.like hs2.like) (hs2.n ▸ hn) (hs2.env ▸ hsc) q⟩
  by_cases h0 : block = 0
  · have e : madeR n block s = begunR n s:=if_pos h0
    rw [e] at x
    subst h0
    exact xv_sound hsc 60 (O:={ tests:=[(376021030,false)],news:=[(376036065,⟨Addr,fun Z => True,fun B => (.raw (.ref B),bgS (dS σ₁ D bs) σ₂ S B (begunR n s).1 (begunR n s).2)⟩)],stops:=[377008058] }) (kc4 (rfl : false = false) (callable_K (c:=c) H.l_begun.2.keep) (s_begun (c:=c) (t:=t) (σ₁:=dS σ₁ D bs) (σ₂:=σ₂) (S:=S) (n:=n) hs h2 H hn) fun B (_ : True) => x B) Cx.Same.refl
  · have e : madeR n block s = ([],s):=if_neg h0
    rw [e] at x
    exact xv_sound hsc 60 (O:={ tests:=[(376021030,true)],muts:=[376015017],stops:=[377008058] }) (kc2 (decide_eq_true (Int.ofNat_lt.mpr (Nat.pos_of_ne_zero h0))) x) Cx.Same.refl
end
noncomputable def callArg (i : Nat) : Stmt → Expr
  | .Assign _ (.Call _ as _ _) _ => as[i]?.getD (.Constant .none 0 ⟨0,0,0,0⟩)
  | _ => .Constant .none 0 ⟨0,0,0,0⟩
noncomputable def rowsE : Expr:=callArg 2 ((bodyOf (stmtAt 36))[2]?.getD (.Pass ⟨0,0,0,0⟩))
theorem x_rows {ρ : Vars} {σ : Sto} {L : List Ty} (hcomp : c.comp = Option.none) (hsc : c.env.scope = scopeOf (stmtAt 36)) (hr : Loads ρ "rows" (.list (L.map Ty.v))) (hl : L.length ≤ 100) (H : Has t c) : ExTo c ρ σ rowsE (.list (L.map fun ty => .tup [ty.v,.bool true,.none])) σ:=⟨fun c' hs Q q => by
  have H':=H.like hs.like
  have hcomp' : c'.comp = Option.none:=hs.comp.trans hcomp
  have hsc' : c'.env.scope = scopeOf (stmtAt 36):=by rw [hs.env]; exact hsc
  show WT c' (eval (.ListComp _ [⟨_,_,[],0⟩] _ _) c'.env) ρ σ Q
  refine wFreezeL (wListComp (scopeOf (stmtAt 36)) ["one"] [] [] hcomp' hsc' (CompOk.of (fv:=[]) (gn:=[]) (by decide +kernel)) fvNil gnil (fun Z => rfl) (wName hr (itrAnd rfl ?_)))
  intro c2 hl2 hn2 D2
  refine CGo.run Ty.v (fun ty => V.tup [ty.v,.bool true,.none]) (fun (xs : List Ty) (ρ : Vars) (σ' : Sto) => σ' = σ ∧ ∃ o1,ρ = ([("one",Slot.own o1)] : Vars)) ?_ L [] _ σ (by simp; exact Nat.lt_of_le_of_lt (by assumption) (by decide)) ⟨rfl,_,rfl⟩ ?_
  · rintro x xs ρ σ' acc ⟨rfl,o1,rfl⟩ ps noc
    exact uName .hd (wtAt (c:=c2.pins ps) (O:={}) (kc1 (AtV.rf (d:=.tup [x.v,.bool true,.none]) (σ:=(D2,.list acc) :: σ'))) ⟨σ',rfl,rfl,rfl,_,rfl⟩)
  · rintro ρ σ' ⟨rfl,o1,rfl⟩
    exact ⟨D2,[],σ',_,rfl,.inl rfl,q⟩⟩
theorem rep_flat {α : Type} {d : α} : ∀ n,(List.replicate n [d]).flatten = List.replicate n d
  | 0 => rfl
  | n + 1 => congrArg (d :: ·) (rep_flat n)
theorem rep_nat (n : Nat) : (1 + (n : Int) + 3).toNat = n + 4:=by
  rw [Int.add_comm 1]; exact Int.toNat_natCast (n + 1 + 3)
theorem BiTo.rep {σ : Sto} {N : Addr} {d : V} {n : Nat} (hn : n ≤ 10) : BiTo c ((N,.list [d]) :: σ) .Mult (.raw (.ref N)) (.int (1 + (n : Int) + 3)) (.list (List.replicate (n + 4) d)):=⟨fun c' hs ρ Q q => oMulListM (ds:=[d]) (.head _) (Int.natCast_nonneg _) (Int.ofNat_lt.mpr (Nat.lt_of_le_of_lt (Nat.add_le_add_right (Nat.add_le_add_left hn 1) 3) (by decide))) (by rw [rep_nat]; exact Nat.le_trans (Nat.le_of_eq (Nat.one_mul _)) (Nat.le_trans (Nat.add_le_add_right hn 4) (by decide))) (by
  rw [rep_nat,rep_flat]; exact q)⟩
theorem BiTo.cat {σ : Sto} {ds es fs : List V} (h : ds ++ es = fs) (hl : fs.length ≤ 1000) : BiTo c σ .Add (.list ds) (.list es) (.list fs):=⟨fun c' hs ρ Q q => oAddList (by rw [← List.length_append,h]; exact Nat.le_trans hl (by decide)) (by rw [h]; exact q)⟩
noncomputable abbrev bdW (t : Tab) (S : Addr) (n : Nat) : Vars:=[("source",.own (some (.raw (.ref S)))),("arguments",.own (some (.int n))),("byte",.own (some byteV)),("bit",.own (some bitV)),("rows",.own (some (.list ((tysL n).map Ty.v)))),("body",.own .none),("many",.own .none),("block",.own .none),("made",.own .none),("turn",.own .none),("Body",.ro (.raw (.ref t.Body))),("_law_take",.ro (.raw (.ref t.l_take))),("range",.ro (.raw (.type "range"))),("_law_begun",.ro (.raw (.ref t.l_begun))),("_law_statement",.ro (.raw (.ref t.l_statement))),("_law_end",.ro (.raw (.ref t.l_end)))]
theorem tysL_len {n : Nat} : (tysL n).length = n + 7:=by simp [tysL]
section
variable {S D : Addr} {n many : Nat} {Q : V → Sto → Prop}
theorem blks_loop {pos : Pos} {K : Fl → Vars → Sto → Prop} (h2 : n ≤ 2) (hm : many ≤ 10) (H : Has t c) (hn : 4 ≤ c.n) (hsc : c.env.scope = scopeOf (stmtAt 36)) : ∀ {xs : List Nat} {bs : List Blk} {s : Src} {o1 o2 o3 : Option V},SOk s → bs.length + xs.length ≤ 10 → (∀ x ∈ xs,x < many) →
    (∀ o1 o2 o3,K .next (bdV t S D n (tysL n) (some (natV many)) o1 o2 o3) (dS (σ₁ ++ srcM S (blksR n many xs s).2 :: σ₂) D (bs ++ (blksR n many xs s).1))) → WFor c (.Name "block" pos) bk36 K (xs.map natV) (bdV t S D n (tysL n) (some (natV many)) o1 o2 o3) (dS (σ₁ ++ srcM S s :: σ₂) D bs)
  | [],bs,s,o1,o2,o3,hs,hl,hx,q => by have : K .next (bdV t S D n (tysL n) (some (natV many)) o1 o2 o3) (dS (σ₁ ++ srcM S s :: σ₂) D (bs ++ [])):=q o1 o2 o3; rw [List.append_nil] at this; exact this
  | x :: xs,bs,s,o1,o2,o3,hs,hl,hx,q => fun ps noc => uName (.tl (.tl (.tl (.tl (.tl (.tl (.tl .hd))))))) (x_block (c:=c.pins ps) hs h2 (hx x (.head _)) hm (Nat.le_trans (Nat.le_add_right _ _) hl) H hn hsc fun om ot =>
      blks_loop h2 hm H hn hsc (blk_ok hs (hx x (.head _))) (len_snoc hl) (fun y hy => hx y (.tail _ hy)) fun o1 o2 o3 => by rw [List.append_assoc]; exact q o1 o2 o3)
theorem body3 {s : Src} (hs : SOk s) (h2 : n ≤ 2) (hm : many ≤ 10) (H : Has t c) (hn : 4 ≤ c.n) (hsc : c.env.scope = scopeOf (stmtAt 36)) (q : Q (bodV t "f" n (tysL n) (blksR n many (List.range many) s).1) (σ₁ ++ srcM S (blksR n many (List.range many) s).2 :: σ₂)) :
    WX c (execs ((bodyOf (stmtAt 36)).drop 4) c.env) (bdV t S D n (tysL n) (some (natV many)) .none .none .none) (dS (σ₁ ++ srcM S s :: σ₂) D []) (Ends Q):=by
  refine xCons (xFor (fun Z => rfl) ?_)
  refine wtAt (c:=c) (O:={ calls:=[(375017028,.rng 0 many,none)] }) (d':=.rng 0 many) (σ':=dS (σ₁ ++ srcM S s :: σ₂) D []) (kc3 (callable_T (c:=c) (T := "range")) (s_range1 (c:=c) (σ:=dS (σ₁ ++ srcM S s :: σ₂) D []) (n:=many)) (AtV.rf (d:=.rng 0 many) (σ:=dS (σ₁ ++ srcM S s :: σ₂) D []))) ?_
  refine elemsAnd (rng0 (k:=many) rfl (Nat.le_trans hm (by decide))) ?_
  refine blks_loop (bs:=[]) h2 hm H hn hsc hs (by rw [List.length_range]; exact Nat.le_trans (Nat.le_of_eq (Nat.zero_add _)) hm) (fun x hx => List.mem_range.mp hx) fun o1 o2 o3 => thenNext (xCons (xRet (wFreezeObjL (wName (.tl (.tl (.tl (.tl (.tl .own))))) ?_))))
  exact ⟨t.Body,D, "blocks",[("name",.str "f"),("arg_count",.int n),("locals",_)],[("spots",.dict [])],[],_,_,rfl,.inl rfl,q⟩
theorem many_le {s : Src} (hs : SOk s) : (1 : Int) + (takeR 4 s).1 = (manyR s : Nat) ∧ manyR s ≤ 10:=by
  obtain ⟨⟨h0,h1⟩,_⟩:=take_ok (top:=4) hs (by decide)
  exact ⟨by rw [manyR,Int.natCast_add,Int.toNat_of_nonneg h0]; rfl,Nat.le_trans (Nat.add_le_add_left (Nat.le_of_lt ((Int.toNat_lt h0).mpr h1)) 1) (by decide)⟩
theorem body2 {s : Src} (hs : SOk s) (h2 : n ≤ 2) (H : Has t c) (hn : 4 ≤ c.n) (hsc : c.env.scope = scopeOf (stmtAt 36)) (q : Q (bodV t "f" n (tysL n) (bodyR n s).1) (σ₁ ++ srcM S (bodyR n s).2 :: σ₂)) :
    WX c (execs ((bodyOf (stmtAt 36)).drop 3) c.env) (bdV t S D n (tysL n) .none .none .none .none) (dS (σ₁ ++ srcM S s :: σ₂) D []) (Ends Q):=by
  have x : XTo c (bdV t S D n (tysL n) (some (natV (manyR s))) .none .none .none) (dS (σ₁ ++ srcM S (takeR 4 s).2 :: σ₂) D []) ((bodyOf (stmtAt 36)).drop 4) (Ends Q):=⟨fun c2 hs2 => body3 (take_ok hs (by decide)).2 h2 (many_le hs).2 (H.like hs2.like) (hs2.n ▸ hn) (hs2.env ▸ hsc) q⟩
  exact xv_sound hsc 60 (O:={ calls:=[(374015035,.int (takeR 4 s).1,some (dS (σ₁ ++ srcM S (takeR 4 s).2 :: σ₂) D []))],ops:=[(374011035,natV (manyR s))],stops:=[375004076] })
    (kc4 (callable_K (c:=c) H.l_take.2.keep) (s_take (c:=c) (t:=t) (σ₁:=dS σ₁ D []) (σ₂:=σ₂) (S:=S) (top:=4) hs (by decide) (by decide) H (ule hn)) (BiTo.addE (c:=c) (σ:=dS (σ₁ ++ srcM S (takeR 4 s).2 :: σ₂) D []) (many_le hs).1) x) Cx.Same.refl
theorem rows_le {n : Nat} (h2 : n ≤ 2) : (tysL n).length ≤ 100:=by rw [tysL_len]; exact Nat.le_trans (Nat.add_le_add_right h2 7) (by decide)
theorem body1 {N : Addr} {s : Src} (hs : SOk s) (h2 : n ≤ 2) (H : Has t c) (hn : 4 ≤ c.n) (hcomp : c.comp = Option.none) (hsc : c.env.scope = scopeOf (stmtAt 36)) (q : Q (bodV t "f" n (tysL n) (bodyR n s).1) (σ₁ ++ srcM S (bodyR n s).2 :: σ₂)) :
    WX c (execs ((bodyOf (stmtAt 36)).drop 2) c.env) (bdW t S n) ((N,.list [byteV]) :: (σ₁ ++ srcM S s :: σ₂)) (Ends Q):=by
  have x : ∀ D : Addr,True → XTo c (bdV t S D n (tysL n) .none .none .none .none) (dS (σ₁ ++ srcM S s :: σ₂) D []) ((bodyOf (stmtAt 36)).drop 3) (Ends Q):=fun D Z => ⟨fun c2 hs2 => body2 hs h2 (H.like hs2.like) (hs2.n ▸ hn) (hs2.env ▸ hsc) q⟩
  exact xDropAll (junk:=[_]) (xv_sound hsc 60 (O:={ exprs:=[(373032067,.list ((tysL n).map fun ty => .tup [ty.v,.bool true,.none]),none)],news:=[(373011068,⟨Addr,fun Z => True,fun D => (bodR t "f" n ((tysL n).map fun ty => V.tup [ty.v,.bool true,.none]) D,(D,.list []) :: (σ₁ ++ srcM S s :: σ₂))⟩)],stops:=[374004035] })
    (kc4 (callable_K (c:=c) H.Body.keep) (x_rows (σ:=σ₁ ++ srcM S s :: σ₂) (L:=tysL n) hcomp hsc (ρ:=bdW t S n) (.tl (.tl (.tl (.tl .own)))) (rows_le h2) H) (s_Body3 (c:=c) (t:=t) (σ:=σ₁ ++ srcM S s :: σ₂) (nm := "f") (na:=n) (L:=(tysL n).map fun ty => V.tup [ty.v,.bool true,.none]) (len_map (Nat.le_trans (rows_le h2) (by decide))) H (ule hn)) x) Cx.Same.refl)
theorem s_body {s : Src} (hs : SOk s) (h2 : n ≤ 2) (H : Has t c) (hn : 5 ≤ c.n) : FnTo c (σ₁ ++ srcM S s :: σ₂) (.ref t.l_body) [.raw (.ref S),.int n] (bodV t "f" n (tysL n) (bodyR n s).1) (σ₁ ++ srcM S (bodyR n s).2 :: σ₂):=by
  refine fnTo (ps:=["source", "arguments"]) (ls:=["byte", "bit", "rows", "body", "many", "block", "made", "turn"]) (gl:=[("Body",.raw (.ref t.Body)),("_law_take",.raw (.ref t.l_take)),("range",.raw (.type "range")),("_law_begun",.raw (.ref t.l_begun)),("_law_statement",.raw (.ref t.l_statement)),("_law_end",.raw (.ref t.l_end))]) H.l_body.2 (ule hn) (Binds.of2 fun Z Z Z Z Z Z Z Z Z Z => rfl) rfl (SigOk.of (gn:=["Body", "_law_take", "range", "_law_begun", "_law_statement", "_law_end"]) (by decide +kernel)) (gcons (gF H.Body.gv) (gcons (gF H.l_take.1) (gcons (gF H.b_range) (gcons (gF H.l_begun.1) (gcons (gF H.l_statement.1) (gcons (gF H.l_end.1) gnil)))))) ?_
  intro c' hlk hn' hcomp hsc Q q
  have x1 : ∀ N : Addr,XTo c' (bdW t S n) ((N,.list [byteV]) :: (σ₁ ++ srcM S s :: σ₂)) ((bodyOf (stmtAt 36)).drop 2) (Ends Q):=fun N => ⟨fun c2 hs2 => body1 hs h2 (H.like (hlk.trans hs2.like)) (hs2.n ▸ nle hn' hn) (hs2.comp.trans hcomp) (hs2.env ▸ hsc) q⟩
  exact ⟨{ muts:=[372011017],ops:=[(372011039,.list (List.replicate (n + 4) byteV)),(372011076,.list ((tysL n).map Ty.v))],stops:=[373004068] },fun N => (⟨BiTo.rep (Nat.le_trans h2 (by decide)),BiTo.cat (ds:=List.replicate (n + 4) byteV) (es:=[bitV,bitV,.tup [.str "tuple",.tup [byteV,bitV]]]) (by simp [tysL,Ty.v]) (len_map (Nat.le_trans (rows_le h2) (by decide))),x1 N⟩ : _ ∧ _ ∧ _)⟩
end
end
end
end Mine
end
section
set_option tactic.hygienic false
namespace Mine
noncomputable section
noncomputable def kput (kn : Kn) (k : Int) (v : Vl) : Kn:=if kn.any (fun p => p.1 = k) then kn.map (fun p => if p.1 = k then (p.1,v) else p) else kn ++ [(k,v)]
theorem dput_kput {kn : Kn} {k : Int} {v : Vl} : dput (enc kn) k v.v = enc (kput kn k v):=by
  unfold dput kput enc
  have : ((kn.map fun p => (p.1,p.2.v)).any fun p => decide (p.1 = k)) = kn.any fun p => decide (p.1 = k):=by rw [List.any_map]; rfl
  rw [this]
  split
  · rw [List.map_map,List.map_map]
    apply List.map_congr_left
    intro p _
    show (if p.1 = k then _ else _) = ((fun p : Int × Vl => (p.1,p.2.v)) (if p.1 = k then (p.1,v) else p))
    split <;> rfl
  · rw [List.map_append]; rfl
theorem kget_cons {p : Int × Vl} {kn : Kn} {k : Int} : kget (p :: kn) k = if p.1 = k then some p.2 else kget kn k:=by
  unfold kget
  rw [List.find?_cons]
  by_cases h : p.1 = k <;> simp [h]
theorem kget_kput {kn : Kn} {k m : Int} {v : Vl} : kget (kput kn k v) m = if m = k then some v else kget kn m:=by
  have no : ∀ {l : Kn},(l.any fun p => decide (p.1 = k)) = false → kget l k = Option.none:=fun {l} h => by
    unfold kget
    rw [Option.map_eq_none_iff,List.find?_eq_none]
    intro p hp
    simpa using List.any_eq_false.mp h p hp
  unfold kput
  split
  · rename_i h
    by_cases hm : m = k
    · subst hm
      rw [if_pos rfl]
      induction kn with
      | nil => simp at h
      | cons p r ih =>
        rw [List.map_cons,kget_cons]
        by_cases hp : p.1 = m
        · simp [hp]
        · simp only [if_neg hp]
          exact ih (by simpa [hp] using h)
    · rw [if_neg hm]
      clear h
      induction kn with
      | nil => rfl
      | cons p r ih =>
        rw [List.map_cons,kget_cons,kget_cons,ih]
        by_cases hp : p.1 = k
        · simp [hp,Ne.symm hm]
        · simp [hp]
  · rename_i h
    rw [Bool.not_eq_true] at h
    by_cases hm : m = k
    · subst hm
      have:=no h
      unfold kget at this ⊢
      rw [List.find?_append,Option.map_eq_none_iff.mp this]
      simp
    · unfold kget
      rw [List.find?_append]
      simp [Ne.symm hm,hm]
noncomputable abbrev Run:=Kn × List Vl
noncomputable def stmG (e : Run) : Stm → Option Run
  | .asg l r => (valO e.1 r).map fun v => (kput e.1 l v,e.2)
  | .print o => (atO e.1 o).map fun v => (e.1,e.2 ++ [v])
  | .nop => some e
noncomputable def stmsG : List Stm → Run → Option Run
  | [],e => some e
  | s :: r,e => (stmG e s).bind (stmsG r)
noncomputable def printsV (e : Run) : V:=.list (e.2.map Vl.v)
noncomputable def stepG (e : Run) : Trm → Option (V ⊕ Nat)
  | .ret => (kget e.1 0).map fun v => .inl (.tup [.tup [.str "done",v.v],printsV e])
  | .panic => some (.inl (.tup [Trm.panic.v,printsV e]))
  | m => (nextT e.1 m).bind fun v => match v.int? with
    | some k => some (.inr k.toNat)
    | Option.none => some (.inl (.tup [.tup [.str "panic",.str "goes over"],printsV e]))
noncomputable def runG (bl : List Blk) : Nat → Nat → Run → Option V
  | 0,_,_ => some .none
  | f + 1,b,e => bl[b]?.bind fun k => (stmsG k.1 e).bind fun e => (stepG e k.2).bind fun r => match r with
    | .inl v => some v
    | .inr b => runG bl f b e
noncomputable def argsK (vs : List Vl) : Kn:=vs.mapIdx fun i v => (((i : Nat) : Int) + 1,v)
theorem KnOk.put {tys : List Ty} {kn : Kn} {l : Nat} {ty : Ty} {v : Vl} (h : KnOk tys kn) (ht : tys[l]? = some ty) (hv : ValTy v ty) : KnOk tys (kput kn l v):=fun m w hw => by
  rw [kget_kput] at hw
  split at hw
  · rename_i e
    cases hw
    exact ⟨l,ty,e,ht,hv⟩
  · exact h m w hw
theorem stmG_ok {tys : List Ty} {e e' : Run} {s : Stm} (hk : KnOk tys e.1) (hs : StmTy tys s) (h : stmG e s = some e') : KnOk tys e'.1 ∧ e'.2.length ≤ e.2.length + 1:=by
  cases s with
  | asg l r =>
    obtain ⟨v,hv,rfl⟩:=Option.map_eq_some_iff.mp h
    obtain ⟨ty,ht,hr⟩:=hs
    exact ⟨hk.put ht (valO_ty hk hr hv),by show e.2.length ≤ _; exact Nat.le_add_right _ _⟩
  | print o =>
    obtain ⟨v,hv,rfl⟩:=Option.map_eq_some_iff.mp h
    exact ⟨hk,by show (e.2 ++ [v]).length ≤ _; rw [List.length_append]; exact Nat.le_refl _⟩
  | nop => cases h; exact ⟨hk,Nat.le_succ _⟩
end
end Mine
end
section
set_option tactic.hygienic false
namespace Mine
noncomputable section
section
variable {t : Tab} {c : Cx} {σ : Sto}
noncomputable abbrev rnF (t : Tab) (bd td : V) (D : Addr) (pr : V) (b : Option V) (o1 o2 o3 o4 : Option V) : Vars:=[("body",.own (some bd)),("told",.own (some td)),("values",.own (some (.raw (.ref D)))),("prints",.own (some pr)),("block",.own b),("turn",.own o1),("statements",.own o2),("terminator",.own o3),("statement",.own o4),("enumerate",.ro (.raw (.type "enumerate"))),("range",.ro (.raw (.type "range"))),("len",.ro (.raw (.builtin "len"))),("_law_made",.ro (.raw (.ref t.l_made))),("_law_read",.ro (.raw (.ref t.l_read))),("_law_next",.ro (.raw (.ref t.l_next)))]
noncomputable abbrev rnV (t : Tab) (bd td : V) (D P : Addr) (b : Option V) (o1 o2 o3 o4 : Option V) : Vars:=rnF t bd td D (.raw (.ref P)) b o1 o2 o3 o4
noncomputable abbrev rnS (D P : Addr) (e : Run) (σ : Sto) : Sto:=(P,.list (e.2.map Vl.v)) :: (D,.dict (enc e.1)) :: σ
noncomputable def runB : List Stmt:=forB ((bodyOf (stmtAt 45))[1]?.getD (.Pass ⟨0,0,0,0⟩))
theorem enc_le {kn : Kn} {n : Nat} (h : kn.length ≤ n) : (enc kn).length ≤ n:=by unfold enc; rw [List.length_map]; exact h
section
variable {D P : Addr} {bd td : V} {b o1 o2 o3 : Option V} {Q : Fl → Vars → Sto → Prop}
theorem x_stmA {e : Run} {l : Nat} {r : Rv} {ty : Ty} {tys : List Ty} {v : Vl} (hk : KnOk tys e.1) (hr : RvTy tys r ty) (hv : valO e.1 r = some v) (hl2 : e.1.length ≤ 10000) (H : Has t c) (hn : 3 ≤ c.n) (hsc : c.env.scope = scopeOf (stmtAt 45))
    (q : Q .next (rnV t bd td D P b o1 o2 o3 (some (Stm.asg l r).v)) (rnS D P (kput e.1 l v,e.2) σ)) :
    WX c (execs (forB (runB[1]?.getD (.Pass ⟨0,0,0,0⟩))) c.env) (rnV t bd td D P b o1 o2 o3 (some (Stm.asg l r).v)) (rnS D P e σ) Q:=by
  rw [rnS,← dput_kput] at q
  exact xv_sound hsc 60 (O:={ pos:=[(469016073,1)],calls:=[(469042073,v.v,none)] }) (kc5 (callable_K (c:=c) H.l_made.2.keep) (s_made (c:=c) (t:=t) (σ:=rnS D P e σ) hr hk (.tail _ (.head _)) hv H (ule hn)) (ze (.ref D)) (Nat.le_trans (enc_le hl2) (by decide : 10000 ≤ sizeLine)) q) Cx.Same.refl
theorem x_stmP {e : Run} {o : Opd} {v : Vl} (hv : atO e.1 o = some v) (hl : e.2.length ≤ 10000) (H : Has t c) (hn : 3 ≤ c.n) (hsc : c.env.scope = scopeOf (stmtAt 45))
    (q : Q .next (rnV t bd td D P b o1 o2 o3 (some (Stm.print o).v)) (rnS D P (e.1,e.2 ++ [v]) σ)) :
    WX c (execs (forB (runB[1]?.getD (.Pass ⟨0,0,0,0⟩))) c.env) (rnV t bd td D P b o1 o2 o3 (some (Stm.print o).v)) (rnS D P e σ) Q:=by
  rw [rnS,List.map_append] at q
  exact xv_sound hsc 60 (O:={ pos:=[(471016062,0)],calls:=[(471030061,v.v,none)] }) (kc6 (ze (.ref P)) (callable_K (c:=c) H.l_read.2.keep) (s_read (c:=c) (t:=t) (σ:=rnS D P e σ) (.tail _ (.head _)) hv H (ule hn)) (ze (.ref P)) (Nat.le_trans (len_map (f:=Vl.v) hl) (by decide : 10000 ≤ sizeLine)) q) Cx.Same.refl
theorem x_stm {tys : List Ty} {e e' : Run} {s : Stm} (hk : KnOk tys e.1) (hs : StmTy tys s) (he : stmG e s = some e') (hl : e.2.length ≤ 10000) (hl2 : e.1.length ≤ 10000) (H : Has t c) (hn : 3 ≤ c.n) (hsc : c.env.scope = scopeOf (stmtAt 45))
    (q : Q .next (rnV t bd td D P b o1 o2 o3 (some s.v)) (rnS D P e' σ)) :
    WX c (execs (forB (runB[1]?.getD (.Pass ⟨0,0,0,0⟩))) c.env) (rnV t bd td D P b o1 o2 o3 (some s.v)) (rnS D P e σ) Q:=by
  cases s with
  | asg l r =>
    obtain ⟨v,hv,rfl⟩:=Option.map_eq_some_iff.mp he
    obtain ⟨ty,ht,hr⟩:=hs
    exact x_stmA hk hr hv hl2 H hn hsc q
  | print o =>
    obtain ⟨v,hv,rfl⟩:=Option.map_eq_some_iff.mp he
    exact x_stmP hv hl H hn hsc q
  | nop =>
    obtain rfl:=Option.some.inj he
    exact xv_sound hsc 60 (O:={}) (kc1 q) Cx.Same.refl
end
theorem kput_len {kn : Kn} {k : Int} {v : Vl} : (kput kn k v).length ≤ kn.length + 1:=by
  unfold kput
  split
  · rw [List.length_map]; exact Nat.le_add_right _ _
  · rw [List.length_append]; exact Nat.le_refl _
theorem stmG_len {e e' : Run} {s : Stm} (h : stmG e s = some e') : e'.1.length ≤ e.1.length + 1:=by
  cases s with
  | asg l r => obtain ⟨v,hv,rfl⟩:=Option.map_eq_some_iff.mp h; exact kput_len
  | print o => obtain ⟨v,hv,rfl⟩:=Option.map_eq_some_iff.mp h; exact Nat.le_succ _
  | nop => cases h; exact Nat.le_succ _
inductive StmsOk (tys : List Ty) (n : Nat) (e e' : Run) : Prop
  | mk (k : KnOk tys e'.1) (a : e'.2.length ≤ e.2.length + n) (b : e'.1.length ≤ e.1.length + n) : StmsOk tys n e e'
theorem succ_add {a b c n : Nat} (h : b ≤ a + 1) (g : c ≤ b + n) : c ≤ a + (n + 1):=Nat.le_trans g (by rw [Nat.add_comm n,← Nat.add_assoc]; exact Nat.add_le_add_right h n)
theorem stmsG_ok {tys : List Ty} {e' : Run} : ∀ {ss : List Stm} {e : Run},KnOk tys e.1 → (∀ s ∈ ss,StmTy tys s) → stmsG ss e = some e' → StmsOk tys ss.length e e'
  | [],e,hk,hs,he => by obtain rfl:=Option.some.inj he; exact ⟨hk,Nat.le_refl _,Nat.le_refl _⟩
  | s :: ss,e,hk,hs,he => by
    obtain ⟨e1,g1,g2⟩:=Option.bind_eq_some_iff.mp he
    have ok:=stmG_ok hk (hs s (.head _)) g1
    obtain ⟨k,a,b⟩:=stmsG_ok ok.1 (fun s h => hs s (.tail _ h)) g2
    exact ⟨k,succ_add ok.2 a,succ_add (stmG_len g1) b⟩
theorem le_step {a b n N : Nat} (h : b ≤ a + 1) (g : a + (n + 1) ≤ N) : b + n ≤ N:=Nat.le_trans (Nat.add_le_add_right h n) (by rw [Nat.add_right_comm]; exact g)
theorem x_stms {D P : Addr} {bd td : V} {b o1 o2 o3 : Option V} {tys : List Ty} {e' : Run} {pos : Pos} {Q : Fl → Vars → Sto → Prop} (H : Has t c) (hn : 3 ≤ c.n) (hsc : c.env.scope = scopeOf (stmtAt 45)) (q : ∀ o4,Q .next (rnV t bd td D P b o1 o2 o3 o4) (rnS D P e' σ)) :
    ∀ {ss : List Stm} {e : Run} {o4 : Option V},KnOk tys e.1 → (∀ s ∈ ss,StmTy tys s) → stmsG ss e = some e' → e.2.length + ss.length ≤ 10000 → e.1.length + ss.length ≤ 10000 →
    WFor c (.Name "statement" pos) (forB (runB[1]?.getD (.Pass ⟨0,0,0,0⟩))) Q (ss.map Stm.v) (rnV t bd td D P b o1 o2 o3 o4) (rnS D P e σ)
  | [],e,o4,hk,hs,he,hl,hl2 => Option.some.inj he ▸ q o4
  | s :: ss,e,o4,hk,hs,he,hl,hl2 => fun ps noc => by
    obtain ⟨e1,g1,g2⟩:=Option.bind_eq_some_iff.mp he
    have ok:=stmG_ok hk (hs s (.head _)) g1
    exact uName (.tl (.tl (.tl (.tl (.tl (.tl (.tl (.tl .hd)))))))) (x_stm (c:=c.pins ps) hk (hs s (.head _)) g1 (Nat.le_trans (Nat.le_add_right _ _) hl) (Nat.le_trans (Nat.le_add_right _ _) hl2) H hn hsc (x_stms H hn hsc q ok.1 (fun s h => hs s (.tail _ h)) g2 (le_step ok.2 hl) (le_step (stmG_len g1) hl2)))
structure AtR (d : V) (σ' : Sto) (f : Fl) (ρ : Vars) (σ : Sto) : Prop where
  h : f = .ret d ∧ σ = σ'
theorem AtR.rf {d : V} {ρ : Vars} {σ : Sto} : AtR d σ (.ret d) ρ σ:=⟨rfl,rfl⟩
theorem wxAtR {c : Cx} {sc : Scope} {O : Orc} {d : V} {ρ : Vars} {σ σ' : Sto} {ss : List Stmt} {K : Fl → Vars → Sto → Prop} (hsc : c.env.scope = sc) (h : xv c sc O 60 ρ σ ss (AtR d σ')) (k : ∀ ρ',K (.ret d) ρ' σ') : WX c (execs ss c.env) ρ σ K:=
  (xv_sound hsc 60 h Cx.Same.refl).mono fun f ρ₁ σ₁ q => by obtain ⟨rfl,rfl⟩:=q.h; exact k _
theorem wxDropPost {t : Sem Flow} {ρ : Vars} {σ : Sto} {Q : Fl → Vars → Sto → Prop} (h : WX c t ρ σ fun f ρ' σ' => ∃ p σ₂,σ' = p :: σ₂ ∧ Q f ρ' σ₂) : WX c t ρ σ Q:=fun τ s R X hR =>
  h τ s R X fun f fl ρ' σ' s' τ' q hf X' => by
    obtain ⟨p,σ₂,rfl,q⟩:=q
    exact hR f fl ρ' σ₂ s' τ' q hf (St.drop (σ₁:=[]) X')
theorem ItTo.lst {σ : Sto} {ds : List V} {i : Nat} {d : V} (hd : ds[i]? = some d) (hi : i ≤ 1000) : ItTo c σ (.list ds) (.int i) d:=⟨fun v s hs c' hs' ρ Q q => gList (Int.natCast_nonneg _) (by omega) (by rw [Int.toNat_natCast]; exact hd) hs q⟩
noncomputable def RetIs (d : V) (σ' : Sto) : Fl → Vars → Sto → Prop:=fun f Z σ => f = .ret d ∧ σ = σ'
theorem ret_rf (d : V) (σ' : Sto) : Fl.ret d = .ret d ∧ σ' = σ':=⟨rfl,rfl⟩
theorem wxDropR {sc : Scope} {O : Orc} {d : V} {ρ : Vars} {p : Addr × MO} {σ σ' : Sto} {ss : List Stmt} {Q : Fl → Vars → Sto → Prop} (hsc : c.env.scope = sc) (h : xv c sc O 60 ρ σ ss (RetIs d (p :: σ'))) (k : ∀ ρ',Q (.ret d) ρ' σ') : WX c (execs ss c.env) ρ σ Q:=
  wxDropPost ((xv_sound hsc 60 h Cx.Same.refl).mono fun f ρ₁ σ₁ q => ⟨p,σ',q.2,q.1 ▸ k ρ₁⟩)
inductive NextIs (m : Trm) : V → Prop
  | goes (b : Nat) (h : b ∈ m.told) : NextIs m (natV b)
  | over (o : Opd) (y : Nat) (h : m = .asrt o y) : NextIs m .none
theorem nextB {α : Type} {a : Option Vl} {f : Bool → α} {v : α} (h : (match a with | some (.b w) => some (f w) | _ => Option.none) = some v) : ∃ w,a = some (.b w) ∧ f w = v:=by
  cases a with
  | none => exact none_ne h
  | some w => cases w <;> first | exact none_ne h | exact ⟨_,rfl,Option.some.inj h⟩
theorem nextN {α : Type} {a : Option Vl} {f : Int → α} {v : α} (h : (match a with | some (.n w) => some (f w) | _ => Option.none) = some v) : ∃ w,a = some (.n w) ∧ f w = v:=by
  cases a with
  | none => exact none_ne h
  | some w => cases w <;> first | exact none_ne h | exact ⟨_,rfl,Option.some.inj h⟩
theorem next_is {env : Kn} {m : Trm} {v : V} (h : nextT env m = some v) : NextIs m v:=by
  cases m with
  | ret => exact none_ne h
  | panic => exact none_ne h
  | goto b => exact Option.some.inj h ▸ .goes b (.head _)
  | asrt o x =>
    obtain ⟨w,_,e⟩:=nextB h
    subst e
    cases w with
    | true => exact .over o x rfl
    | false => exact .goes x (.head _)
  | swB o x d =>
    obtain ⟨w,_,e⟩:=nextB h
    subst e
    cases w with
    | true => exact .goes d (.tail _ (.head _))
    | false => exact .goes x (.head _)
  | sw1 o x d =>
    obtain ⟨w,_,e⟩:=nextN h
    subst e
    by_cases hw : w = 0
    · rw [if_pos hw]; exact .goes x (.head _)
    · rw [if_neg hw]; exact .goes d (.tail _ (.head _))
  | swN o x y d =>
    obtain ⟨w,_,e⟩:=nextN h
    subst e
    by_cases hw : w = 0
    · rw [if_pos hw]; exact .goes x (.head _)
    · rw [if_neg hw]
      by_cases hw : w = 255
      · rw [if_pos hw]; exact .goes y (.tail _ (.head _))
      · rw [if_neg hw]; exact .goes d (.tail _ (.tail _ (.head _)))
noncomputable def Trm.goes : Trm → Bool
  | .ret => false
  | .panic => false
  | _ => true
inductive StepIs (e : Run) (m : Trm) : V ⊕ Nat → Prop
  | ret (v : Vl) (hm : m = .ret) (hv : kget e.1 0 = some v) : StepIs e m (.inl (.tup [.tup [.str "done",v.v],printsV e]))
  | panic (hm : m = .panic) : StepIs e m (.inl (.tup [Trm.panic.v,printsV e]))
  | goes (b : Nat) (g : m.goes = true) (hb : b ∈ m.told) (h : nextT e.1 m = some (natV b)) : StepIs e m (.inr b)
  | over (o : Opd) (y : Nat) (hm : m = .asrt o y) (h : nextT e.1 m = some .none) : StepIs e m (.inl (.tup [.tup [.str "panic",.str "goes over"],printsV e]))
theorem step_go {e : Run} {m : Trm} {r : V ⊕ Nat} (g : m.goes = true) (h : ((nextT e.1 m).bind fun v => match v.int? with
    | some k => some (.inr k.toNat)
    | Option.none => some (.inl (.tup [.tup [.str "panic",.str "goes over"],printsV e]))) = some r) : StepIs e m r:=by
  obtain ⟨v,hv,h⟩:=Option.bind_eq_some_iff.mp h
  cases next_is hv with
  | goes b hb => exact Option.some.inj h ▸ .goes b g hb hv
  | over o y hm => exact Option.some.inj h ▸ .over o y hm hv
theorem step_is {e : Run} {m : Trm} {r : V ⊕ Nat} (h : stepG e m = some r) : StepIs e m r:=by
  cases m with
  | ret => obtain ⟨v,hv,rfl⟩:=Option.map_eq_some_iff.mp h; exact .ret v rfl hv
  | panic => exact Option.some.inj h ▸ .panic rfl
  | _ => exact step_go rfl h
noncomputable def Trm.tag : Trm → Str
  | .ret => "return"
  | .panic => "panic"
  | .goto _ => "goto"
  | .asrt _ _ => "assert"
  | _ => "switch"
theorem trm_item {m : Trm} : ItTo c σ m.v (.int 0) (.str m.tag):=⟨fun v s hs c' hc ρ Q q => by cases m <;> exact getV_sound hs rfl q⟩
theorem trm_in {m : Trm} (g : m.goes = true) : CmTo c σ .In (.str m.tag) (.list [.str "return",.str "panic"]) (.bool false):=⟨fun c' hc ρ Q q => by cases m <;> first | exact Bool.noConfusion (g : false = true) | exact inV_sound (by kernel_rfl) q⟩
section
variable {D P : Addr} {bd td : V} {b o1 o2 o4 : Option V} {Q : Fl → Vars → Sto → Prop}
theorem x_turnT {tys : List Ty} {m : Trm} {e : Run} {r : V ⊕ Nat} (hm : TrmTy tys m) (hr : StepIs e m r) (H : Has t c) (hn : 3 ≤ c.n) (hsc : c.env.scope = scopeOf (stmtAt 45))
    (q1 : ∀ v,r = .inl v → ∀ ρ',Q (.ret v) ρ' σ) (q2 : ∀ b',r = .inr b' → Q .next (rnV t bd td D P (some (natV b')) o1 o2 (some m.v) o4) (rnS D P e σ)) :
    WX c (execs (runB.drop 2) c.env) (rnV t bd td D P b o1 o2 (some m.v) o4) (rnS D P e σ) Q:=by
  cases hr with
  | ret v hm hv =>
    subst hm
    exact xFreezeL (σ₁:=[]) (.tl (.tl (.tl .hd))) (wxDropR hsc (p:=(D,.dict (enc e.1))) (O:={ ops:=[(473029038,v.v)] }) (kc2 (ItTo.dict (c:=c) (D:=D) (k:=0) (d:=v.v) (.head (as:=σ)) (by rw [dget_enc',hv]; rfl)) (ret_rf (.tup [.tup [.str "done",v.v],printsV e]) ((D,.dict (enc e.1)) :: σ))) (q1 _ rfl))
  | panic hm =>
    subst hm
    exact xFreezeL (σ₁:=[]) (.tl (.tl (.tl .hd))) (wxDropR hsc (p:=(D,.dict (enc e.1))) (O:={}) (kc1 (ret_rf (.tup [Trm.panic.v,printsV e]) ((D,.dict (enc e.1)) :: σ))) (q1 _ rfl))
  | goes b' g hb h =>
    exact xv_sound hsc 60 (O:={ ops:=[(472011024,.str m.tag),(472011047,.bool false)],calls:=[(474016045,natV b',none)] }) (kc5 (trm_item (c:=c) (σ:=rnS D P e σ) (m:=m)) (trm_in (c:=c) (σ:=rnS D P e σ) g) (callable_K (c:=c) H.l_next.2.keep) (s_next (c:=c) (t:=t) (σ:=rnS D P e σ) hm (.tail _ (.head _)) h H (ule hn)) (q2 b' rfl)) Cx.Same.refl
  | over o y he h =>
    subst he
    exact xFreezeL (σ₁:=[]) (.tl (.tl (.tl .hd))) (wxDropR hsc (p:=(D,.dict (enc e.1))) (O:={ calls:=[(474016045,.none,none)] }) (kc3 (callable_K (c:=c) H.l_next.2.keep) (s_next (c:=c) (t:=t) (σ:=(D,MO.dict (enc e.1)) :: σ) hm (.head _) h H (ule hn)) (ret_rf (.tup [.tup [.str "panic",.str "goes over"],printsV e]) ((D,.dict (enc e.1)) :: σ))) (q1 _ rfl))
end
theorem x_turnR {D P : Addr} {nm : Str} {na : Nat} {td : V} {b : Nat} {o1 o2 o3 o4 : Option V} {tys : List Ty} {bl : List Blk} {e e' : Run} {k : Blk} {r : V ⊕ Nat} {Q : Fl → Vars → Sto → Prop} (hb : bl[b]? = some k) (hbl : b ≤ 1000) (hk : KnOk tys e.1) (hs : ∀ s ∈ k.1,StmTy tys s) (hm : TrmTy tys k.2) (he : stmsG k.1 e = some e') (hr : StepIs e' k.2 r) (hl : e.2.length + k.1.length ≤ 10000) (hl2 : e.1.length + k.1.length ≤ 10000) (H : Has t c) (hn : 3 ≤ c.n) (hsc : c.env.scope = scopeOf (stmtAt 45))
    (q1 : ∀ v,r = .inl v → ∀ ρ',Q (.ret v) ρ' σ)
    (q2 : ∀ b',r = .inr b' → ∀ o2 o3 o4,Q .next (rnV t (bodV t nm na tys bl) td D P (some (natV b')) o1 o2 o3 o4) (rnS D P e' σ)) :
    WX c (execs runB c.env) (rnV t (bodV t nm na tys bl) td D P (some (natV b)) o1 o2 o3 o4) (rnS D P e σ) Q:=by
  have it:=ItTo.lst (c:=c) (σ:=rnS D P e σ) (ds:=bl.map blkV) (i:=b) (d:=blkV k) (by rw [List.getElem?_map,hb]; rfl) hbl
  have x : XTo c (rnV t (bodV t nm na tys bl) td D P (some (natV b)) o1 (some (.list (k.1.map Stm.v))) (some k.2.v) o4) (rnS D P e σ) (runB.drop 1) Q:=⟨fun c2 hs2 =>
    xCons (xFor (fun Z => rfl) (wName (.tl (.tl (.tl (.tl (.tl (.tl .own)))))) (elemsAnd rfl (x_stms (H.like hs2.like) (hs2.n ▸ hn) (hs2.env ▸ hsc) (fun o4 => thenNext (x_turnT hm hr (H.like hs2.like) (hs2.n ▸ hn) (hs2.env ▸ hsc) q1 fun b' h => q2 b' h _ _ _)) hk hs he hl hl2))))⟩
  exact xv_sound hsc 60 (O:={ ops:=[(466033051,blkV k)],stops:=[467008062] }) (kc3 H.g_Body_blocks it x) Cx.Same.refl
end
end
end Mine
end
section
set_option tactic.hygienic false
namespace Mine
noncomputable section
section
variable {t : Tab} {c : Cx} {σ : Sto}
theorem s_lenL {σ : Sto} {ds : List V} (h : ds.length ≤ 1000) : FnTo c σ (.builtin "len") [.list ds] (.int ds.length) σ:=⟨fun c' hs ρ Q q => bLenL LRd.data (by exact Nat.lt_of_le_of_lt (by assumption) (by decide)) q⟩
theorem enum_args {vs : List Vl} : enumV (vs.map Vl.v) = (argsK vs).map fun p => V.tup [.int (p.1 - 1),p.2.v]:=by
  apply List.ext_getElem?
  intro i
  unfold enumV argsK
  simp only [List.getElem?_mapIdx,List.getElem?_map]
  cases vs[i]? with
  | none => rfl
  | some v => simp only [Option.map_some,Int.add_sub_cancel]
theorem args_keys {vs : List Vl} : (argsK vs).map (·.1) = (List.range vs.length).map fun i : Nat => (i : Int) + 1:=by
  apply List.ext_getElem?
  intro i
  unfold argsK
  rw [List.getElem?_map,List.getElem?_mapIdx,List.getElem?_map]
  by_cases h : i < vs.length
  · rw [List.getElem?_eq_getElem h,List.getElem?_range h]; rfl
  · rw [List.getElem?_eq_none (Nat.not_lt.mp h),List.getElem?_eq_none (by rw [List.length_range]; exact Nat.not_lt.mp h)]; rfl
theorem args_nodup {vs : List Vl} : ((argsK vs).map (·.1)).Nodup:=by
  rw [args_keys]
  exact nodup_map_on List.nodup_range fun x Z y Z h => Int.ofNat.inj (Int.add_left_cancel (a:=1) (by rw [Int.add_comm 1,Int.add_comm 1]; exact h))
theorem args_len {vs : List Vl} : (argsK vs).length = vs.length:=by unfold argsK; rw [List.length_mapIdx]
theorem stepG_lt {n : Nat} {e : Run} {m : Trm} {b : Nat} (hm : ∀ x ∈ m.told,x < n) (h : stepG e m = some (.inr b)) : b < n:=by
  cases step_is h with
  | goes _ _ hb _ => exact hm _ hb
section
variable {nm : Str} {na : Nat} {tys : List Ty} {bl : List Blk} {v : V} {D P : Addr} {td : V}
theorem le100 {a b k n : Nat} (h : b ≤ a + k) (hk : k ≤ 100) (g : a + 100 * (n + 1) ≤ 9000) : b + 100 * n ≤ 9000:=
  Nat.le_trans (Nat.add_le_add_right (Nat.le_trans h (Nat.add_le_add_left hk a)) _) (by rw [Nat.add_assoc,Nat.add_comm 100,← Nat.mul_succ]; exact g)
theorem le_turn {a k n : Nat} (hk : k ≤ 100) (g : a + 100 * (n + 1) ≤ 9000) : a + k ≤ 10000:=
  Nat.le_trans (Nat.add_le_add_left hk a) (Nat.le_trans (Nat.add_le_add_left (Nat.le_trans (Nat.le_add_left _ _) (Nat.le_of_eq (Nat.mul_succ 100 n).symm)) a) (Nat.le_trans g (by decide)))
theorem run_loop {K : Fl → Vars → Sto → Prop} {pos : Pos} (hok : BlOk tys bl) (hbl : bl.length ≤ 50) (hst : ∀ b ∈ bl,b.1.length ≤ 100) (H : Has t c) (hn : 3 ≤ c.n) (hsc : c.env.scope = scopeOf (stmtAt 45)) (kr : ∀ ρ,K (.ret v) ρ σ)
    (kn : v = .none → ∀ b e o1 o2 o3 o4,K .next (rnV t (bodV t nm na tys bl) td D P b o1 o2 o3 o4) (rnS D P e σ)) : ∀ {xs : List Nat} {b : Nat} {e : Run} {o1 o2 o3 o4 : Option V},KnOk tys e.1 → b < bl.length → runG bl xs.length b e = some v → e.2.length + 100 * xs.length ≤ 9000 → e.1.length + 100 * xs.length ≤ 9000 →
    WFor c (.Name "turn" pos) runB K (xs.map natV) (rnV t (bodV t nm na tys bl) td D P (some (natV b)) o1 o2 o3 o4) (rnS D P e σ)
  | [],b,e,o1,o2,o3,o4,hk,hb,hr,h4,h5 => kn (Option.some.inj hr).symm _ _ _ _ _ _
  | x :: xs,b,e,o1,o2,o3,o4,hk,hb,hr,h4,h5 => fun ps noc => by
    obtain ⟨k,g1,g2⟩:=Option.bind_eq_some_iff.mp hr
    obtain ⟨e',g3,g4⟩:=Option.bind_eq_some_iff.mp g2
    obtain ⟨r,g5,g6⟩:=Option.bind_eq_some_iff.mp g4
    obtain ⟨b1,b2,b3⟩:=hok _ _ g1
    have hs1:=hst k (List.mem_of_getElem? g1)
    obtain ⟨f1,f2,f3⟩:=stmsG_ok hk b1 g3
    refine uName (.tl (.tl (.tl (.tl (.tl .hd))))) (x_turnR (c:=c.pins ps) g1 (Nat.le_trans (Nat.le_of_lt hb) (Nat.le_trans hbl (by decide))) hk b1 b2 g3 (step_is g5) (le_turn hs1 h4) (le_turn hs1 h5) H hn hsc ?_ ?_)
    · intro w e ρ'
      rw [e] at g6
      exact Option.some.inj g6 ▸ kr ρ'
    · intro b' e _ _ _
      rw [e] at g6 g5
      exact run_loop hok hbl hst H hn hsc kr kn f1 (stepG_lt b3 g5) g6 (le100 f2 hs1 h4) (le100 f3 hs1 h5)
theorem run_for {vs : List Vl} {td : V} {o1 o2 o3 o4 : Option V} {Q : V → Sto → Prop} (hok : BlOk tys bl) (h0 : 0 < bl.length) (hbl : bl.length ≤ 50) (hst : ∀ b ∈ bl,b.1.length ≤ 100) (hvs : vs.length ≤ 100) (hk : KnOk tys (argsK vs)) (hv : runG bl (bl.length + 1) 0 (argsK vs,[]) = some v) (H : Has t c) (hn : 3 ≤ c.n) (hsc : c.env.scope = scopeOf (stmtAt 45)) (q : Q v σ) :
    WX c (execs ((bodyOf (stmtAt 45)).drop 1) c.env) (rnV t (bodV t nm na tys bl) td D P (some (natV 0)) o1 o2 o3 o4) (rnS D P (argsK vs,[]) σ) (Ends Q):=by
  have ln : FnTo c (rnS D P (argsK vs,[]) σ) (.builtin "len") [.list (bl.map blkV)] (.int bl.length) (rnS D P (argsK vs,[]) σ):=by
    have:=s_lenL (c:=c) (σ:=rnS D P (argsK vs,[]) σ) (ds:=bl.map blkV) (len_map (Nat.le_trans hbl (by decide)))
    rwa [List.length_map] at this
  refine xCons (xFor (fun Z => rfl) (wtAt (c:=c) (O:={ calls:=[(465022038,.int bl.length,none),(465016043,.rng 0 ((bl.length : Int) + 1),none)] }) (d':=.rng 0 ((bl.length : Int) + 1)) (σ':=rnS D P (argsK vs,[]) σ) (kc6 (callable_T (c:=c) (T := "range")) (callable_B (c:=c) (T := "len")) H.g_Body_blocks ln (s_range1 (c:=c) (σ:=rnS D P (argsK vs,[]) σ) (n:=(bl.length : Int) + 1)) (AtV.rf (d:=.rng 0 ((bl.length : Int) + 1)) (σ:=rnS D P (argsK vs,[]) σ))) ?_))
  have sz : 0 + 100 * (List.range (bl.length + 1)).length ≤ 9000 - 100:=by
    rw [List.length_range,Nat.zero_add]; exact Nat.le_trans (Nat.mul_le_mul_left 100 (Nat.add_le_add_right hbl 1)) (by decide)
  refine elemsAnd (rng0 (k:=bl.length + 1) rfl (Nat.le_trans (Nat.add_le_add_right hbl 1) (by decide))) (run_loop hok hbl hst H hn hsc (fun Z => q) (fun e b e' o1 o2 o3 o4 => ?_) hk h0 (by rw [List.length_range]; exact hv) (Nat.le_trans sz (by decide)) ?_)
  · subst e
    exact thenNext (xDropAll (junk:=[_,_]) (xv_sound hsc 60 (O:={}) (kc1 q) Cx.Same.refl))
  · rw [args_len]
    exact Nat.le_trans (Nat.add_le_add hvs (Nat.le_trans (Nat.le_of_eq (Nat.zero_add _).symm) sz)) (by decide)
noncomputable abbrev rn0 (t : Tab) (bd td : V) : Vars:=[("body",.own (some bd)),("told",.own (some td)),("values",.own .none),("prints",.own .none),("block",.own .none),("turn",.own .none),("statements",.own .none),("terminator",.own .none),("statement",.own .none),("enumerate",.ro (.raw (.type "enumerate"))),("range",.ro (.raw (.type "range"))),("len",.ro (.raw (.builtin "len"))),("_law_made",.ro (.raw (.ref t.l_made))),("_law_read",.ro (.raw (.ref t.l_read))),("_law_next",.ro (.raw (.ref t.l_next)))]
theorem run_start {vs : List Vl} {Q : Fl → Vars → Sto → Prop} {bd : V} (hvs : vs.length ≤ 100) (hcomp : c.comp = Option.none) (hsc : c.env.scope = scopeOf (stmtAt 45))
    (q : ∀ D P,WX c (execs ((bodyOf (stmtAt 45)).drop 1) c.env) (rnV t bd (.list (vs.map Vl.v)) D P (some (natV 0)) .none .none .none .none) (rnS D P (argsK vs,[]) σ) Q) : WX c (execs (bodyOf (stmtAt 45)) c.env) (rn0 t bd (.list (vs.map Vl.v))) σ Q:=by
  refine xCons (xTupleS (noComp_sole rfl _ _) (swapD_sound hsc rfl) (wTuple (lCons (wEnumComp (scopeOf (stmtAt 45)) ["local", "value"] [] [] (ds:=vs.map Vl.v) hcomp hsc (CompOk.of (fv:=[]) (gn:=[]) (by decide +kernel)) fvNil gnil ⟨_,_,_,rfl⟩ (.tl (.tl (.tl (.tl (.tl (.tl (.tl (.tl (.tl .ro))))))))) (.tl .own) ?_) rfl)))
  rw [enum_args]
  intro c3 hl3 hn3 D
  refine DGo.run (fun p : Int × Vl => V.tup [.int (p.1 - 1),p.2.v]) (fun p => p.1) (fun p => p.2.v) (fun Z => true) (fun (xs : List (Int × Vl)) (ρ : Vars) (σ' : Sto) => σ' = σ ∧ ∃ o1 o2,ρ = ([("local",Slot.own o1),("value",Slot.own o2)] : Vars)) ?_ (argsK vs) [] _ σ ?_ ⟨rfl,_,_,rfl⟩ ?_
  · rintro y ys ρ σ' acc ⟨e,o1,o2,rfl⟩ ps noc
    exact uUnpack apart2 (.inl rfl) (.cons .hd (.cons (.tl .hd) .nil)) (tNone' ⟨rfl,ifTr (wBin (wName .own (wInt (oAdd (wName (.tl .own) ⟨σ',by rw [Int.sub_add_cancel],rfl,rfl,e,_,_,rfl⟩)))))⟩)
  · rw [args_len]; exact Nat.lt_of_le_of_lt (Nat.le_trans (Nat.le_of_eq (Nat.zero_add _)) hvs) (by decide)
  · rintro ρ σ' ⟨rfl,o1,o2,rfl⟩
    rw [List.filter_eq_self.mpr fun Z Z => rfl,show ((argsK vs).foldl (fun acc x => dput acc x.1 x.2.v) []) = enc (argsK vs) from fold_put (acc:=[]) (kn:=argsK vs) args_nodup]
    refine lCons (wListM (lNil ⟨by decide,fun P => ?_⟩)) rfl
    exact lCons (wInt (lNil ⟨(by decide : 3 ≤ sizeLine),_,rfl,rfl,(putAll_puts (xs:=["block", "prints", "values"]) (ds:=[.int 0,.raw (.ref P),.raw (.ref D)]) rfl).wus (thenNext (q D P))⟩)) rfl
end
theorem s_run {nm : Str} {na : Nat} {tys : List Ty} {bl : List Blk} {vs : List Vl} {v : V} (hok : BlOk tys bl) (h0 : 0 < bl.length) (hbl : bl.length ≤ 50) (hst : ∀ b ∈ bl,b.1.length ≤ 100) (hvs : vs.length ≤ 100) (hk : KnOk tys (argsK vs)) (hv : runG bl (bl.length + 1) 0 (argsK vs,[]) = some v) (H : Has t c) (hn : 4 ≤ c.n) :
    FnTo c σ (.ref t.l_run) [bodV t nm na tys bl,.list (vs.map Vl.v)] v σ:=by
  refine fnTo (ps:=["body", "told"]) (ls:=["values", "prints", "block", "turn", "statements", "terminator", "statement"]) (gl:=[("enumerate",.raw (.type "enumerate")),("range",.raw (.type "range")),("len",.raw (.builtin "len")),("_law_made",.raw (.ref t.l_made)),("_law_read",.raw (.ref t.l_read)),("_law_next",.raw (.ref t.l_next))]) H.l_run.2 (ule hn) (Binds.of2 fun Z Z Z Z Z Z Z Z Z Z => rfl) rfl (SigOk.of (gn:=["enumerate", "range", "len", "_law_made", "_law_read", "_law_next"]) (by decide +kernel)) (gcons (gF H.b_enumerate) (gcons (gF H.b_range) (gcons (gF H.b_len) (gcons (gF H.l_made.1) (gcons (gF H.l_read.1) (gcons (gF H.l_next.1) gnil)))))) ?_
  intro c' hlk hn' hcomp hsc Q q
  have x : XTo c' (rn0 t (bodV t nm na tys bl) (.list (vs.map Vl.v))) σ (bodyOf (stmtAt 45)) (Ends Q):=⟨fun c2 hs2 => run_start hvs (hs2.comp.trans hcomp) (hs2.env ▸ hsc) fun D P => run_for hok h0 hbl hst hvs hk hv (H.like (hlk.trans hs2.like)) (hs2.n ▸ nle hn' hn) (hs2.env ▸ hsc) q⟩
  exact ⟨{ stops:=[464004091] },kc1 x⟩
end
end
end Mine
end
section
set_option tactic.hygienic false
set_option backward.match.sparseCases false
namespace Mine
noncomputable section
section
variable {t : Tab} {c : Cx} {σ : Sto}
theorem s_listT {σ : Sto} {ds : List V} (h : ds.length ≤ 1000) : FnTo c σ (.type "list") [.tup ds] (.list ds) σ:=⟨fun c' hs ρ Q q => bListT (Nat.le_trans h (by decide)) q⟩
noncomputable def Stm.opds : Stm → List Opd
  | .print o => [o]
  | .asg _ r => r.ops
  | .nop => []
theorem s_operandsOf {s : Stm} (H : Has t c) (hn : 1 ≤ c.n) : FnTo c σ (.ref t.l_operands) [s.v] (.list (s.opds.map Opd.v)) σ:=by
  refine fnTo (ps:=["statement"]) (ls:=["rvalue"]) (gl:=[("list",.raw (.type "list"))]) H.l_operands.2 (ule hn) (Binds.of1 fun Z Z Z Z Z Z Z Z Z => rfl) rfl (SigOk.of (gn:=["list"]) (by decide +kernel)) (gcons (gF H.b_list) gnil) ?_
  intro c' hlk hn' hcomp hsc Q q
  have H':=H.like hlk
  have k1 : Callable c' (.type "list"):=callable_T
  cases s with
  | print o => exact ⟨{},kc1 q⟩
  | nop => exact ⟨{},kc1 q⟩
  | asg l r =>
    cases r with
    | use o => exact ⟨{},kc1 q⟩
    | cast o => exact ⟨{},kc1 q⟩
    | tuple a b => exact ⟨{ calls:=[(494011026,.list [a.v,b.v],none)] },kc3 k1 (s_listT (c:=c') (σ:=σ) (ds:=[a.v,b.v]) (Nat.le_of_ble_eq_true rfl)) q⟩
    | binary o a b => exact ⟨{ calls:=[(494056072,.list [a.v,b.v],none)] },kc3 k1 (s_listT (c:=c') (σ:=σ) (ds:=[a.v,b.v]) (Nat.le_of_ble_eq_true rfl)) q⟩
    | checked o a b => exact ⟨{ calls:=[(494056072,.list [a.v,b.v],none)] },kc3 k1 (s_listT (c:=c') (σ:=σ) (ds:=[a.v,b.v]) (Nat.le_of_ble_eq_true rfl)) q⟩
    | inv a => exact ⟨{ calls:=[(494056072,.list [a.v],none)] },kc3 k1 (s_listT (c:=c') (σ:=σ) (ds:=[a.v]) (Nat.le_of_ble_eq_true rfl)) q⟩
    | neg a => exact ⟨{ calls:=[(494056072,.list [a.v],none)] },kc3 k1 (s_listT (c:=c') (σ:=σ) (ds:=[a.v]) (Nat.le_of_ble_eq_true rfl)) q⟩
noncomputable def Opd.cst : Opd → Bool
  | .num _ => true
  | .bit _ => true
  | _ => false
set_option backward.match.sparseCases true in
structure PlainB (b : Blk) : Prop where
  st : ∀ s ∈ b.1,∀ o ∈ s.opds,o.cst = true
  tm : match b.2 with | .swB .. => False | .sw1 .. => False | .swN .. => False | .asrt o _ => o.cst = true | _ => True
theorem wbAt {c : Cx} {O : Orc} {ρ : Vars} {σ σ' : Sto} {b : Bool} {e : Expr} {Q : Bool → Sto → Prop} (h : ev c O ρ 40 true e σ (AtV (.bool b) σ')) (k : Q b σ') : WB c (isTrue e c.env (eval e c.env)) ρ σ Q:=
  ((ev_sound 40).t h Cx.Same.refl).mono fun b' σ₁ q => by obtain ⟨e1,rfl⟩:=q.h; cases e1; exact k
theorem CmTo.neM {L : Addr} {left : List Nat} {σ : Sto} {b : Bool} (h : (L,MO.list (left.map natV)) ∈ σ) (hb : left.isEmpty = !b) : CmTo c σ .NotEq (.raw (.ref L)) (.list []) (.bool b):=
  ⟨fun c' hs' ρ Q q => oNeR (x:=.list (left.map fun n : Nat => PyData.int (n : Int))) (y:=.list []) (Rd.list h (pys_nats left)) (Rd.data rfl) (shaped_nats left) rfl (by
    have : PyData.eqv (.list (left.map fun n : Nat => PyData.int (n : Int))) (.list []) = !b:=by rw [← hb]; cases left <;> simp [PyData.eqv,PyData.eqvAll]
    rw [this,Bool.not_not]; exact q)⟩
theorem CmTo.outM {M : Addr} {met : List Nat} {σ : Sto} {n : Nat} (h : (M,MO.list (met.map natV)) ∈ σ) (hn : n ∉ met) : CmTo c σ .NotIn (natV n) (.raw (.ref M)) (.bool true):=
  ⟨fun c' hs' ρ Q q => oNotIn (x:=.int n) (y:=.list (met.map fun n : Nat => PyData.int (n : Int))) (xs:=met.map fun n : Nat => PyData.int (n : Int)) (Rd.data rfl) (Rd.list h (pys_nats met)) (by first | exact .list | exact .inl rfl | exact rfl | constructor) rfl (lay_nats met) (by
    rw [any_nat]
    simpa [hn] using q)⟩
noncomputable abbrev plV (t : Tab) (bd : V) (L M : Addr) (o1 o2 o3 o4 : Option V) : Vars:=[("body",.own (some bd)),("left",.own (some (.raw (.ref L)))),("met",.own (some (.raw (.ref M)))),("block",.own o1),("statements",.own o2),("terminator",.own o3),("statement",.own o4),("_law_operands",.ro (.raw (.ref t.l_operands)))]
noncomputable def whB : Stmt → List Stmt
  | .While _ b _ _ => b
  | _ => []
noncomputable def plB : List Stmt:=ifB ((whB ((bodyOf (stmtAt 48))[1]?.getD (.Pass ⟨0,0,0,0⟩)))[1]?.getD (.Pass ⟨0,0,0,0⟩))
noncomputable def ifT : Stmt → Expr
  | .If t _ _ _ => t
  | _ => .Constant .none 0 ⟨0,0,0,0⟩
noncomputable def cmpL : Expr → Expr
  | .Compare a _ _ _ => a
  | _ => .Constant .none 0 ⟨0,0,0,0⟩
noncomputable def constE : Expr:=cmpL (ifT ((forB (plB[2]?.getD (.Pass ⟨0,0,0,0⟩)))[0]?.getD (.Pass ⟨0,0,0,0⟩)))
theorem x_const {ρ : Vars} {s : Stm} (hs : ∀ o ∈ s.opds,o.cst = true) (hcomp : c.comp = Option.none) (hsc : c.env.scope = scopeOf (stmtAt 48)) (h1 : Loads ρ "statement" s.v) (h2 : Loads ρ "_law_operands" (.raw (.ref t.l_operands))) (H : Has t c) (hn : 1 ≤ c.n) : ExTo c ρ σ constE (.list []) σ:=⟨fun c' hs' Q q => by
  have H':=H.like hs'.like
  have hcomp' : c'.comp = Option.none:=hs'.comp.trans hcomp
  have hsc' : c'.env.scope = scopeOf (stmtAt 48):=by rw [hs'.env]; exact hsc
  have hn' : 1 ≤ c'.n:=by rw [hs'.n]; exact hn
  have k1 : Callable c' (.ref t.l_operands):=callable_K H'.l_operands.2.keep
  show WT c' (eval (.ListComp _ [⟨_,_,_,0⟩] _ _) c'.env) ρ σ Q
  refine wFreezeL (wListComp (scopeOf (stmtAt 48)) ["one"] [] [] hcomp' hsc' (CompOk.of (fv:=[]) (gn:=[]) (by decide +kernel)) fvNil gnil (fun Z => rfl) (wCall h2 k1 rfl (lCons (wName h1 (lNil ((s_operandsOf (σ:=σ) H' hn').run c' Cx.Same.refl _ _ (itrAnd rfl ?_)))) rfl)))
  intro c2 hl2 hn2 D2
  refine CGo.runF Opd.v Opd.v (fun o => !o.cst) (fun (xs : List Opd) (ρ : Vars) (σ' : Sto) => σ' = σ ∧ ∃ o1,ρ = ([("one",Slot.own o1)] : Vars)) ?_ s.opds [] _ σ ?_ ⟨rfl,_,rfl⟩ ?_
  · rintro x xs ρ σ' acc ⟨rfl,o1,rfl⟩ ps noc
    refine uName .hd (tOne (wbAt (c:=c2.pins ps) (O:={}) (b:=!x.cst) (σ':=(D2,.list acc) :: σ') ?_ ⟨rfl,fun Z => wName .own ⟨σ',rfl,rfl,rfl,_,rfl⟩,fun Z => ⟨σ',rfl,rfl,_,rfl⟩⟩))
    cases x with
    | num n => exact kc1 (AtV.rf (d:=.bool false) (σ:=(D2,.list acc) :: σ'))
    | bit n => exact kc1 (AtV.rf (d:=.bool false) (σ:=(D2,.list acc) :: σ'))
    | loc l => exact kc1 (AtV.rf (d:=.bool true) (σ:=(D2,.list acc) :: σ'))
    | part l k => exact kc1 (AtV.rf (d:=.bool true) (σ:=(D2,.list acc) :: σ'))
  · exact Nat.lt_of_le_of_lt (by
      cases s with
      | print o => exact Nat.le_of_ble_eq_true rfl
      | nop => exact Nat.le_of_ble_eq_true rfl
      | asg l r => cases r <;> exact Nat.le_of_ble_eq_true rfl
      : _ ≤ 2) (by decide)
  · rintro ρ σ' ⟨rfl,o1,rfl⟩
    have e : s.opds.filter (fun o => !o.cst) = []:=List.filter_eq_nil_iff.mpr fun o ho => by rw [hs o ho]; decide
    rw [e]
    exact ⟨D2,[],σ',_,rfl,.inl rfl,q⟩⟩
theorem s_extend2 {M B : Addr} {ds es : List V} {σ₁ σ₂ : Sto} (hsz : ds.length + es.length ≤ sizeLine) : FnTo c ((B,.list es) :: (σ₁ ++ (M,.list ds) :: σ₂)) (.builtin "list.extend") [.raw (.ref M),.raw (.ref B)] .none (σ₁ ++ (M,.list (ds ++ es)) :: σ₂):=⟨fun c' hs ρ Q q => mExtend hsz q⟩
noncomputable def wayOf (b : Blk) : List Nat:=match b.2 with | .goto y => [y] | _ => []
noncomputable abbrev plS (L M : Addr) (left met : List Nat) (σ : Sto) : Sto:=(M,.list (met.map natV)) :: (L,.list (left.map natV)) :: σ
section
variable {bd : V} {L M : Addr} {b o2 o3 : Option V} {met : List Nat} {K : Fl → Vars → Sto → Prop}
theorem pl_loop {left : List Nat} {pos : Pos} (hcomp : c.comp = Option.none) (hsc : c.env.scope = scopeOf (stmtAt 48)) (H : Has t c) (hn : 2 ≤ c.n) (q : ∀ o4,K .next (plV t bd L M b o2 o3 o4) (plS L M left met σ)) : ∀ {ss : List Stm} {o4 : Option V},(∀ s ∈ ss,∀ o ∈ s.opds,o.cst = true) →
    WFor c (.Name "statement" pos) (forB (plB[2]?.getD (.Pass ⟨0,0,0,0⟩))) K (ss.map Stm.v) (plV t bd L M b o2 o3 o4) (plS L M left met σ)
  | [],o4,hs => q o4
  | s :: ss,o4,hs => fun ps noc => uName (.tl (.tl (.tl (.tl (.tl (.tl .hd)))))) (xv_sound (c:=c.pins ps) hsc 60 (O:={ exprs:=[(503019081,.list [],Option.none)],ops:=[(503019087,.bool false)] })
      (kc3 (x_const (c:=c.pins ps) (σ:=plS L M left met σ) (ρ:=plV t bd L M b o2 o3 (some s.v)) (hs s (.head _)) hcomp hsc (.tl (.tl (.tl (.tl (.tl (.tl .own)))))) (.tl (.tl (.tl (.tl (.tl (.tl (.tl .ro))))))) H (ule hn : 1 ≤ c.n)) (CmTo.neNil (c:=c.pins ps) (σ:=plS L M left met σ) (ds:=[]) (b:=false) rfl rfl rfl) (pl_loop (pos:=pos) hcomp hsc H hn q (ss:=ss) (o4:=some s.v) fun s h => hs s (.tail _ h))) Cx.Same.refl)
set_option backward.match.sparseCases true in
theorem pl_end {m : Trm} {o4 : Option V} (hm : match m with | .swB .. => False | .sw1 .. => False | .swN .. => False | .asrt o _ => o.cst = true | _ => True) (hsc : c.env.scope = scopeOf (stmtAt 48)) (q : K .next (plV t bd L M b o2 (some m.v) o4) (plS L M (wayOf ([],m)) met σ)) :
    WX c (execs (plB.drop 3) c.env) (plV t bd L M b o2 (some m.v) o4) (plS L M [] met σ) K:=by
  have gm:=GmTo.ext (c:=c) (σ:=plS L M [] met σ) (M:=L) (ds:=[]) (.tail _ (.head _))
  have ex:=fun (es : List V) (h : es.length ≤ 1) (B : Addr) => s_extend2 (c:=c) (M:=L) (B:=B) (ds:=[]) (es:=es) (σ₁:=[(M,.list (met.map natV))]) (σ₂:=σ) (Nat.le_trans (Nat.le_of_eq (Nat.zero_add _)) (Nat.le_trans h (by decide)))
  have go : ∀ ds : List V,ds.length ≤ 1 → xv c (scopeOf (stmtAt 48)) { muts:=[507024039,507072074],meths:=[(507012075,.builtin "list.extend",.none,some ((M,.list (met.map natV)) :: (L,.list ([] ++ ds)) :: σ))] } 60 (plV t bd L M b o2 (some m.v) o4) (plS L M [] met σ) (plB.drop 3) K → WX c (execs (plB.drop 3) c.env) (plV t bd L M b o2 (some m.v) o4) (plS L M [] met σ) K:=fun ds Z h => xv_sound hsc 60 h Cx.Same.refl
  have e0:=ex [] (Nat.zero_le 1)
  cases m with
  | goto y => exact go [natV y] (Nat.le_refl 1) (kc2 gm fun B : Addr => And.intro (ex [natV y] (Nat.le_refl 1) B) q)
  | ret => exact go [] (Nat.zero_le 1) (kc2 gm fun B : Addr => And.intro (e0 B) q)
  | panic => exact go [] (Nat.zero_le 1) (kc2 gm fun B : Addr => And.intro (e0 B) q)
  | asrt w y =>
    cases w with
    | num i => exact go [] (Nat.zero_le 1) (kc2 gm fun B : Addr => And.intro (e0 B) q)
    | bit i => exact go [] (Nat.zero_le 1) (kc2 gm fun B : Addr => And.intro (e0 B) q)
    | _ => exact Bool.noConfusion (hm : false = true)
  | _ => exact False.elim hm
end
theorem x_plain {nm : Str} {na : Nat} {tys : List Ty} {bl : List Blk} {L M : Addr} {n : Nat} {b : Blk} {met : List Nat} {o2 o3 o4 : Option V} {Q : Fl → Vars → Sto → Prop} (hb : bl[n]? = some b) (hn1 : n ≤ 1000) (hp : PlainB b) (hm : met.length ≤ 1000) (H : Has t c) (hn : 2 ≤ c.n) (hsc : c.env.scope = scopeOf (stmtAt 48)) (hcomp : c.comp = Option.none)
    (q : ∀ o2 o3 o4,Q .next (plV t (bodV t nm na tys bl) L M (some (natV n)) o2 o3 o4) (plS L M (wayOf b) (met ++ [n]) σ)) :
    WX c (execs plB c.env) (plV t (bodV t nm na tys bl) L M (some (natV n)) o2 o3 o4) (plS L M [] met σ) Q:=by
  have it:=ItTo.lst (c:=c) (σ:=plS L M [] (met ++ [n]) σ) (ds:=bl.map blkV) (i:=n) (d:=blkV b) (by rw [List.getElem?_map,hb]; rfl) hn1
  have e : plS L M [] (met ++ [n]) σ = (M,.list (met.map natV ++ [natV n])) :: (L,.list []) :: σ:=by unfold plS; rw [List.map_append]; rfl
  have x : XTo c (plV t (bodV t nm na tys bl) L M (some (natV n)) (some (.list (b.1.map Stm.v))) (some b.2.v) o4) (plS L M [] (met ++ [n]) σ) (plB.drop 2) Q:=⟨fun c2 hs2 =>
    xCons (xFor (fun Z => rfl) (wName (.tl (.tl (.tl (.tl .own)))) (elemsAnd rfl (pl_loop (hs2.comp.trans hcomp) (hs2.env ▸ hsc) (H.like hs2.like) (hs2.n ▸ hn) (fun o4 => thenNext (pl_end hp.tm (hs2.env ▸ hsc) (q _ _ _))) hp.st))))⟩
  rw [e] at it x
  exact xv_sound hsc 60 (O:={ pos:=[(500012029,0)],ops:=[(501037055,blkV b)],stops:=[502012032] }) (kc6 (ze (.ref M)) (ze (.ref M)) (Nat.le_trans (len_map (f:=natV) hm) (by decide : 1000 ≤ sizeLine)) H.g_Body_blocks it x) Cx.Same.refl
theorem x_turnP {nm : Str} {na : Nat} {tys : List Ty} {bl : List Blk} {L M : Addr} {n : Nat} {b : Blk} {met : List Nat} {o1 o2 o3 o4 : Option V} {Q : Fl → Vars → Sto → Prop} (hb : bl[n]? = some b) (hn1 : n ≤ 1000) (hp : PlainB b) (hm : met.length ≤ 1000) (hnm : n ∉ met) (H : Has t c) (hn : 2 ≤ c.n) (hsc : c.env.scope = scopeOf (stmtAt 48)) (hcomp : c.comp = Option.none)
    (q : ∀ o2 o3 o4,Q .next (plV t (bodV t nm na tys bl) L M (some (natV n)) o2 o3 o4) (plS L M (wayOf b) (met ++ [n]) σ)) :
    WX c (execs (whB ((bodyOf (stmtAt 48))[1]?.getD (.Pass ⟨0,0,0,0⟩))) c.env) (plV t (bodV t nm na tys bl) L M o1 o2 o3 o4) (plS L M [n] met σ) Q:=by
  have x : XTo c (plV t (bodV t nm na tys bl) L M (some (natV n)) o2 o3 o4) (plS L M [] met σ) ((whB ((bodyOf (stmtAt 48))[1]?.getD (.Pass ⟨0,0,0,0⟩))).drop 1) Q:=⟨fun c3 hs3 => by
    have co:=CmTo.outM (c:=c3) (M:=M) (met:=met) (σ:=plS L M [] met σ) (n:=n) (.head _) hnm
    refine xCons (xIf (wbAt (c:=c3) (O:={ ops:=[(499011027,.bool true)] }) (b:=true) (σ':=plS L M [] met σ) (kc2 co (AtV.rf (d:=.bool true) (σ:=plS L M [] met σ))) (ifTr ?_)))
    exact x_plain hb hn1 hp hm (H.like hs3.like) (hs3.n ▸ hn) (hs3.env ▸ hsc) (hs3.comp.trans hcomp) fun o2 o3 o4 => thenNext (xNil (q o2 o3 o4))⟩
  exact xv_sound hsc 60 (O:={ pos:=[(498016026,1)],stops:=[499008075] }) (kc3 (ze (.ref L)) (by decide : 1 ≤ sizeLine) x) Cx.Same.refl
structure PlainOn (bl : List Blk) (R : Nat → Prop) : Prop where
  zero : R 0
  ok : ∀ n,R n → ∃ b,bl[n]? = some b ∧ PlainB b ∧ ∀ y ∈ wayOf b,R y ∧ n < y
inductive PlI (R : Nat → Prop) : Nat → List Nat → List Nat → Prop
  | done {m : Nat} {met : List Nat} : PlI R m [] met
  | here {n : Nat} {met : List Nat} (h : R n) (lt : ∀ x ∈ met,x < n) (hl : met.length ≤ n) : PlI R (101 - n) [n] met
theorem way_or (b : Blk) : wayOf b = [] ∨ ∃ y,wayOf b = [y]:=by
  obtain ⟨ks,m⟩:=b
  cases m <;> first | exact .inl rfl | exact .inr ⟨_,rfl⟩
theorem sub_lt' {n y : Nat} (h : n < y) (hn : n < 101) : 101 - y < 101 - n:=Nat.sub_lt_sub_left hn h
inductive PlN (R : Nat → Prop) (n : Nat) (left met : List Nat) : Prop
  | mk (m : Nat) (h : m < 101 - n) (i : PlI R m left met) : PlN R n left met
theorem PlI.next {R : Nat → Prop} {b : Blk} {n : Nat} {met : List Nat} (hn : n < 100) (hy : ∀ y ∈ wayOf b,R y ∧ n < y) (lt : ∀ x ∈ met,x < n) (hl : met.length ≤ n) : PlN R n (wayOf b) (met ++ [n]):=by
  rcases way_or b with hw | ⟨y,hw⟩
  · rw [hw]; exact ⟨0,Nat.sub_pos_of_lt (Nat.lt_succ_of_lt hn),.done⟩
  · rw [hw] at hy ⊢
    obtain ⟨h1,h2⟩:=hy y (.head _)
    refine ⟨101 - y,sub_lt' h2 (Nat.lt_succ_of_lt hn),.here h1 (fun x hx => (List.mem_append.mp hx).elim (fun h => Nat.lt_trans (lt x h) h2) fun h => List.mem_singleton.mp h ▸ h2) ?_⟩
    rw [List.length_append]; exact Nat.le_trans (Nat.succ_le_succ hl) h2
section
variable {bd : V} {L M : Addr} {Q : V → Sto → Prop}
inductive PlS (t : Tab) (bd : V) (L M : Addr) (R : Nat → Prop) (σ : Sto) (m : Nat) (ρ : Vars) (τ : Sto) : Prop
  | mk (left met : List Nat) (o1 o2 o3 o4 : Option V) (i : PlI R m left met) (e1 : ρ = plV t bd L M o1 o2 o3 o4) (e2 : τ = plS L M left met σ) : PlS t bd L M R σ m ρ τ
theorem pl_while {nm : Str} {na : Nat} {tys : List Ty} {bl : List Blk} {R : Nat → Prop} (hR : PlainOn bl R) (hbl : bl.length ≤ 100) (H : Has t c) (hn : 2 ≤ c.n) (hsc : c.env.scope = scopeOf (stmtAt 48)) (hcomp : c.comp = Option.none) (q : Q (.bool true) σ) :
    WX c (execs ((bodyOf (stmtAt 48)).drop 1) c.env) (plV t (bodV t nm na tys bl) L M .none .none .none .none) (plS L M [0] [] σ) (Ends Q):=by
  refine xCons (xWhile (PlS t (bodV t nm na tys bl) L M R σ) ?_ (n:=101) ⟨[0],[],_,_,_,_,.here hR.zero (fun x hx => nomatch hx) (Nat.le_refl _),rfl,rfl⟩)
  rintro m ρ τ ⟨left,met,o1,o2,o3,o4,hI,rfl,rfl⟩
  cases hI with
  | done =>
    exact wbAt (c:=c) (O:={ ops:=[(497010020,.bool false)] }) (b:=false) (σ':=plS L M [] met σ) (kc2 (CmTo.neM (c:=c) (L:=L) (left:=[]) (σ:=plS L M [] met σ) (b:=false) (.tail _ (.head _)) rfl) (AtV.rf (d:=.bool false) (σ:=plS L M [] met σ)))
      (ifFa (xNil (thenNext (xDropAll (junk:=[_,_]) (xv_sound hsc 60 (O:={}) (kc1 q) Cx.Same.refl)))))
  | @here n _ hRn hlt hml =>
    obtain ⟨b,hb,hp,hy⟩:=hR.ok n hRn
    have hlen : n < 100:=Nat.lt_of_lt_of_le (List.getElem?_eq_some_iff.mp hb).1 hbl
    obtain ⟨m,h,i⟩:=PlI.next hlen hy hlt hml
    exact wbAt (c:=c) (O:={ ops:=[(497010020,.bool true)] }) (b:=true) (σ':=plS L M [n] met σ) (kc2 (CmTo.neM (c:=c) (L:=L) (left:=[n]) (σ:=plS L M [n] met σ) (b:=true) (.tail _ (.head _)) rfl) (AtV.rf (d:=.bool true) (σ:=plS L M [n] met σ)))
      (ifTr (x_turnP hb (Nat.le_trans (Nat.le_of_lt hlen) (by decide)) hp (Nat.le_trans hml (Nat.le_trans (Nat.le_of_lt hlen) (by decide))) (fun h => Nat.lt_irrefl _ (hlt n h)) H hn hsc hcomp fun o2 o3 o4 => ⟨m,h,_,_,_,_,_,_,i,rfl,rfl⟩))
end
theorem s_plain {nm : Str} {na : Nat} {tys : List Ty} {bl : List Blk} {R : Nat → Prop} (hR : PlainOn bl R) (hbl : bl.length ≤ 100) (H : Has t c) (hn : 3 ≤ c.n) : FnTo c σ (.ref t.l_is_plain) [bodV t nm na tys bl] (.bool true) σ:=by
  refine fnTo (ps:=["body"]) (ls:=["left", "met", "block", "statements", "terminator", "statement"]) (gl:=[("_law_operands",.raw (.ref t.l_operands))]) H.l_is_plain.2 (ule hn) (Binds.of1 fun Z Z Z Z Z Z Z Z Z => rfl) rfl (SigOk.of (gn:=["_law_operands"]) (by decide +kernel)) (gcons (gF H.l_operands.1) gnil) ?_
  intro c' hlk hn' hcomp hsc Q q
  have x : ∀ L M : Addr,XTo c' (plV t (bodV t nm na tys bl) L M .none .none .none .none) (plS L M [0] [] σ) ((bodyOf (stmtAt 48)).drop 1) (Ends Q):=fun L M => ⟨fun c2 hs2 => pl_while hR hbl (H.like (hlk.trans hs2.like)) (hs2.n ▸ nle hn' hn) (hs2.env ▸ hsc) (hs2.comp.trans hcomp) q⟩
  exact ⟨{ muts:=[496017020,496022024],stops:=[497004075] },kc1 x⟩
end
end
end Mine
end
section
set_option tactic.hygienic false
namespace Mine
noncomputable section
noncomputable def putB (tys : List Ty) (kn : Kn) : List Stm → List Stm
  | [] => []
  | s :: r => putS tys kn s :: putB tys (kstep kn s) r
noncomputable def newB (tys : List Ty) (beg : Beg) (i : Nat) (b : Blk) : Blk:=match bget beg (i : Int) with
  | some kn => (putB tys kn b.1,putT (runK kn b.1) b.2)
  | Option.none => b
noncomputable def foundB (tys : List Ty) (bl : List Blk) (beg : Beg) : List Blk:=bl.mapIdx (newB tys beg)
theorem bget_mem {beg : Beg} {n : Int} {kn : Kn} (h : bget beg n = some kn) : n ∈ beg.map (·.1):=by
  unfold bget at h
  obtain ⟨p,hp,_⟩:=Option.map_eq_some_iff.mp h
  have h1:=List.find?_some hp
  exact List.mem_map.mpr ⟨p,List.mem_of_find?_eq_some hp,by simpa using h1⟩
theorem mem_bget {beg : Beg} {n : Int} (h : n ∈ beg.map (·.1)) : ∃ kn,bget beg n = some kn:=by
  obtain ⟨p,hp,e⟩:=List.mem_map.mp h
  exact any_bget (List.any_eq_true.mpr ⟨p,hp,by simpa using e⟩)
theorem encB_keys (beg : Beg) : (encB beg).map (·.1) = beg.map (·.1):=by
  unfold encB; rw [List.map_map]; rfl
theorem mapIdx_of {α : Type} {f : Nat → α → α} {l m : List α} (hl : m.length = l.length) (h : ∀ i b,l[i]? = some b → m[i]? = some (f i b)) : m = l.mapIdx f:=by
  apply List.ext_getElem?
  intro i
  rw [List.getElem?_mapIdx]
  cases hi : l[i]? with
  | none => simp at hi ⊢; omega
  | some b => exact h i b hi
section
variable {t : Tab} {c : Cx} {ρ : Vars} {σ : Sto} {Q : V → Sto → Prop}
theorem wcLoose {f : Value} {ds : List V} (h : WC c f ds ρ σ fun d σ' => ∃ a σ₁ σ₂ ds,σ' = σ₁ ++ (a,.list ds) :: σ₂ ∧ Q d (σ₁ ++ (a,.glist ds) :: σ₂)) : WC c f ds ρ σ Q:=fun τ s vs R hv hm X hR =>
  h τ s vs R hv hm X fun v d σ' s' q X' => by
    obtain ⟨a,σ₁,σ₂,ds,rfl,q⟩:=q
    refine hR _ _ _ _ q (St.update (mo':=.glist ds) X' fun fz b o mr ho hz kn up => ?_)
    cases mr with
    | list h3 => exact up s'.heap s'.toks _ ⟨rfl,fun Z Z => rfl⟩ ho (.glist rfl rfl h3)
end
end
end Mine
end
section
set_option tactic.hygienic false
namespace Mine
noncomputable section
section
variable {t : Tab} {c : Cx} {σ : Sto}
theorem ItTo.chr0 {x : Str} {k : Nat} (hc : (seqIndex? 0 x.length).bind (x.cps[·]?) = some k) : ItTo c σ (.str x) (.int 0) (.str ⟨#[k]⟩):=⟨fun v s hs c' hs' ρ Q q => gStr (by decide) hc hs q⟩
theorem BiTo.p8 : BiTo c σ .Pow (.int 2) (.int 8) (.int 256):=⟨fun c' hs ρ Q q => oPow (by decide) (by decide) (by decide) q⟩
theorem s_is_signed (H : Has t c) (hn : 1 ≤ c.n) : FnTo c σ (.ref t.is_signed) [.str "u8"] (.bool false) σ:=by
  refine fnTo (ps:=["kind"]) (ls:=[]) (gl:=[]) H.is_signed.2 hn (Binds.of1 fun Z Z Z Z Z Z Z Z Z => rfl) rfl (SigOk.of (gn:=[]) (by decide +kernel)) gnil ?_
  intro c' hlk hn' hcomp hsc Q q
  exact ⟨{ ops:=[(16011018,.str ⟨#[117]⟩)] },kc2 (ItTo.chr0 (c:=c') (σ:=σ) (x := "u8") (k:=117) rfl) q⟩
theorem s_least (H : Has t c) (hn : 2 ≤ c.n) : FnTo c σ (.ref t.least) [.str "u8"] (.int 0) σ:=by
  refine fnTo (ps:=["kind"]) (ls:=[]) (gl:=[("BITS",bitsV),("is_signed",.raw (.ref t.is_signed))]) H.least.2 (ule hn) (Binds.of1 fun Z Z Z Z Z Z Z Z Z => rfl) rfl (SigOk.of (gn:=["BITS", "is_signed"]) (by decide +kernel)) (gcons H.gBits (gcons (gF H.is_signed.1) gnil)) ?_
  intro c' hlk hn' hcomp hsc Q q
  have H':=H.like hlk
  exact ⟨{ calls:=[(18040055,.bool false,none)] },kc3 (callable_K (c:=c') H'.is_signed.2.keep) (s_is_signed (σ:=σ) H' (nle hn' hn)) q⟩
theorem s_greatest (H : Has t c) (hn : 2 ≤ c.n) : FnTo c σ (.ref t.greatest) [.str "u8"] (.int 255) σ:=by
  refine fnTo (ps:=["kind"]) (ls:=[]) (gl:=[("BITS",bitsV),("is_signed",.raw (.ref t.is_signed))]) H.greatest.2 (ule hn) (Binds.of1 fun Z Z Z Z Z Z Z Z Z => rfl) rfl (SigOk.of (gn:=["BITS", "is_signed"]) (by decide +kernel)) (gcons H.gBits (gcons (gF H.is_signed.1) gnil)) ?_
  intro c' hlk hn' hcomp hsc Q q
  have H':=H.like hlk
  exact ⟨{ calls:=[(20040055,.bool false,none)],ops:=[(20061076,.int 256)] },kc4 (callable_K (c:=c') H'.is_signed.2.keep) (s_is_signed (σ:=σ) H' (nle hn' hn)) (BiTo.p8 (c:=c') (σ:=σ)) q⟩
theorem s_wrapped {n : Int} (H : Has t c) (hn : 3 ≤ c.n) : FnTo c σ (.ref t.wrapped) [.str "u8",.int n] (.int (n.fmod 256)) σ:=by
  refine fnTo (ps:=["kind", "number"]) (ls:=["low"]) (gl:=[("least",.raw (.ref t.least)),("BITS",bitsV)]) H.wrapped.2 (ule hn) (Binds.of2 fun Z Z Z Z Z Z Z Z Z Z => rfl) rfl (SigOk.of (gn:=["least", "BITS"]) (by decide +kernel)) (gcons (gF H.least.1) (gcons H.gBits gnil)) ?_
  intro c' hlk hn' hcomp hsc Q q
  have H':=H.like hlk
  have q : Q (.int (0 + (n - 0).fmod 256)) σ:=by rw [Int.zero_add,Int.sub_zero]; exact q
  exact ⟨{ calls:=[(24010021,.int 0,none)],ops:=[(25034049,.int 256)] },kc4 (callable_K (c:=c') H'.least.2.keep) (s_least (σ:=σ) H' (nle hn' hn)) (BiTo.p8 (c:=c') (σ:=σ)) q⟩
theorem s_fits {n : Int} (H : Has t c) (hn : 3 ≤ c.n) : FnTo c σ (.ref t.fits) [.str "u8",.int n] (.bool (decide (0 ≤ n) && decide (n ≤ 255))) σ:=by
  refine fnTo (ps:=["kind", "number"]) (ls:=[]) (gl:=[("least",.raw (.ref t.least)),("greatest",.raw (.ref t.greatest))]) H.fits.2 (ule hn) (Binds.of2 fun Z Z Z Z Z Z Z Z Z Z => rfl) rfl (SigOk.of (gn:=["least", "greatest"]) (by decide +kernel)) (gcons (gF H.least.1) (gcons (gF H.greatest.1) gnil)) ?_
  intro c' hlk hn' hcomp hsc Q q
  have H':=H.like hlk
  have k1 : Callable c' (.ref t.least):=callable_K H'.least.2.keep
  have k2 : Callable c' (.ref t.greatest):=callable_K H'.greatest.2.keep
  cases hb : decide (0 ≤ n) with
  | true =>
    rw [hb,Bool.true_and] at q
    exact ⟨{ calls:=[(22011022,.int 0,none),(22036050,.int 255,none)],tests:=[(22011050,true)] },kc6 k1 (s_least (σ:=σ) H' (nle hn' hn)) hb k2 (s_greatest (σ:=σ) H' (nle hn' hn)) q⟩
  | false =>
    rw [hb,Bool.false_and] at q
    exact ⟨{ calls:=[(22011022,.int 0,none),(22036050,.int 255,none)],tests:=[(22011050,false)] },kc4 k1 (s_least (σ:=σ) H' (nle hn' hn)) hb (hb ▸ q : Q (.bool (decide (0 ≤ n))) σ)⟩
theorem s_cast_int {n : Int} (H : Has t c) (hn : 4 ≤ c.n) : FnTo c σ (.ref t.cast_int) [.str "u8",.int n] (.int (n.fmod 256)) σ:=by
  refine fnTo (ps:=["kind", "number"]) (ls:=[]) (gl:=[("wrapped",.raw (.ref t.wrapped)),("int",.raw (.type "int"))]) H.cast_int.2 (ule hn) (Binds.of2 fun Z Z Z Z Z Z Z Z Z Z => rfl) rfl (SigOk.of (gn:=["wrapped", "int"]) (by decide +kernel)) (gcons (gF H.wrapped.1) (gcons (gF H.b_int) gnil)) ?_
  intro c' hlk hn' hcomp hsc Q q
  have H':=H.like hlk
  exact ⟨{ calls:=[(27025036,.int n,none),(27011037,.int (n.fmod 256),none)] },kc5 (callable_K (c:=c') H'.wrapped.2.keep) (callable_T (c:=c') (T := "int")) (⟨fun c' hs ρ Q q => bIntI q⟩ : FnTo c' σ (.type "int") [.int n] (.int n) σ) (s_wrapped (σ:=σ) (n:=n) H' (nle hn' hn)) q⟩
end
end
end Mine
end
section
set_option tactic.hygienic false
namespace Mine
noncomputable section
section
variable {t : Tab} {c : Cx} {σ : Sto}
theorem s_exact {o : Ar} {a b : Int} (ha : small a) (hb : small b) (H : Has t c) (hn : 1 ≤ c.n) : FnTo c σ (.ref t.exact) [.str o.str,.int a,.int b] (.int (o.run a b)) σ:=by
  refine fnTo (ps:=["op", "a", "b"]) (ls:=[]) (gl:=[]) H.exact.2 (ule hn) (Binds.of3 fun Z Z Z Z Z Z Z Z Z Z Z => rfl) rfl (SigOk.of (gn:=[]) (by decide +kernel)) gnil ?_
  intro c' hlk hn' hcomp hsc Q q
  have ml:=BiTo.mul (c:=c') (σ:=σ) (mulOk ha hb)
  cases o with
  | mul => exact ⟨{ ops:=[(37015020,.int (a * b))] },kc2 ml q⟩
  | _ => exact ⟨{},kc1 q⟩
theorem s_compared {o : Cm} {a b : Int} (H : Has t c) (hn : 1 ≤ c.n) : FnTo c σ (.ref t.compared) [.str o.str,.int a,.int b] (.bool (o.run a b)) σ:=by
  refine fnTo (ps:=["op", "a", "b"]) (ls:=[]) (gl:=[]) H.compared.2 (ule hn) (Binds.of3 fun Z Z Z Z Z Z Z Z Z Z Z => rfl) rfl (SigOk.of (gn:=[]) (by decide +kernel)) gnil ?_
  intro c' hlk hn' hcomp hsc Q q
  cases o <;> exact ⟨{},kc1 q⟩
theorem s_checked {o : Ar} {a b : Int} (ha : small a) (hb : small b) (H : Has t c) (hn : 4 ≤ c.n) : FnTo c σ (.ref t.checked) [.str "u8",.str o.str,.int a,.int b] (.tup [.int ((o.run a b).fmod 256),.bool (over (o.run a b))]) σ:=by
  refine fnTo (ps:=["kind", "op", "a", "b"]) (ls:=["found"]) (gl:=[("exact",.raw (.ref t.exact)),("wrapped",.raw (.ref t.wrapped)),("fits",.raw (.ref t.fits))]) H.checked.2 (ule hn) (Binds.of4 fun Z Z Z Z Z Z Z Z Z Z Z Z => rfl) rfl (SigOk.of (gn:=["exact", "wrapped", "fits"]) (by decide +kernel)) (gcons (gF H.exact.1) (gcons (gF H.wrapped.1) (gcons (gF H.fits.1) gnil))) ?_
  intro c' hlk hn' hcomp hsc Q q
  have H':=H.like hlk
  have ci : CmTo c' σ .In (.str o.str) (.tup [.str "<<",.str ">>"]) (.bool false):=⟨fun c' hs ρ Q q => oInF (Rd.data rfl) (Rd.data rfl) (Or.inr rfl) (by cases o <;> decide +kernel) (by decide +kernel) (by cases o <;> decide +kernel) q⟩
  exact ⟨{ calls:=[(52012027,.int (o.run a b),none),(57012032,.int ((o.run a b).fmod 256),none),(57038055,.bool (decide (0 ≤ o.run a b) && decide (o.run a b ≤ 255)),none)],ops:=[(50007025,.bool false),(55007016,.bool false)] },
    kc9 ci (callable_K (c:=c') H'.exact.2.keep) (s_exact (σ:=σ) (o:=o) ha hb H' (nle hn' hn)) (⟨fun c' hs ρ Q q => oEqStrF (by cases o <;> decide +kernel) q⟩ : CmTo c' σ .Eq (.str o.str) (.str "%") (.bool false)) (callable_K (c:=c') H'.wrapped.2.keep) (s_wrapped (σ:=σ) (n:=o.run a b) H' (nle hn' hn)) (callable_K (c:=c') H'.fits.2.keep) (s_fits (σ:=σ) (n:=o.run a b) H' (nle hn' hn)) q⟩
end
end
end Mine
end
section
set_option tactic.hygienic false
namespace Mine
noncomputable section
section
variable {t : Tab} {c : Cx} {σ : Sto}
theorem e_listT {ds : List V} (h : ds.length ≤ sizeLine) : FnTo c σ (.type "list") [.tup ds] (.list ds) σ:=⟨fun c' hs ρ Q q => bListT h q⟩
theorem e_tupL {ds : List V} (h : ds.length ≤ sizeLine) : FnTo c σ (.type "tuple") [.list ds] (.tup ds) σ:=⟨fun c' hs ρ Q q => bTupL h q⟩
theorem s_operands_of {r : Rv} (H : Has t c) (hn : 1 ≤ c.n) : FnTo c σ (.ref t.operands_of) [r.v] (.list (r.ops.map Opd.v)) σ:=by
  refine fnTo (ps:=["rvalue"]) (ls:=["word"]) (gl:=[("list",.raw (.type "list"))]) H.operands_of.2 (ule hn) (Binds.of1 fun Z Z Z Z Z Z Z Z Z => rfl) rfl (SigOk.of (gn:=["list"]) (by decide +kernel)) (gcons (gF H.b_list) gnil) ?_
  intro c' hlk hn' hcomp hsc Q q
  have k1 : Callable c' (.type "list"):=callable_T
  cases r with
  | tuple a b => exact ⟨{ calls:=[(136015030,.list [a.v,b.v],none)] },kc3 k1 (e_listT (c:=c') (σ:=σ) (ds:=[a.v,b.v]) (show (2 : Nat) ≤ sizeLine by decide)) q⟩
  | _ => exact ⟨{},kc1 q⟩
theorem s_with_operands {r : Rv} {f : Opd → Opd} (H : Has t c) (hn : 1 ≤ c.n) : FnTo c σ (.ref t.with_operands) [r.v,.list (r.ops.map fun o => (f o).v)] (r.map f).v σ:=by
  refine fnTo (ps:=["rvalue", "operands"]) (ls:=["word"]) (gl:=[("tuple",.raw (.type "tuple"))]) H.with_operands.2 (ule hn) (Binds.of2 fun Z Z Z Z Z Z Z Z Z Z => rfl) rfl (SigOk.of (gn:=["tuple"]) (by decide +kernel)) (gcons (gF H.b_tuple) gnil) ?_
  intro c' hlk hn' hcomp hsc Q q
  have k1 : Callable c' (.type "tuple"):=callable_T
  cases r with
  | tuple a b => exact ⟨{ calls:=[(149022037,.tup [(f a).v,(f b).v],none)] },kc3 k1 (e_tupL (c:=c') (σ:=σ) (ds:=[(f a).v,(f b).v]) (show (2 : Nat) ≤ sizeLine by decide)) q⟩
  | _ => exact ⟨{},kc1 q⟩
theorem GmTo.dget {k : Addr} {es : List (Int × V)} (h : (k,MO.dict es) ∈ σ) : GmTo c σ "get" (.raw (.ref k)) (.builtin "dict.get"):=⟨fun c' hs ρ => GM.dict (DRd.chg h) PySem.F.slot_dict_get PySem.F.type_dict_get⟩
theorem GmTo.dpop {k : Addr} {es : List (Int × V)} (h : (k,MO.dict es) ∈ σ) : GmTo c σ "pop" (.raw (.ref k)) (.builtin "dict.pop"):=⟨fun c' hs ρ => GM.dict (DRd.chg h) PySem.F.slot_dict_pop PySem.F.type_dict_pop⟩
theorem s_dget {k : Addr} {kn : Kn} {l : Int} {d : V} (h : (k,MO.dict (enc kn)) ∈ σ) (e : optV (kget kn l) = d) : FnTo c σ (.builtin "dict.get") [.raw (.ref k),.int l] d σ:=⟨fun c' hs ρ Q q => mGet (DRd.chg h) (by rw [dget_enc,e]; exact q)⟩
theorem s_at_loc {k : Addr} {kn : Kn} {l : Nat} (hσ : (k,MO.dict (enc kn)) ∈ σ) (H : Has t c) (hn : 1 ≤ c.n) : FnTo c σ (.ref t.f_at_place) [factsV t k,placeV l] (optV (kget kn l)) σ:=by
  refine fnTo (ps:=["self", "place"]) (ls:=["value", "projection"]) (gl:=[]) H.f_at_place.me (ule hn) (Binds.of2 fun Z Z Z Z Z Z Z Z Z Z => rfl) rfl (SigOk.of (gn:=[]) (by decide +kernel)) gnil ?_
  intro c' hlk hn' hcomp hsc Q q
  have H':=H.like hlk
  exact ⟨{ meths:=[(171016040,.builtin "dict.get",optV (kget kn l),none)] },kc4 H'.g_Facts_known (GmTo.dget (c:=c') hσ) (s_dget (c:=c') (l:=l) hσ rfl) q⟩
theorem s_at_part {k : Addr} {kn : Kn} {l : Nat} {b : Bool} (hp : PartOk kn (.part l b)) (hσ : (k,MO.dict (enc kn)) ∈ σ) (H : Has t c) (hn : 1 ≤ c.n) : FnTo c σ (.ref t.f_at_place) [factsV t k,partV l b] (optV (atO kn (.part l b))) σ:=by
  refine fnTo (ps:=["self", "place"]) (ls:=["value", "projection"]) (gl:=[]) H.f_at_place.me (ule hn) (Binds.of2 fun Z Z Z Z Z Z Z Z Z Z => rfl) rfl (SigOk.of (gn:=[]) (by decide +kernel)) gnil ?_
  intro c' hlk hn' hcomp hsc Q q
  have H':=H.like hlk
  cases hv : kget kn l with
  | none =>
    rw [show atO kn (.part l b) = Option.none from by simp [atO,hv]] at q
    exact ⟨{ meths:=[(171016040,.builtin "dict.get",.none,none)] },kc4 H'.g_Facts_known (GmTo.dget (c:=c') hσ) (s_dget (c:=c') (l:=l) (d:=.none) hσ (by rw [hv]; rfl)) q⟩
  | some v =>
    obtain ⟨i,x,rfl⟩:=hp v hv
    rw [show atO kn (.part l b) = some (if b then .b x else .n i) from by simp [atO,hv]] at q
    have sd:=s_dget (c:=c') (l:=l) (d:=.tup [.int i,.bool x]) hσ (by rw [hv]; rfl)
    cases b <;> exact ⟨{ meths:=[(171016040,.builtin "dict.get",.tup [.int i,.bool x],none)] },kc4 H'.g_Facts_known (GmTo.dget (c:=c') hσ) sd q⟩
theorem s_at_operand {k : Addr} {kn : Kn} {o : Opd} (hp : PartOk kn o) (hσ : (k,MO.dict (enc kn)) ∈ σ) (H : Has t c) (hn : 2 ≤ c.n) {d : V} (e : optV (atO kn o) = d) : FnTo c σ (.ref t.f_at_operand) [factsV t k,o.v] d σ:=by
  subst e
  refine fnTo (ps:=["self", "operand"]) (ls:=[]) (gl:=[("PLAIN",plainV)]) H.f_at_operand.me (ule hn) (Binds.of2 fun Z Z Z Z Z Z Z Z Z Z => rfl) rfl (SigOk.of (gn:=["PLAIN"]) (by decide +kernel)) (gcons ⟨_,H.plain.1,H.plain.2⟩ gnil) ?_
  intro c' hlk hn' hcomp hsc Q q
  have H':=H.like hlk
  have g : GmTo c' σ "at_place" (factsV t k) (.ref t.f_at_place):=GmTo.obj H'.f_at_place rfl
  cases o with
  | loc l => exact ⟨{ meths:=[(181015040,.ref t.f_at_place,optV (kget kn l),none)] },kc3 g (s_at_loc (l:=l) hσ H' (nle hn' hn)) q⟩
  | part l b => exact ⟨{ meths:=[(181015040,.ref t.f_at_place,optV (atO kn (.part l b)),none)] },kc3 g (s_at_part (l:=l) (b:=b) hp hσ H' (nle hn' hn)) q⟩
  | _ => exact ⟨{},kc1 q⟩
theorem s_forget {σ₁ σ₂ : Sto} {k : Addr} {kn : Kn} {l : Nat} (hsz : kn.length ≤ 1000) (H : Has t c) (hn : 1 ≤ c.n) : FnTo c (σ₁ ++ (k,.dict (enc kn)) :: σ₂) (.ref t.f_forget) [factsV t k,placeV l] .none (σ₁ ++ (k,.dict (enc (kdel kn l))) :: σ₂):=by
  refine fnTo (ps:=["self", "place"]) (ls:=[]) (gl:=[]) H.f_forget.me (ule hn) (Binds.of2 fun Z Z Z Z Z Z Z Z Z Z => rfl) rfl (SigOk.of (gn:=[]) (by decide +kernel)) gnil ?_
  intro c' hlk hn' hcomp hsc Q q
  have H':=H.like hlk
  exact ⟨{ gmeths:=[(184008038,.builtin "dict.pop",⟨V,fun Z => True,fun d => (d,σ₁ ++ (k,.dict (enc (kdel kn l))) :: σ₂)⟩)] },kc4 H'.g_Facts_known (GmTo.dpop (c:=c') (σ:=σ₁ ++ (k,.dict (enc kn)) :: σ₂) (k:=k) (es:=enc kn) mem_mid) (⟨fun c'' hs ρ Q' q' => mDictPop (by unfold enc; rw [List.length_map]; exact Nat.le_trans hsz (by decide)) fun d => (by rw [ddel_enc]; exact q' d trivial)⟩ : FnGe c' (σ₁ ++ (k,.dict (enc kn)) :: σ₂) (.builtin "dict.pop") [.raw (.ref k),.int l,.none] ⟨V,fun Z => True,fun d => (d,σ₁ ++ (k,.dict (enc (kdel kn l))) :: σ₂)⟩) (fun (_ : V) (_ : True) => q)⟩
theorem s_reckoned {o : Ar} {a b : Int} (ha : small a) (hb : small b) (H : Has t c) (hn : 5 ≤ c.n) : FnTo c σ (.ref t.reckoned_binary) [.str o.str,byteV,.int a,.int b] (.int ((o.run a b).fmod 256)) σ:=by
  refine fnTo (ps:=["op", "t", "a", "b"]) (ls:=[]) (gl:=[("COMPARED",compdV),("compared",.raw (.ref t.compared)),("checked",.raw (.ref t.checked))]) H.reckoned_binary.2 (ule hn) (Binds.of4 fun Z Z Z Z Z Z Z Z Z Z Z Z => rfl) rfl (SigOk.of (gn:=["COMPARED", "compared", "checked"]) (by decide +kernel)) (gcons ⟨_,H.compd.1,H.compd.2⟩ (gcons (gF H.compared.1) (gcons (gF H.checked.1) gnil))) ?_
  intro c' hlk hn' hcomp hsc Q q
  have H':=H.like hlk
  have ci : CmTo c' σ .In (.str o.str) compdV (.bool false):=⟨fun c' hs ρ Q q => oInF (Rd.data rfl) (Rd.data rfl) (Or.inr rfl) (by cases o <;> decide +kernel) (by decide +kernel) (by cases o <;> decide +kernel) q⟩
  exact ⟨{ calls:=[(190011034,.tup [.int ((o.run a b).fmod 256),.bool (over (o.run a b))],none)],ops:=[(186007021,.bool false)] },kc4 ci (callable_K (c:=c') H'.checked.2.keep) (s_checked (σ:=σ) (o:=o) ha hb H' (nle hn' hn)) q⟩
theorem s_reckonedC {o : Cm} {a b : Int} (H : Has t c) (hn : 2 ≤ c.n) : FnTo c σ (.ref t.reckoned_binary) [.str o.str,byteV,.int a,.int b] (.bool (o.run a b)) σ:=by
  refine fnTo (ps:=["op", "t", "a", "b"]) (ls:=[]) (gl:=[("COMPARED",compdV),("compared",.raw (.ref t.compared)),("checked",.raw (.ref t.checked))]) H.reckoned_binary.2 (ule hn) (Binds.of4 fun Z Z Z Z Z Z Z Z Z Z Z Z => rfl) rfl (SigOk.of (gn:=["COMPARED", "compared", "checked"]) (by decide +kernel)) (gcons ⟨_,H.compd.1,H.compd.2⟩ (gcons (gF H.compared.1) (gcons (gF H.checked.1) gnil))) ?_
  intro c' hlk hn' hcomp hsc Q q
  have H':=H.like hlk
  have ci : CmTo c' σ .In (.str o.str) compdV (.bool true):=⟨fun c' hs ρ Q q => oInT (Rd.data rfl) (Rd.data rfl) (Or.inr rfl) (by cases o <;> decide +kernel) (by decide +kernel) (by cases o <;> decide +kernel) q⟩
  exact ⟨{ calls:=[(187015033,.bool (o.run a b),none)],ops:=[(186007021,.bool true)] },kc4 ci (callable_K (c:=c') H'.compared.2.keep) (s_compared (σ:=σ) (o:=o) (a:=a) (b:=b) H' (nle hn' hn)) q⟩
end
end
end Mine
end
section
set_option tactic.hygienic false
namespace Mine
noncomputable section
section
variable {t : Tab} {c : Cx} {σ : Sto}
theorem s_type_of {nm : Str} {na : Nat} {tys : List Ty} {bl : List Blk} {fol : List (Int × V)} {bg : Addr} {o : Opd} {ty : Ty} (hsz : tys.length ≤ 100) (ho : tyO tys o = some ty) (H : Has t c) (hn : 1 ≤ c.n) : FnTo c σ (.ref t.c_type_of) [conV t (bodV t nm na tys bl) fol bg,o.v] ty.v σ:=by
  refine fnTo (ps:=["self", "operand"]) (ls:=["local", "projections", "t", "projection"]) (gl:=[]) H.c_type_of.me (ule hn) (Binds.of2 fun Z Z Z Z Z Z Z Z Z Z => rfl) rfl (SigOk.of (gn:=[]) (by decide +kernel)) gnil ?_
  intro c' hlk hn' hcomp hsc Q q
  have H':=H.like hlk
  have it : ∀ {l : Nat} {ty : Ty},tys[l]? = some ty → ItTo c' σ (locsV tys) (.int l) (.tup [ty.v,.bool true,.none]):=fun {l ty} h => ⟨fun v s hs c'' hs' ρ Q q => gListM LRd.data (Int.natCast_nonneg _) (by have:=(List.getElem?_eq_some_iff.mp h).1; omega) (by rw [List.getElem?_map,Int.toNat_natCast,h]; rfl) hs q⟩
  cases o with
  | loc l => exact ⟨{ ops:=[(206012035,.tup [ty.v,.bool true,.none])] },kc4 H'.g_Constants_body H'.g_Body_locals (it (l:=l) ho) q⟩
  | part l k =>
    have hl : tys[l]? = some .pair ∧ ty = if k then .bit else .byte:=by
      simp only [tyO] at ho
      split at ho
      · rename_i e; exact ⟨e,by cases k <;> simpa using ho.symm⟩
      · cases ho
    obtain ⟨hl,rfl⟩:=hl
    cases k <;> exact ⟨{ ops:=[(206012035,.tup [Ty.pair.v,.bool true,.none])] },kc4 H'.g_Constants_body H'.g_Body_locals (it (l:=l) hl) q⟩
  | _ => cases ho; exact ⟨{},kc1 q⟩
section
variable {nm : Str} {na : Nat} {tys : List Ty} {bl : List Blk} {fol : List (Int × V)} {bg k : Addr} {kn : Kn} (hk : KnOk tys kn) (hσ : (k,MO.dict (enc kn)) ∈ σ) (hsz : tys.length ≤ 100) (H : Has t c)
include hk hσ hsz H
noncomputable abbrev fAt (t : Tab) (c : Cx) (σ : Sto) (k : Addr) : Prop:=GmTo c σ "at_operand" (factsV t k) (.ref t.f_at_operand)
omit hk hσ hsz in
theorem gAt : fAt t c σ k:=GmTo.obj H.f_at_operand rfl
omit hk hσ hsz in
theorem gTy : GmTo c σ "type_of" (conV t (bodV t nm na tys bl) fol bg) (.ref t.c_type_of):=GmTo.obj H.c_type_of rfl
noncomputable def o2 (t : Tab) (a b d : V) : Orc:={meths:=[(230019041,.ref t.f_at_operand,a,none),(230043066,.ref t.f_at_operand,b,none),(230068086,.ref t.c_type_of,byteV,none)],calls:=[(234019047,d,none),(235015038,d,none)]}
noncomputable def two2 : Rv → Int → Int → Vl
  | .binary (.ar o) _ _,i,j => .n ((o.run i j).fmod 256)
  | .binary (.cm o) _ _,i,j => .b (o.run i j)
  | .checked o _ _,i,j => .p ((o.run i j).fmod 256) (over (o.run i j))
  | _,i,_ => .n i
theorem s_of_two {r : Rv} {a b : Opd} (ha : Typed tys a .byte) (hb : Typed tys b .byte) (hr : (∃ o,r = .binary o a b) ∨ ∃ o,r = .checked o a b) (hn : 6 ≤ c.n) : FnTo c σ (.ref t.c_of_two) [conV t (bodV t nm na tys bl) fol bg,r.v,factsV t k] (optV (valO kn r)) σ:=by
  obtain ⟨kd,os,hv⟩ : ∃ kd os,r.v = .tup [.str kd,.str os,a.v,b.v]:=by rcases hr with ⟨o,rfl⟩ | ⟨o,rfl⟩ <;> exact ⟨_,_,rfl⟩
  have hN : ∀ {va vb},atO kn a = va → atO kn b = vb → va = Option.none ∨ vb = Option.none → valO kn r = Option.none:=by
    rintro va vb h1 h2 h
    rcases hr with ⟨o | o,rfl⟩ | ⟨o,rfl⟩ <;> rcases h with rfl | rfl <;> simp [valO,h1,h2]
  have hS : ∀ {i j},atO kn a = some (.n i) → atO kn b = some (.n j) → valO kn r = some (two2 r i j):=by
    intro i j h1 h2
    rcases hr with ⟨o | o,rfl⟩ | ⟨o,rfl⟩ <;> simp [valO,h1,h2,two2]
  refine fnTo (ps:=["self", "rvalue", "facts"]) (ls:=["kind", "op", "left", "right", "a", "b", "t", "told"]) (gl:=[("PLAIN",plainV),("reckoned_binary",.raw (.ref t.reckoned_binary)),("checked",.raw (.ref t.checked))]) H.c_of_two.me (ule hn) (Binds.of3 fun Z Z Z Z Z Z Z Z Z Z Z => rfl) rfl (SigOk.of (gn:=["PLAIN", "reckoned_binary", "checked"]) (by decide +kernel)) (gcons ⟨_,H.plain.1,H.plain.2⟩ (gcons (gF H.reckoned_binary.1) (gcons (gF H.checked.1) gnil))) ?_
  intro c' hl hn' hcomp hsc Q q
  have H':=H.like hl
  have g1:=gAt (σ:=σ) (k:=k) H'
  have s1:=fun {o d} (hp : PartOk kn o) (e : optV (atO kn o) = d) => s_at_operand hp hσ H' (nle hn' hn) e
  have g2:=gTy (σ:=σ) (nm:=nm) (na:=na) (tys:=tys) (bl:=bl) (fol:=fol) (bg:=bg) H'
  have s2:=s_type_of (σ:=σ) (nm:=nm) (na:=na) (bl:=bl) (fol:=fol) (bg:=bg) hsz ha.1 H' (nle hn' hn)
  cases hva : atO kn a with
  | none =>
    rw [hN hva rfl (.inl rfl)] at q
    rw [hv]
    exact ⟨o2 t .none (optV (atO kn b)) .none,kc7 g1 (s1 (d:=.none) (hk.part ha) (by rw [hva]; rfl)) g1 (s1 (hk.part hb) rfl) g2 s2 q⟩
  | some va =>
    obtain ⟨i,rfl,hi⟩:=(hk.at ha hva).num
    cases hvb : atO kn b with
    | none =>
      rw [hN rfl hvb (.inr rfl)] at q
      rw [hv]
      exact ⟨o2 t (.int i) .none .none,kc7 g1 (s1 (d:=.int i) (hk.part ha) (by rw [hva]; rfl)) g1 (s1 (d:=.none) (hk.part hb) (by rw [hvb]; rfl)) g2 s2 q⟩
    | some vb =>
      obtain ⟨j,rfl,hj⟩:=(hk.at hb hvb).num
      have sa:=s1 (d:=.int i) (hk.part ha) (by rw [hva]; rfl)
      have sb:=s1 (d:=.int j) (hk.part hb) (by rw [hvb]; rfl)
      rw [hS hva hvb] at q
      rcases hr with ⟨o | o,rfl⟩ | ⟨o,rfl⟩
      · exact ⟨o2 t (.int i) (.int j) (.int ((o.run i j).fmod 256)),kc9 g1 sa g1 sb g2 s2 (callable_K (c:=c') H'.reckoned_binary.2.keep) (s_reckoned (σ:=σ) (o:=o) hi hj H' (nle hn' hn)) q⟩
      · exact ⟨o2 t (.int i) (.int j) (.bool (o.run i j)),kc9 g1 sa g1 sb g2 s2 (callable_K (c:=c') H'.reckoned_binary.2.keep) (s_reckonedC (σ:=σ) (o:=o) (a:=i) (b:=j) H' (nle hn' hn)) q⟩
      · exact ⟨o2 t (.int i) (.int j) (.tup [.int ((o.run i j).fmod 256),.bool (over (o.run i j))]),kc9 g1 sa g1 sb g2 s2 (callable_K (c:=c') H'.checked.2.keep) (s_checked (σ:=σ) (o:=o) hi hj H' (nle hn' hn)) q⟩
noncomputable def o1 (t : Tab) (a ty d : V) : Orc:={meths:=[(239016043,.ref t.f_at_operand,a,none),(239045068,.ref t.c_type_of,ty,none)],calls:=[(243048069,d,none),(244015035,d,none)]}
theorem s_of_one {r : Rv} {a : Opd} {ty : Ty} (ha : Typed tys a ty) (hr : (r = .inv a ∧ ty ≠ .pair) ∨ r = .neg a ∧ ty = .byte) (hn : 5 ≤ c.n) : FnTo c σ (.ref t.c_of_one) [conV t (bodV t nm na tys bl) fol bg,r.v,factsV t k] (optV (valO kn r)) σ:=by
  obtain ⟨os,hv⟩ : ∃ os,r.v = .tup [.str "unary",.str os,a.v]:=by rcases hr with ⟨rfl,_⟩ | ⟨rfl,_⟩ <;> exact ⟨_,rfl⟩
  have hN : atO kn a = Option.none → valO kn r = Option.none:=by
    intro h1
    rcases hr with ⟨rfl,_⟩ | ⟨rfl,_⟩ <;> simp [valO,h1]
  refine fnTo (ps:=["self", "rvalue", "facts"]) (ls:=["a", "t"]) (gl:=[("wrapped",.raw (.ref t.wrapped))]) H.c_of_one.me (ule hn) (Binds.of3 fun Z Z Z Z Z Z Z Z Z Z Z => rfl) rfl (SigOk.of (gn:=["wrapped"]) (by decide +kernel)) (gcons (gF H.wrapped.1) gnil) ?_
  intro c' hl hn' hcomp hsc Q q
  have H':=H.like hl
  have g1:=gAt (σ:=σ) (k:=k) H'
  have s1:=fun {d} (e : optV (atO kn a) = d) => s_at_operand (hk.part ha) hσ H' (nle hn' hn) e
  have g2:=gTy (σ:=σ) (nm:=nm) (na:=na) (tys:=tys) (bl:=bl) (fol:=fol) (bg:=bg) H'
  have s2:=s_type_of (σ:=σ) (nm:=nm) (na:=na) (bl:=bl) (fol:=fol) (bg:=bg) hsz ha.1 H' (nle hn' hn)
  have k1 : Callable c' (.ref t.wrapped):=callable_K H'.wrapped.2.keep
  cases hva : atO kn a with
  | none =>
    rw [hN hva] at q
    rw [hv]
    exact ⟨o1 t .none ty.v .none,kc5 g1 (s1 (d:=.none) (by rw [hva]; rfl)) g2 s2 q⟩
  | some va =>
    have hw:=hk.at ha hva
    rcases hr with ⟨rfl,h⟩ | ⟨rfl,rfl⟩
    · cases ty with
      | pair => exact (h rfl).elim
      | byte =>
        obtain ⟨i,rfl,hi⟩:=hw.num
        rw [show valO kn (.inv a) = some (.n ((-1 - i).fmod 256)) from by simp [valO,hva]] at q
        exact ⟨o1 t (.int i) byteV (.int ((-1 - i).fmod 256)),kc7 g1 (s1 (d:=.int i) (by rw [hva]; rfl)) g2 s2 k1 (s_wrapped (σ:=σ) (n:=-1 - i) H' (nle hn' hn)) q⟩
      | bit =>
        obtain ⟨x,rfl⟩:=hw.bit
        rw [show valO kn (.inv a) = some (.b !x) from by simp [valO,hva]] at q
        exact ⟨o1 t (.bool x) bitV .none,kc5 g1 (s1 (d:=.bool x) (by rw [hva]; rfl)) g2 s2 q⟩
    · obtain ⟨i,rfl,hi⟩:=hw.num
      rw [show valO kn (.neg a) = some (.n ((0 - i).fmod 256)) from by simp [valO,hva]] at q
      exact ⟨o1 t (.int i) byteV (.int ((0 - i).fmod 256)),kc7 g1 (s1 (d:=.int i) (by rw [hva]; rfl)) g2 s2 k1 (s_wrapped (σ:=σ) (n:=0 - i) H' (nle hn' hn)) q⟩
theorem s_of_cast {a : Opd} (ha : Typed tys a .bit) (hn : 5 ≤ c.n) : FnTo c σ (.ref t.c_of_cast) [conV t (bodV t nm na tys bl) fol bg,(Rv.cast a).v,factsV t k] (optV (valO kn (.cast a))) σ:=by
  refine fnTo (ps:=["self", "rvalue", "facts"]) (ls:=["a"]) (gl:=[("cast_int",.raw (.ref t.cast_int)),("int",.raw (.type "int"))]) H.c_of_cast.me (ule hn) (Binds.of3 fun Z Z Z Z Z Z Z Z Z Z Z => rfl) rfl (SigOk.of (gn:=["cast_int", "int"]) (by decide +kernel)) (gcons (gF H.cast_int.1) (gcons (gF H.b_int) gnil)) ?_
  intro c' hl hn' hcomp hsc Q q
  have H':=H.like hl
  have g1:=gAt (σ:=σ) (k:=k) H'
  have s1:=fun {d} (e : optV (atO kn a) = d) => s_at_operand (hk.part ha) hσ H' (nle hn' hn) e
  cases hva : atO kn a with
  | none =>
    rw [show valO kn (.cast a) = Option.none from by simp [valO,hva]] at q
    exact ⟨{ meths:=[(247012039,.ref t.f_at_operand,.none,none)] },kc3 g1 (s1 (d:=.none) (by rw [hva]; rfl)) q⟩
  | some va =>
    obtain ⟨x,rfl⟩:=(hk.at ha hva).bit
    rw [show valO kn (.cast a) = some (.n ((bI x).fmod 256)) from by simp [valO,hva]] at q
    exact ⟨{ meths:=[(247012039,.ref t.f_at_operand,.bool x,none)],calls:=[(250038044,.int (bI x),none),(250015045,.int ((bI x).fmod 256),none)] },kc7 g1 (s1 (d:=.bool x) (by rw [hva]; rfl)) (callable_K (c:=c') H'.cast_int.2.keep) (callable_T (c:=c') (T := "int")) (⟨fun c' hs ρ Q q => bIntB q⟩ : FnTo c' σ (.type "int") [.bool x] (.int (bI x)) σ) (s_cast_int (σ:=σ) (n:=bI x) H' (nle hn' hn)) q⟩
end
end
end
end Mine
end
section
set_option tactic.hygienic false
namespace Mine
noncomputable section
section
variable {t : Tab} {c : Cx} {σ : Sto}
noncomputable abbrev compRest (fv gl : List (Str × V)) : Vars:=fv.map (fun p => (p.1,Slot.ro p.2)) ++ gl.map (fun p => (p.1,Slot.ro p.2))
theorem comp1 {α : Type} (f g : α → V) {v : Str} {p : Pos} {elt : Expr} {fv gl : List (Str × V)} {K : Addr → List V → Sto → Prop} {xs : List α} (hl : xs.length ≤ 1000)
    (turn : ∀ x ∈ xs,∀ c2 : Cx,c.Like c2 → c2.n = c.n → ∀ (D : Addr) (acc : List V),∃ O,ev c2 O ((v,.own (some (f x))) :: compRest fv gl) 40 false elt ((D,.list acc) :: σ) (AtV (g x) ((D,.list acc) :: σ)))
    (k : ∀ D,K D (xs.map g) σ) : CompOf c [v] fv gl (.Name v p) [] elt (xs.map f) σ K:=fun c2 hl2 hn2 D => by
  refine CGo.run f g (fun xs' ρ σ' => (∀ x ∈ xs',x ∈ xs) ∧ σ' = σ ∧ ∃ o,ρ = (v,.own o) :: compRest fv gl) ?_ xs [] _ σ (by rw [List.length_nil,Nat.zero_add]; exact Nat.lt_of_le_of_lt hl (by decide)) ⟨fun Z h => h,rfl,_,rfl⟩ fun ρ σ' h => by rw [h.2.1]; exact k D
  rintro x xs' ρ σ' acc ⟨hx,rfl,o,rfl⟩ ps noc
  obtain ⟨O,h⟩:=turn x (hx x (.head _)) (c2.pins ps) ⟨hl2.prog,hl2.w,hl2.K,hl2.base⟩ hn2 D acc
  exact uName .hd (wtAt h ⟨σ',rfl,rfl,fun y hy => hx y (.tail _ hy),rfl,_,rfl⟩)
structure RetAt (d : V) (σ' : Sto) (f : Fl) (σ : Sto) : Prop where
  h : f = .ret d ∧ σ = σ'
theorem RetAt.rf {d : V} {σ : Sto} : RetAt d σ (.ret d) σ:=⟨rfl,rfl⟩
theorem wxR {c : Cx} {sc : Scope} {O : Orc} {d : V} {ρ : Vars} {σ σ' : Sto} {ss : List Stmt} {K : Fl → Vars → Sto → Prop} (hsc : c.env.scope = sc) (h : xv c sc O 60 ρ σ ss (fun f Z σ => RetAt d σ' f σ)) (k : ∀ ρ',K (.ret d) ρ' σ') : WX c (execs ss c.env) ρ σ K:=
  (xv_sound hsc 60 h Cx.Same.refl).mono fun f ρ₁ σ₁ q => by obtain ⟨rfl,rfl⟩:=q.h; exact k _
noncomputable abbrev voV (t : Tab) (self r fs : V) (kd : Str) : Vars:=[("self",.own (some self)),("rvalue",.own (some r)),("facts",.own (some fs)),("kind",.own (some (.str kd))),("told",.own .none),("tuple",.ro (.raw (.type "tuple")))]
theorem CmTo.inList {d : V} {ds : List V} {x : PyData} {xs : List PyData} {b : Bool} (hx : d.py = some x) (hy : V.pys ds = some xs) (h1 : SeqAt.shaped x = true) (h2 : PyData.canLayAll0 xs = true) (h : (xs.any fun y => PyData.eqv y x) = b) : CmTo c σ .In d (.list ds) (.bool b):=
  ⟨fun c' hs ρ Q q => oIn (Rd.data hx) (Rd.data (x:=.list xs) (by show (V.pys ds).map PyData.list = _; rw [hy]; rfl)) (Or.inl rfl) h1 h2 (by rw [h]; exact q)⟩
theorem py_any {va vb : V} {b : Bool} {xs : List PyData} {σ : Sto} (h1 : V.pys [va,vb] = some xs) (h2 : PyData.canLayAll0 xs = true) (h3 : (xs.any fun y => PyData.eqv y .none) = b) : CmTo c σ .In .none (.list [va,vb]) (.bool b):=CmTo.inList rfl h1 rfl h2 h3
section
variable {t : Tab} {nm : Str} {na : Nat} {tys : List Ty} {bl : List Blk} {fol : List (Int × V)} {bg k : Addr} {kn : Kn} {a b : Opd} {Q : V → Sto → Prop} {σ : Sto}
noncomputable abbrev voT (self r fs ds : V) : Vars:=[("self",.own (some self)),("rvalue",.own (some r)),("facts",.own (some fs)),("kind",.own (some (.str "tuple"))),("told",.own (some ds)),("tuple",.ro (.raw (.type "tuple")))]
theorem vo_fin {self r fs va vb d : V} {y : Bool} (hsc : c.env.scope = scopeOf (partOf 30 2)) (hc : CmTo c σ .In .none (.list [va,vb]) (.bool y)) (e : d = (if y then .none else .tup [va,vb])) (q : Q d σ) : WX c (execs (ifB ((bodyOf (partOf 30 2))[2]?.getD (.Pass ⟨0,0,0,0⟩)) |>.drop 1) c.env) (voT self r fs (.list [va,vb])) σ (Then c ((bodyOf (partOf 30 2)).drop 3) (Ends Q)):=by
  subst e
  cases y with
  | true => exact wxR hsc (O:={ ops:=[(219027039,.bool true)] }) (d:=.none) (σ':=σ) (kc2 hc (RetAt.rf (d:=.none) (σ:=σ))) fun ρ' => q
  | false => exact wxR hsc (O:={ ops:=[(219027039,.bool false)],calls:=[(219045056,.tup [va,vb],none)] }) (d:=.tup [va,vb]) (σ':=σ) (kc4 hc (callable_T (c:=c) (T := "tuple")) (e_tupL (c:=c) (σ:=σ) (ds:=[va,vb]) (show (2 : Nat) ≤ sizeLine by decide)) (RetAt.rf (d:=.tup [va,vb]) (σ:=σ))) fun ρ' => q
theorem vo_none {va vb : Option Vl} (h : va = Option.none ∨ vb = Option.none) (h1 : atO kn a = va) (h2 : atO kn b = vb) : valO kn (.tuple a b) = Option.none:=by
  subst h1 h2
  rcases h with h | h
  · simp [valO,h]
  · simp [valO,h]
theorem vo_two {self r fs : V} (hk : KnOk tys kn) (ha : Typed tys a .byte) (hb : Typed tys b .bit) (hsc : c.env.scope = scopeOf (partOf 30 2)) (q : Q (optV (valO kn (.tuple a b))) σ) : WX c (execs (ifB ((bodyOf (partOf 30 2))[2]?.getD (.Pass ⟨0,0,0,0⟩)) |>.drop 1) c.env) (voT self r fs (.list [optV (atO kn a),optV (atO kn b)])) σ (Then c ((bodyOf (partOf 30 2)).drop 3) (Ends Q)):=by
  cases hva : atO kn a with
  | none =>
    rw [vo_none (.inl rfl) hva rfl] at q
    cases hvb : atO kn b with
    | none => exact vo_fin (va:=.none) (vb:=.none) (y:=true) hsc (py_any (xs:=[.none,.none]) rfl rfl rfl) rfl q
    | some vb =>
      obtain ⟨x,rfl⟩:=(hk.at hb hvb).bit
      exact vo_fin (va:=.none) (vb:=.bool x) (y:=true) hsc (py_any (xs:=[.none,.bool x]) rfl rfl rfl) rfl q
  | some va =>
    obtain ⟨i,rfl,hi⟩:=(hk.at ha hva).num
    cases hvb : atO kn b with
    | none =>
      rw [vo_none (.inr rfl) hva hvb] at q
      exact vo_fin (va:=.int i) (vb:=.none) (y:=true) hsc (py_any (xs:=[.int i,.none]) rfl rfl rfl) rfl q
    | some vb =>
      obtain ⟨x,rfl⟩:=(hk.at hb hvb).bit
      rw [show valO kn (.tuple a b) = some (.p i x) from by simp [valO,hva,hvb]] at q
      exact vo_fin (va:=.int i) (vb:=.bool x) (y:=false) hsc (py_any (xs:=[.int i,.bool x]) rfl rfl rfl) rfl q
theorem vo_tuple (hk : KnOk tys kn) (hσ : (k,MO.dict (enc kn)) ∈ σ) (ha : Typed tys a .byte) (hb : Typed tys b .bit) (H : Has t c) (hn : 6 ≤ c.n) (hcomp : c.comp = Option.none) (hsc : c.env.scope = scopeOf (partOf 30 2)) (q : Q (optV (valO kn (.tuple a b))) σ) :
    WX c (execs ((bodyOf (partOf 30 2)).drop 2) c.env) (voV t (conV t (bodV t nm na tys bl) fol bg) (Rv.tuple a b).v (factsV t k) "tuple") σ (Ends Q):=by
  refine xCons (xIf (wbAt (b:=true) (σ':=σ) (O:={}) (kc1 (AtV.rf (d:=.bool true) (σ:=σ))) (ifTr ?_)))
  refine xCons (xSetComp (scopeOf (partOf 30 2)) ["operand"] [("facts",factsV t k)] [] ((swapsWith_env hsc).trans (by rfl)) hcomp hsc (CompOk.of (fv:=["facts"]) (gn:=[]) (by decide +kernel)) (fvCons (.inl (.tail _ (.tail _ (.head _)))) fvNil) gnil (fun Z => rfl) (wtAt (O:={}) (d':=.tup [a.v,b.v]) (σ':=σ) (kc1 (AtV.rf (d:=.tup [a.v,b.v]) (σ:=σ))) (itrAnd rfl (comp1 Opd.v (fun o => optV (atO kn o)) (xs:=[a,b]) (show (2 : Nat) ≤ 1000 by decide) ?_ fun D => ?_))))
  · intro x hx c3 hl3 hn3 D acc
    have hp : ∀ x ∈ [a,b],PartOk kn x:=List.forall_mem_cons.mpr ⟨hk.part ha,List.forall_mem_cons.mpr ⟨hk.part hb,fun x h => nomatch h⟩⟩
    have hp:=hp x hx
    exact ⟨{ meths:=[(218020045,.ref t.f_at_operand,optV (atO kn x),none)] },kc3 (gAt (σ:=(D,.list acc) :: σ) (k:=k) (H.like hl3)) (s_at_operand (σ:=(D,.list acc) :: σ) hp (.tail _ hσ) (H.like hl3) (hn3 ▸ ule hn) rfl) (AtV.rf (d:=optV (atO kn x)) (σ:=(D,.list acc) :: σ))⟩
  · exact ⟨_,.tl (.tl (.tl (.tl .hd))),thenNext (xFreezeL (σ₁:=[]) (.tl (.tl (.tl (.tl .hd)))) (vo_two hk ha hb hsc q))⟩
end
section
variable {nm : Str} {na : Nat} {tys : List Ty} {bl : List Blk} {fol : List (Int × V)} {bg k : Addr} {kn : Kn} (hk : KnOk tys kn) (hσ : (k,MO.dict (enc kn)) ∈ σ) (hsz : tys.length ≤ 100) (H : Has t c)
include hk hσ hsz H
theorem s_value_of {r : Rv} {ty : Ty} (hr : RvTy tys r ty) (hn : 7 ≤ c.n) : FnTo c σ (.ref t.c_value_of) [conV t (bodV t nm na tys bl) fol bg,r.v,factsV t k] (optV (valO kn r)) σ:=by
  refine fnTo (ps:=["self", "rvalue", "facts"]) (ls:=["kind", "told"]) (gl:=[("tuple",.raw (.type "tuple"))]) H.c_value_of.me (ule hn) (Binds.of3 fun Z Z Z Z Z Z Z Z Z Z Z => rfl) rfl (SigOk.of (gn:=["tuple"]) (by decide +kernel)) (gcons (gF H.b_tuple) gnil) ?_
  intro c' hl hn' hcomp hsc Q q
  have H':=H.like hl
  have gt : GmTo c' σ "of_two" (conV t (bodV t nm na tys bl) fol bg) (.ref t.c_of_two):=GmTo.obj H'.c_of_two rfl
  have go : GmTo c' σ "of_one" (conV t (bodV t nm na tys bl) fol bg) (.ref t.c_of_one):=GmTo.obj H'.c_of_one rfl
  cases hr with
  | @use o ty ho => exact ⟨{ meths:=[(216019046,.ref t.f_at_operand,optV (atO kn o),none)] },kc3 (gAt (σ:=σ) (k:=k) H') (s_at_operand (hk.part ho) hσ H' (nle hn' hn) rfl) q⟩
  | @ar o a b ha hb => exact ⟨{ meths:=[(221019045,.ref t.c_of_two,optV (valO kn (.binary (.ar o) a b)),none)] },kc3 gt (s_of_two (c:=c') (r:=.binary (.ar o) a b) (nm:=nm) (na:=na) (bl:=bl) (fol:=fol) (bg:=bg) hk hσ hsz H' ha hb (.inl ⟨_,rfl⟩) (nle hn' hn)) q⟩
  | @cm o a b ha hb => exact ⟨{ meths:=[(221019045,.ref t.c_of_two,optV (valO kn (.binary (.cm o) a b)),none)] },kc3 gt (s_of_two (c:=c') (r:=.binary (.cm o) a b) (nm:=nm) (na:=na) (bl:=bl) (fol:=fol) (bg:=bg) hk hσ hsz H' ha hb (.inl ⟨_,rfl⟩) (nle hn' hn)) q⟩
  | @checked o a b ha hb => exact ⟨{ meths:=[(221019045,.ref t.c_of_two,optV (valO kn (.checked o a b)),none)] },kc3 gt (s_of_two (c:=c') (r:=.checked o a b) (nm:=nm) (na:=na) (bl:=bl) (fol:=fol) (bg:=bg) hk hσ hsz H' ha hb (.inr ⟨_,rfl⟩) (nle hn' hn)) q⟩
  | @invN a ha => exact ⟨{ meths:=[(223019045,.ref t.c_of_one,optV (valO kn (.inv a)),none)] },kc3 go (s_of_one (c:=c') (r:=.inv a) (nm:=nm) (na:=na) (bl:=bl) (fol:=fol) (bg:=bg) hk hσ hsz H' ha (.inl ⟨rfl,(fun e => nomatch e)⟩) (nle hn' hn)) q⟩
  | @invB a ha => exact ⟨{ meths:=[(223019045,.ref t.c_of_one,optV (valO kn (.inv a)),none)] },kc3 go (s_of_one (c:=c') (r:=.inv a) (nm:=nm) (na:=na) (bl:=bl) (fol:=fol) (bg:=bg) hk hσ hsz H' ha (.inl ⟨rfl,(fun e => nomatch e)⟩) (nle hn' hn)) q⟩
  | @neg a ha => exact ⟨{ meths:=[(223019045,.ref t.c_of_one,optV (valO kn (.neg a)),none)] },kc3 go (s_of_one (c:=c') (r:=.neg a) (nm:=nm) (na:=na) (bl:=bl) (fol:=fol) (bg:=bg) hk hσ hsz H' ha (.inr ⟨rfl,rfl⟩) (nle hn' hn)) q⟩
  | @cast a ha => exact ⟨{ meths:=[(225019046,.ref t.c_of_cast,optV (valO kn (.cast a)),none)] },kc3 (GmTo.obj H'.c_of_cast rfl : GmTo c' σ "of_cast" (conV t (bodV t nm na tys bl) fol bg) (.ref t.c_of_cast)) (s_of_cast (c:=c') (nm:=nm) (na:=na) (bl:=bl) (fol:=fol) (bg:=bg) hk hσ hsz H' ha (nle hn' hn)) q⟩
  | @tuple a b ha hb =>
    have x : XTo c' (voV t (conV t (bodV t nm na tys bl) fol bg) (Rv.tuple a b).v (factsV t k) "tuple") σ ((bodyOf (partOf 30 2)).drop 2) (Ends Q):=⟨fun c2 hs2 => vo_tuple hk hσ ha hb (H'.like hs2.like) (hs2.n ▸ nle hn' hn) (hs2.comp.trans hcomp) (hs2.env ▸ hsc) q⟩
    exact ⟨{ stops:=[stmtKey ((bodyOf (partOf 30 2))[2]?.getD (.Pass ⟨0,0,0,0⟩))] },kc1 x⟩
end
end
end
end Mine
end
section
set_option tactic.hygienic false
namespace Mine
noncomputable section
section
variable {t : Tab} {c : Cx} {σ : Sto}
theorem CmTo.eqD {a b : V} {x y : PyData} {r : Bool} (hx : a.py = some x) (hy : b.py = some y) (h1 : SeqAt.shaped x = true) (h2 : SeqAt.shaped y = true) (h : PyData.eqv x y = r) : CmTo c σ .Eq a b (.bool r):=⟨fun c' hs ρ Q q => oEqR (Rd.data hx) (Rd.data hy) h1 h2 (by rw [h]; exact q)⟩
noncomputable def stpO (t : Tab) (d : V) (σ1 σ2 : Sto) : Orc:={ meths:=[(255020048,.ref t.c_value_of,d,none),(256012031,.ref t.f_forget,.none,some σ1)],ops:=[(257015032,.bool true),(257037051,.bool true),(257057082,.bool true)],sets:=[(258016045,σ2)] }
theorem s_step {nm : Str} {na : Nat} {tys : List Ty} {bl : List Blk} {bg k : Addr} {kn : Kn} {σ₁ σ₂ : Sto} {s : Stm} (hs : StmTy tys s) (hk : KnWf tys kn) (hsz : tys.length ≤ 100) (H : Has t c) (hn : 8 ≤ c.n) : FnTo c (σ₁ ++ (k,.dict (enc kn)) :: σ₂) (.ref t.c_step) [conV t (bodV t nm na tys bl) (folV tys.length) bg,s.v,factsV t k] .none (σ₁ ++ (k,.dict (enc (kstep kn s))) :: σ₂):=by
  refine fnTo (ps:=["self", "statement", "facts"]) (ls:=["place", "rvalue", "value"]) (gl:=[]) H.c_step.me (Nat.le_trans (by decide) hn) (Binds.of3 fun Z Z Z Z Z Z Z Z Z Z Z => rfl) rfl (SigOk.of (gn:=[]) (by decide +kernel)) gnil ?_
  intro c' hl hn' hcomp hsc Q q
  have H':=H.like hl
  cases s with
  | asg l r =>
    obtain ⟨ty,ht,hr⟩:=hs
    have g1 : GmTo c' (σ₁ ++ (k,.dict (enc kn)) :: σ₂) "value_of" (conV t (bodV t nm na tys bl) (folV tys.length) bg) (.ref t.c_value_of):=GmTo.obj H'.c_value_of rfl
    have g2 : GmTo c' (σ₁ ++ (k,.dict (enc kn)) :: σ₂) "forget" (factsV t k) (.ref t.f_forget):=GmTo.obj H'.f_forget rfl
    have sv:=s_value_of (c:=c') (nm:=nm) (na:=na) (bl:=bl) (fol:=folV tys.length) (bg:=bg) hk.ok (σ:=σ₁ ++ (k,.dict (enc kn)) :: σ₂) mem_mid hsz H' hr (nle hn' hn)
    have sf:=s_forget (c:=c') (σ₁:=σ₁) (σ₂:=σ₂) (k:=k) (l:=l) (Nat.le_trans hk.len (Nat.le_trans hsz (by decide))) H' (nle hn' hn)
    have q : Q .none (σ₁ ++ (k,.dict (enc (kset kn l (valO kn r)))) :: σ₂):=q
    cases hv : valO kn r with
    | none =>
      rw [hv] at q sv
      exact ⟨{ meths:=[(255020048,.ref t.c_value_of,.none,none),(256012031,.ref t.f_forget,.none,some (σ₁ ++ (k,.dict (enc (kdel kn l))) :: σ₂))] },kc5 g1 sv g2 sf q⟩
    | some v =>
      rw [hv] at q sv
      have hlt:=(List.getElem?_eq_some_iff.mp ht).1
      have ci : CmTo c' (σ₁ ++ (k,.dict (enc (kdel kn l))) :: σ₂) .In (.int l) (.dict (folV tys.length)) (.bool true):=⟨fun c'' hs ρ Q q => oInD DRd.data (by rw [dget_fol hlt]; exact q)⟩
      have se : SeTo c' (σ₁ ++ (k,.dict (enc (kdel kn l))) :: σ₂) (.raw (.ref k)) (.int l) v.v (σ₁ ++ (k,.dict (enc (kdel kn l ++ [((l : Int),v)]))) :: σ₂):=⟨fun c'' hs ρ Q q => iDict (by unfold enc; rw [List.length_map]; exact Nat.le_trans (hk.del l).len (Nat.le_trans hsz (by decide))) (by rw [dput_enc kdel_not]; exact q)⟩
      exact ⟨stpO t v.v (σ₁ ++ (k,.dict (enc (kdel kn l))) :: σ₂) (σ₁ ++ (k,.dict (enc (kdel kn l ++ [((l : Int),v)]))) :: σ₂),kc11 g1 sv g2 sf (⟨fun c'' hs ρ Q q => oIsNotY (by cases v <;> rfl) q⟩ : CmTo c' (σ₁ ++ (k,.dict (enc (kdel kn l))) :: σ₂) .IsNot v.v .none (.bool true)) (CmTo.eqD (c:=c') (σ:=σ₁ ++ (k,.dict (enc (kdel kn l))) :: σ₂) (a:=.tup []) (b:=.tup []) (x:=.tuple []) (y:=.tuple []) (r:=true) rfl rfl (by decide +kernel) (by decide +kernel) (by decide +kernel)) H'.g_Constants_followed ci H'.g_Facts_known se q⟩
  | _ => exact ⟨{},kc1 q⟩
section
variable {sv : V} {nm : Str} {na : Nat} {tys : List Ty} {bl : List Blk} {fol : List (Int × V)} {bg k : Addr} {kn : Kn} (hk : KnOk tys kn) (hσ : (k,MO.dict (enc kn)) ∈ σ) (hsz : tys.length ≤ 100) (H : Has t c)
include hk hσ H
theorem s_known_target {m : Trm} (hm : TrmTy tys m) (hn : 3 ≤ c.n) : FnTo c σ (.ref t.c_known_target) [sv,m.v,factsV t k] (optN (ktgt kn m)) σ:=by
  refine fnTo (ps:=["self", "terminator", "facts"]) (ls:=["value", "told", "block"]) (gl:=[]) H.c_known_target.me (Nat.le_trans (by decide) hn) (Binds.of3 fun Z Z Z Z Z Z Z Z Z Z Z => rfl) rfl (SigOk.of (gn:=[]) (by decide +kernel)) gnil ?_
  intro c' hl hn' hcomp hsc Q q
  have H':=H.like hl
  have g1:=gAt (σ:=σ) (k:=k) H'
  have s1:=fun {o : Opd} {d : V} {ty : Ty} (ho : Typed tys o ty) (e : optV (atO kn o) = d) => s_at_operand (hk.part ho) hσ H' (nle hn' hn) e
  have oo:=fun d : V => ({ meths:=[(282020051,.ref t.f_at_operand,d,none),(289041072,.ref t.f_at_operand,d,none)] } : Orc)
  cases m with
  | swB o x d =>
    cases hv : atO kn o with
    | none =>
      rw [show ktgt kn (.swB o x d) = Option.none from by simp [ktgt,hv]] at q
      exact ⟨{ meths:=[(282020051,.ref t.f_at_operand,.none,none)] },kc3 g1 (s1 (d:=.none) hm (by rw [hv]; rfl)) q⟩
    | some v =>
      obtain ⟨b,rfl⟩:=(hk.at hm hv).bit
      rw [show ktgt kn (.swB o x d) = some (if b then d else x) from by simp [ktgt,hv]] at q
      have:=s1 (d:=.bool b) hm (by rw [hv]; rfl)
      cases b with
      | true => exact ⟨{ meths:=[(282020051,.ref t.f_at_operand,.bool true,none)] },kc3 g1 this q⟩
      | false => exact ⟨{ meths:=[(282020051,.ref t.f_at_operand,.bool false,none)] },kc3 g1 this q⟩
  | sw1 o x d =>
    cases hv : atO kn o with
    | none =>
      rw [show ktgt kn (.sw1 o x d) = Option.none from by simp [ktgt,hv]] at q
      exact ⟨{ meths:=[(282020051,.ref t.f_at_operand,.none,none)] },kc3 g1 (s1 (d:=.none) hm (by rw [hv]; rfl)) q⟩
    | some v =>
      obtain ⟨i,rfl,_⟩:=(hk.at hm hv).num
      rw [show ktgt kn (.sw1 o x d) = some (if i = 0 then x else d) from by simp [ktgt,hv]] at q
      have s1:=s1 (d:=.int i) hm (by rw [hv]; rfl)
      by_cases h : i = 0
      · subst h
        exact ⟨{ meths:=[(282020051,.ref t.f_at_operand,.int 0,none)] },kc3 g1 s1 q⟩
      · rw [if_neg h] at q
        exact ⟨{ meths:=[(282020051,.ref t.f_at_operand,.int i,none)],tests:=[(286019032,false)] },kc4 g1 s1 (beq_eq_false_iff_ne.mpr fun e => h e.symm : (0 == i) = false) q⟩
  | swN o x y d =>
    cases hv : atO kn o with
    | none =>
      rw [show ktgt kn (.swN o x y d) = Option.none from by simp [ktgt,hv]] at q
      exact ⟨{ meths:=[(282020051,.ref t.f_at_operand,.none,none)] },kc3 g1 (s1 (d:=.none) hm (by rw [hv]; rfl)) q⟩
    | some v =>
      obtain ⟨i,rfl,_⟩:=(hk.at hm hv).num
      rw [show ktgt kn (.swN o x y d) = some (if i = 0 then x else if i = 255 then y else d) from by simp [ktgt,hv]] at q
      have s1:=s1 (d:=.int i) hm (by rw [hv]; rfl)
      by_cases h : i = 0
      · subst h
        exact ⟨{ meths:=[(282020051,.ref t.f_at_operand,.int 0,none)] },kc3 g1 s1 q⟩
      · by_cases h2 : i = 255
        · subst h2
          exact ⟨{ meths:=[(282020051,.ref t.f_at_operand,.int 255,none)] },kc3 g1 s1 q⟩
        · rw [if_neg h,if_neg h2] at q
          exact ⟨{ meths:=[(282020051,.ref t.f_at_operand,.int i,none)],tests:=[(286019032,false)] },kc5 g1 s1 (beq_eq_false_iff_ne.mpr fun e => h e.symm : (0 == i) = false) (beq_eq_false_iff_ne.mpr fun e => h2 e.symm : (255 == i) = false) q⟩
  | asrt o x =>
    cases hv : atO kn o with
    | none =>
      rw [show ktgt kn (.asrt o x) = Option.none from by simp [ktgt,hv]] at q
      exact ⟨{ meths:=[(289041072,.ref t.f_at_operand,.none,none)],ops:=[(289041089,.bool false)] },kc4 g1 (s1 (d:=.none) hm (by rw [hv]; rfl)) (CmTo.eqD (c:=c') (σ:=σ) (a:=.none) (b:=.bool false) (x:=.none) (y:=.bool false) (r:=false) rfl rfl (by decide +kernel) (by decide +kernel) (by decide +kernel)) q⟩
    | some v =>
      obtain ⟨b,rfl⟩:=(hk.at hm hv).bit
      rw [show ktgt kn (.asrt o x) = if b then Option.none else some x from by simp [ktgt,hv]] at q
      have:=s1 (d:=.bool b) hm (by rw [hv]; rfl)
      cases b with
      | true => exact ⟨{ meths:=[(289041072,.ref t.f_at_operand,.bool true,none)] },kc3 g1 this q⟩
      | false => exact ⟨{ meths:=[(289041072,.ref t.f_at_operand,.bool false,none)] },kc3 g1 this q⟩
  | _ => exact ⟨{},kc1 q⟩
include hsz
noncomputable def puO (t : Tab) (d ty : V) : Orc:={ meths:=[(313020045,.ref t.f_at_operand,d,none),(313047068,.ref t.c_type_of,ty,none)] }
theorem s_put {o : Opd} {ty : Ty} (ho : Typed tys o ty) (hn : 3 ≤ c.n) : FnTo c σ (.ref t.c_put) [conV t (bodV t nm na tys bl) fol bg,o.v,factsV t k] (putO kn o).v σ:=by
  refine fnTo (ps:=["self", "operand", "facts"]) (ls:=["value", "t"]) (gl:=[("PLAIN",plainV)]) H.c_put.me (Nat.le_trans (by decide) hn) (Binds.of3 fun Z Z Z Z Z Z Z Z Z Z Z => rfl) rfl (SigOk.of (gn:=["PLAIN"]) (by decide +kernel)) (gcons ⟨_,H.plain.1,H.plain.2⟩ gnil) ?_
  intro c' hl hn' hcomp hsc Q q
  have H':=H.like hl
  have g1:=gAt (σ:=σ) (k:=k) H'
  have s1:=fun {d : V} (e : optV (atO kn o) = d) => s_at_operand (hk.part ho) hσ H' (nle hn' hn) e
  have g2:=gTy (σ:=σ) (nm:=nm) (na:=na) (tys:=tys) (bl:=bl) (fol:=fol) (bg:=bg) H'
  have s2:=s_type_of (σ:=σ) (nm:=nm) (na:=na) (bl:=bl) (fol:=fol) (bg:=bg) hsz ho.1 H' (nle hn' hn)
  have go : ∀ (p : V),o.v = .tup [.str "copy",p] → (putO kn o = match atO kn o with | some (.n i) => .num i | some (.b x) => .bit x | _ => o) → ∃ O,xv c' (scopeOf (partOf 30 12)) O 60 (startVars ["self", "operand", "facts"] ["value", "t"] [("PLAIN",plainV)] [conV t (bodV t nm na tys bl) fol bg,o.v,factsV t k]) σ (bodyOf (partOf 30 12)) (Ends Q):=by
    intro p hp e
    rw [e] at q
    cases hv : atO kn o with
    | none =>
      rw [hv,hp] at q
      have sa:=s1 (d:=.none) (by rw [hv]; rfl)
      rw [hp] at sa s2 ⊢
      exact ⟨puO t .none ty.v,kc5 g1 sa g2 s2 q⟩
    | some v =>
      have hw:=hk.at ho hv
      rw [hv] at q
      cases ty with
      | byte =>
        obtain ⟨i,rfl,_⟩:=hw.num
        have sa:=s1 (d:=.int i) (by rw [hv]; rfl)
        rw [hp] at sa s2 ⊢
        exact ⟨puO t (.int i) byteV,kc5 g1 sa g2 s2 q⟩
      | bit =>
        obtain ⟨x,rfl⟩:=hw.bit
        have sa:=s1 (d:=.bool x) (by rw [hv]; rfl)
        rw [hp] at sa s2 ⊢
        exact ⟨puO t (.bool x) bitV,kc5 g1 sa g2 s2 q⟩
      | pair =>
        obtain ⟨i,x,rfl,_⟩:=hw.pair
        have sa:=s1 (d:=.tup [.int i,.bool x]) (by rw [hv]; rfl)
        rw [hp] at q sa s2 ⊢
        exact ⟨puO t (.tup [.int i,.bool x]) Ty.pair.v,kc5 g1 sa g2 s2 q⟩
  cases o with
  | loc l => exact go _ rfl rfl
  | part l b => exact go _ rfl rfl
  | _ => exact ⟨{},kc1 q⟩
end
end
end
end Mine
end
section
set_option tactic.hygienic false
namespace Mine
noncomputable section
section
variable {t : Tab} {c : Cx} {σ : Sto}
noncomputable abbrev prV (t : Tab) (self : V) (r : Rv) (l : Nat) (k : Addr) (d₁ d₂ : V) : Vars:=[("self",.own (some self)),("rvalue",.own (some r.v)),("place",.own (some (placeV l))),("facts",.own (some (factsV t k))),("value",.own (some d₁)),("t",.own (some d₂)),("PLAIN",.ro plainV),("with_operands",.ro (.raw (.ref t.with_operands))),("operands_of",.ro (.raw (.ref t.operands_of)))]
noncomputable def putE : Expr:=argOf ((bodyOf (partOf 30 13))[3]?.getD (.Pass ⟨0,0,0,0⟩)) 1
section
variable {nm : Str} {na : Nat} {tys : List Ty} {bl : List Blk} {fol : List (Int × V)} {bg k : Addr} {kn : Kn} (hk : KnOk tys kn) (hσ : (k,MO.dict (enc kn)) ∈ σ) (hsz : tys.length ≤ 100) (H : Has t c)
include hk hσ hsz H
theorem x_puts {l : Nat} {r : Rv} {d₁ d₂ : V} (hr : ∀ o ∈ r.ops,∃ ty,Typed tys o ty) (hcomp : c.comp = Option.none) (hsc : c.env.scope = scopeOf (partOf 30 13)) (hn : 4 ≤ c.n) : ExTo c (prV t (conV t (bodV t nm na tys bl) fol bg) r l k d₁ d₂) σ putE (.list (r.ops.map fun o => (putO kn o).v)) σ:=⟨fun c' hs Q q => by
  have H':=H.like hs.like
  have hsc' : c'.env.scope = scopeOf (partOf 30 13):=by rw [hs.env]; exact hsc
  have hl : r.ops.length ≤ 1000:=Nat.le_trans (Nat.le_of_ble_eq_true (by cases r <;> rfl) : r.ops.length ≤ 2) (by decide)
  show WT c' (eval (.ListComp _ [⟨_,_,[],0⟩] _ _) c'.env) _ σ Q
  refine wFreezeL (wListComp (scopeOf (partOf 30 13)) ["operand"] [("self",conV t (bodV t nm na tys bl) fol bg),("facts",factsV t k)] [] (hs.comp.trans hcomp) hsc' (CompOk.of (fv:=["self", "facts"]) (gn:=[]) (by decide +kernel)) (fvCons (.inl (.head _)) (fvCons (.inl (.tail _ (.tail _ (.tail _ (.head _))))) fvNil)) gnil (fun Z => rfl)
    (wtAt (O:={ calls:=[(321078097,.list (r.ops.map Opd.v),none)] }) (d':=.list (r.ops.map Opd.v)) (σ':=σ) (kc3 (callable_K (c:=c') H'.operands_of.2.keep) (s_operands_of (c:=c') (σ:=σ) (r:=r) H' (by rw [hs.n]; exact Nat.le_trans (by decide) hn)) (AtV.rf (d:=.list (r.ops.map Opd.v)) (σ:=σ))) (itrAnd rfl (comp1 Opd.v (fun o => (putO kn o).v) hl ?_ fun D => ⟨D,[],σ,_,rfl,.inl rfl,q⟩))))
  intro x hx c3 hl3 hn3 D acc
  obtain ⟨tx,htx⟩:=hr x hx
  have H3:=H'.like hl3
  exact ⟨{ meths:=[(321038062,.ref t.c_put,(putO kn x).v,none)] },kc3 (GmTo.obj H3.c_put rfl : GmTo c3 ((D,.list acc) :: σ) "put" (conV t (bodV t nm na tys bl) fol bg) (.ref t.c_put)) (s_put (c:=c3) (σ:=(D,.list acc) :: σ) (nm:=nm) (na:=na) (bl:=bl) (fol:=fol) (bg:=bg) hk (.tail _ hσ) hsz H3 htx (by rw [hn3,hs.n]; exact Nat.le_trans (by decide) hn)) (AtV.rf (d:=(putO kn x).v) (σ:=(D,.list acc) :: σ))⟩⟩
theorem s_put_rvalue {l : Nat} {r : Rv} {ty : Ty} (ht : tys[l]? = some ty) (hr : RvTy tys r ty) (hn : 8 ≤ c.n) : FnTo c σ (.ref t.c_put_rvalue) [conV t (bodV t nm na tys bl) fol bg,r.v,placeV l,factsV t k] (putR kn ty r).v σ:=by
  refine fnTo (ps:=["self", "rvalue", "place", "facts"]) (ls:=["value", "t"]) (gl:=[("PLAIN",plainV),("with_operands",.raw (.ref t.with_operands)),("operands_of",.raw (.ref t.operands_of))]) H.c_put_rvalue.me (Nat.le_trans (by decide) hn) (Binds.of4 fun Z Z Z Z Z Z Z Z Z Z Z Z => rfl) rfl (SigOk.of (gn:=["PLAIN", "with_operands", "operands_of"]) (by decide +kernel)) (gcons ⟨_,H.plain.1,H.plain.2⟩ (gcons (gF H.with_operands.1) (gcons (gF H.operands_of.1) gnil))) ?_
  intro c' hlk hn' hcomp hsc Q q
  have H':=H.like hlk
  have g1 : GmTo c' σ "value_of" (conV t (bodV t nm na tys bl) fol bg) (.ref t.c_value_of):=GmTo.obj H'.c_value_of rfl
  have g2:=gTy (σ:=σ) (nm:=nm) (na:=na) (tys:=tys) (bl:=bl) (fol:=fol) (bg:=bg) H'
  have s1:=s_value_of (c:=c') (nm:=nm) (na:=na) (bl:=bl) (fol:=fol) (bg:=bg) hk hσ hsz H' hr (nle hn' hn)
  have s2:=s_type_of (c:=c') (σ:=σ) (nm:=nm) (na:=na) (bl:=bl) (fol:=fol) (bg:=bg) (o:=.loc l) hsz ht H' (nle hn' hn)
  have all : ∀ {d : V},(d = .none ∨ ∃ i x,d = .tup [.int i,.bool x] ∧ ty = .pair) → FnTo c' σ (.ref t.c_value_of) [conV t (bodV t nm na tys bl) fol bg,r.v,factsV t k] d σ → Q (r.map (putO kn)).v σ → ∃ O,xv c' (scopeOf (partOf 30 13)) O 60 (startVars ["self", "rvalue", "place", "facts"] ["value", "t"] [("PLAIN",plainV),("with_operands",.raw (.ref t.with_operands)),("operands_of",.raw (.ref t.operands_of))] [conV t (bodV t nm na tys bl) fol bg,r.v,placeV l,factsV t k]) σ (bodyOf (partOf 30 13)) (Ends Q):=by
    intro d hd s1 qq
    have xp:=x_puts (c:=c') (nm:=nm) (na:=na) (bl:=bl) (fol:=fol) (bg:=bg) (l:=l) (d₁:=d) (d₂:=ty.v) hk hσ hsz H' hr.ops hcomp hsc (nle hn' hn)
    have sw:=s_with_operands (c:=c') (σ:=σ) (r:=r) (f:=putO kn) H' (nle hn' hn)
    have kw : Callable c' (.ref t.with_operands):=callable_K H'.with_operands.2.keep
    rcases hd with rfl | ⟨i,x,rfl,rfl⟩
    · exact ⟨{ meths:=[(317016044,.ref t.c_value_of,.none,none),(318012041,.ref t.c_type_of,ty.v,none)],exprs:=[(321037098,.list (r.ops.map fun o => (putO kn o).v),none)],calls:=[(321015099,(r.map (putO kn)).v,none)] },kc8 g1 s1 g2 s2 kw xp sw qq⟩
    · exact ⟨{ meths:=[(317016044,.ref t.c_value_of,.tup [.int i,.bool x],none),(318012041,.ref t.c_type_of,Ty.pair.v,none)],exprs:=[(321037098,.list (r.ops.map fun o => (putO kn o).v),none)],calls:=[(321015099,(r.map (putO kn)).v,none)] },kc8 g1 s1 g2 s2 kw xp sw qq⟩
  cases hv : valO kn r with
  | none =>
    rw [show putR kn ty r = r.map (putO kn) from by simp [putR,hv]] at q
    rw [hv] at s1
    exact all (.inl rfl) s1 q
  | some v =>
    have hty:=valO_ty hk hr hv
    rw [hv] at s1
    cases ty with
    | byte =>
      obtain ⟨i,rfl,hi⟩:=hty.num
      rw [show putR kn .byte r = .use (.num i) from by simp [putR,hv]] at q
      exact ⟨{ meths:=[(317016044,.ref t.c_value_of,.int i,none),(318012041,.ref t.c_type_of,byteV,none)] },kc5 g1 s1 g2 s2 q⟩
    | bit =>
      obtain ⟨x,rfl⟩:=hty.bit
      rw [show putR kn .bit r = .use (.bit x) from by simp [putR,hv]] at q
      exact ⟨{ meths:=[(317016044,.ref t.c_value_of,.bool x,none),(318012041,.ref t.c_type_of,bitV,none)] },kc5 g1 s1 g2 s2 q⟩
    | pair =>
      obtain ⟨i,x,rfl,hi⟩:=hty.pair
      rw [show putR kn .pair r = r.map (putO kn) from by simp [putR,hv]] at q
      exact all (.inr ⟨i,x,rfl,rfl⟩) s1 q
theorem s_put_statement {s : Stm} (hs : StmTy tys s) (hn : 9 ≤ c.n) : FnTo c σ (.ref t.c_put_statement) [conV t (bodV t nm na tys bl) fol bg,s.v,factsV t k] (putS tys kn s).v σ:=by
  refine fnTo (ps:=["self", "statement", "facts"]) (ls:=[]) (gl:=[]) H.c_put_statement.me (Nat.le_trans (by decide) hn) (Binds.of3 fun Z Z Z Z Z Z Z Z Z Z Z => rfl) rfl (SigOk.of (gn:=[]) (by decide +kernel)) gnil ?_
  intro c' hlk hn' hcomp hsc Q q
  have H':=H.like hlk
  cases s with
  | asg l r =>
    obtain ⟨ty,h1,h2⟩:=hs
    rw [show putS tys kn (.asg l r) = .asg l (putR kn ty r) from by simp [putS,h1]] at q
    exact ⟨{ meths:=[(325044094,.ref t.c_put_rvalue,(putR kn ty r).v,none)] },kc3 (GmTo.obj H'.c_put_rvalue rfl : GmTo c' σ "put_rvalue" (conV t (bodV t nm na tys bl) fol bg) (.ref t.c_put_rvalue)) (s_put_rvalue (c:=c') (nm:=nm) (na:=na) (bl:=bl) (fol:=fol) (bg:=bg) hk hσ hsz H' h1 h2 (nle hn' hn)) q⟩
  | print o =>
    obtain ⟨ty,ho⟩:=hs
    exact ⟨{ meths:=[(327029058,.ref t.c_put,(putO kn o).v,none)] },kc3 (GmTo.obj H'.c_put rfl : GmTo c' σ "put" (conV t (bodV t nm na tys bl) fol bg) (.ref t.c_put)) (s_put (c:=c') (nm:=nm) (na:=na) (bl:=bl) (fol:=fol) (bg:=bg) hk hσ hsz H' ho (nle hn' hn)) q⟩
  | nop => exact ⟨{},kc1 q⟩
noncomputable def ptO (t : Tab) (a : V) (ds : List V) (r : V) : Orc:={ meths:=[(331017053,.ref t.c_known_target,.none,none),(335035065,.ref t.c_put,a,none)],calls:=[(335069090,.tup ds,none)],ops:=[(335019090,r)] }
theorem s_put_terminator {m : Trm} (hm : TrmTy tys m) (hn : 5 ≤ c.n) : FnTo c σ (.ref t.c_put_terminator) [conV t (bodV t nm na tys bl) fol bg,m.v,factsV t k] (putT kn m).v σ:=by
  refine fnTo (ps:=["self", "terminator", "facts"]) (ls:=["target", "told"]) (gl:=[("tuple",.raw (.type "tuple"))]) H.c_put_terminator.me (Nat.le_trans (by decide) hn) (Binds.of3 fun Z Z Z Z Z Z Z Z Z Z Z => rfl) rfl (SigOk.of (gn:=["tuple"]) (by decide +kernel)) (gcons (gF H.b_tuple) gnil) ?_
  intro c' hlk hn' hcomp hsc Q q
  have H':=H.like hlk
  have g1 : GmTo c' σ "known_target" (conV t (bodV t nm na tys bl) fol bg) (.ref t.c_known_target):=GmTo.obj H'.c_known_target rfl
  have s1:=s_known_target (c:=c') (sv:=conV t (bodV t nm na tys bl) fol bg) hk hσ H' hm (nle hn' hn)
  cases ht : ktgt kn m with
  | some b =>
    rw [show putT kn m = .goto b from by simp [putT,ht]] at q
    rw [ht] at s1
    exact ⟨{ meths:=[(331017053,.ref t.c_known_target,.int b,none)] },kc3 g1 s1 q⟩
  | none =>
    rw [ht] at s1
    have g2 : GmTo c' σ "put" (conV t (bodV t nm na tys bl) fol bg) (.ref t.c_put):=GmTo.obj H'.c_put rfl
    have s2:=fun {o : Opd} {ty : Ty} (ho : Typed tys o ty) => s_put (c:=c') (nm:=nm) (na:=na) (bl:=bl) (fol:=fol) (bg:=bg) hk hσ hsz H' ho (nle hn' hn)
    have k1 : Callable c' (.type "tuple"):=callable_T
    have tt:=fun ds : List V => (⟨fun c'' hs ρ Q q => bTupT q⟩ : FnTo c' σ (.type "tuple") [.tup ds] (.tup ds) σ)
    have ad:=fun (d : V) (ds : List V) (e : V) (es : List V) (hl : (d :: ds ++ e :: es).length ≤ 100) => (⟨fun c'' hs ρ Q q => oAddTup (by rw [← List.length_append]; exact Nat.le_trans hl (by decide)) (List.cons_ne_nil _ _) (List.cons_ne_nil _ _) q⟩ : BiTo c' σ .Add (.tup (d :: ds)) (.tup (e :: es)) (.tup (d :: ds ++ e :: es)))
    cases m with
    | swB o x d =>
      rw [show putT kn (.swB o x d) = .swB (putO kn o) x d from by simp [putT,ht]] at q
      exact ⟨ptO t (putO kn o).v [.tup [.tup [.bool false,.int x]],.int d] (Trm.swB (putO kn o) x d).v,kc8 g1 s1 g2 (s2 hm) k1 (tt [.tup [.tup [.bool false,.int x]],.int d]) (ad (.str "switch") [(putO kn o).v] (.tup [.tup [.bool false,.int x]]) [.int d] (by show (4 : Nat) ≤ 100; decide)) q⟩
    | sw1 o x d =>
      rw [show putT kn (.sw1 o x d) = .sw1 (putO kn o) x d from by simp [putT,ht]] at q
      exact ⟨ptO t (putO kn o).v [.tup [.tup [.int 0,.int x]],.int d] (Trm.sw1 (putO kn o) x d).v,kc8 g1 s1 g2 (s2 hm) k1 (tt [.tup [.tup [.int 0,.int x]],.int d]) (ad (.str "switch") [(putO kn o).v] (.tup [.tup [.int 0,.int x]]) [.int d] (by show (4 : Nat) ≤ 100; decide)) q⟩
    | swN o x y d =>
      rw [show putT kn (.swN o x y d) = .swN (putO kn o) x y d from by simp [putT,ht]] at q
      exact ⟨ptO t (putO kn o).v [.tup [.tup [.int 0,.int x],.tup [.int 255,.int y]],.int d] (Trm.swN (putO kn o) x y d).v,kc8 g1 s1 g2 (s2 hm) k1 (tt [.tup [.tup [.int 0,.int x],.tup [.int 255,.int y]],.int d]) (ad (.str "switch") [(putO kn o).v] (.tup [.tup [.int 0,.int x],.tup [.int 255,.int y]]) [.int d] (by show (4 : Nat) ≤ 100; decide)) q⟩
    | asrt o x =>
      rw [show putT kn (.asrt o x) = .asrt (putO kn o) x from by simp [putT,ht]] at q
      exact ⟨ptO t (putO kn o).v [.bool false,.str "goes over",.int x] (Trm.asrt (putO kn o) x).v,kc8 g1 s1 g2 (s2 hm) k1 (tt [.bool false,.str "goes over",.int x]) (ad (.str "assert") [(putO kn o).v] (.bool false) [.str "goes over",.int x] (by show (5 : Nat) ≤ 100; decide)) q⟩
    | _ =>
      simp only [putT,ht] at q
      exact ⟨ptO t .none [] .none,kc3 g1 s1 q⟩
end
end
end
end Mine
end
section
set_option tactic.hygienic false
set_option backward.match.sparseCases false
namespace Mine
noncomputable section
section
variable {t : Tab} {c : Cx} {σ : Sto}
noncomputable abbrev suV (m w td : V) (fa : Addr) (ob : Option V) : Vars:=[("terminator",.own (some m)),("word",.own (some w)),("told",.own (some td)),("found",.own (some (.raw (.ref fa)))),("block",.own ob)]
structure SuI (told : List Nat) (m w : V) (fa : Addr) (σ : Sto) (xs : List Nat) (ρ : Vars) (σ' : Sto) (acc : List Nat) (ob : Option V) : Prop where
  l : acc.length + xs.length ≤ 10
  d : dedup acc xs = dedup [] told
  s : σ' = (fa,.list (acc.map natV)) :: σ
  r : ρ = suV m w (.list (told.map natV)) fa ob
theorem CmTo.notInNat {acc : List Nat} {x : Nat} {b : Bool} {fa : Addr} (h : acc.contains x = !b) : CmTo c ((fa,.list (acc.map natV)) :: σ) .NotIn (.int x) (.raw (.ref fa)) (.bool b):=
  ⟨fun c' hs ρ Q q => oNotIn (x:=.int x) (xs:=acc.map fun n : Nat => PyData.int n) (Rd.data rfl) (Rd.list (.head _) (pys_nat acc)) (Or.inl rfl) rfl (lay_nat acc) (by rw [any_nat,h,Bool.not_not]; exact q)⟩
theorem x_found {m w : V} {told : List Nat} {Q : V → Sto → Prop} (hl : told.length ≤ 10) (hsc : c.env.scope = scopeOf (stmtAt 19)) (q : Q (.list ((dedup [] told).map natV)) σ) (fa : Addr) : XTo c (suV m w (.list (told.map natV)) fa .none) ((fa,.list []) :: σ) ((bodyOf (stmtAt 19)).drop 3) (Ends Q):=⟨fun c2 hs => by
  have hsc2 : c2.env.scope = scopeOf (stmtAt 19):=by rw [hs.env]; exact hsc
  refine xCons (xFor (fun Z => rfl) (wName (.tl (.tl .own)) (elemsAnd rfl (WFor.run natV (fun xs ρ σ' => ∃ acc ob,SuI told m w fa σ xs ρ σ' acc ob) ?_ ?_ told _ _ ⟨[],.none,⟨by rw [List.length_nil,Nat.zero_add]; exact hl,rfl,rfl,rfl⟩⟩))))
  · rintro x xs ρ σ' ⟨acc,ob,h1,h2,rfl,rfl⟩ ps noc
    have h1' : acc.length + xs.length ≤ 10:=Nat.le_of_succ_le h1
    refine uName (.tl (.tl (.tl (.tl .hd)))) ?_
    rw [dedup] at h2
    cases hc : acc.contains x with
    | true =>
      rw [if_pos hc] at h2
      exact wxAt (c:=c2.pins ps) hsc2 (O:={ ops:=[(119033051,.bool false)] }) (ρ':=suV m w (.list (told.map natV)) fa (some (natV x))) (σ':=(fa,.list (acc.map natV)) :: σ) (kc2 (CmTo.notInNat (c:=c2.pins ps) (σ:=σ) (fa:=fa) (b:=false) hc) (At.rf (ρ:=suV m w (.list (told.map natV)) fa (some (natV x))) (σ:=(fa,.list (acc.map natV)) :: σ))) ⟨acc,_,h1',h2,rfl,rfl⟩
    | false =>
      rw [if_neg (by rw [hc]; exact Bool.false_ne_true)] at h2
      exact wxAt (c:=c2.pins ps) hsc2 (O:={ pos:=[(120012031,0)],ops:=[(119033051,.bool true)] }) (ρ':=suV m w (.list (told.map natV)) fa (some (natV x))) (σ':=(fa,.list (acc.map natV ++ [natV x])) :: σ)
        (kc5 (CmTo.notInNat (c:=c2.pins ps) (σ:=σ) (fa:=fa) (b:=true) hc) (ze (.ref fa)) (ze (.ref fa)) (Nat.le_trans (by rw [List.length_map]; exact Nat.le_trans (Nat.le_add_right _ _) h1' : (acc.map natV).length ≤ 10) (by decide : 10 ≤ sizeLine)) (At.rf (ρ:=suV m w (.list (told.map natV)) fa (some (natV x))) (σ:=(fa,.list (acc.map natV ++ [natV x])) :: σ)))
        ⟨acc ++ [x],_,by rw [List.length_append,Nat.add_assoc,List.length_singleton,Nat.add_comm 1]; exact h1,h2,by rw [List.map_append]; rfl,rfl⟩
  · rintro ρ σ' ⟨acc,ob,h1,h2,rfl,rfl⟩
    have h2 : acc = dedup [] told:=h2
    subst h2
    exact thenNext (xCons (xRet (wFreezeL (wName (.tl (.tl (.tl .own))) ⟨fa,[],σ,_,rfl,.inl rfl,q⟩))))⟩
noncomputable def elB : Stmt → List Stmt
  | .If _ _ e _ => e
  | _ => []
noncomputable def binL : Stmt → Expr
  | .Assign _ (.BinOp l _ _ _) _ => l
  | _ => .Constant .none 0 ⟨0,0,0,0⟩
noncomputable def suE : Expr:=binL ((ifB ((elB ((bodyOf (stmtAt 19))[1]?.getD (.Pass ⟨0,0,0,0⟩)))[0]?.getD (.Pass ⟨0,0,0,0⟩)))[0]?.getD (.Pass ⟨0,0,0,0⟩))
noncomputable abbrev suR (m : V) : Vars:=[("terminator",.own (some m)),("word",.own (some (.str "switch"))),("told",.own .none),("found",.own .none),("block",.own .none)]
theorem x_rows2 {o d : V} {rows : List (V × Nat)} (hl : rows.length ≤ 2) (hcomp : c.comp = Option.none) (hsc : c.env.scope = scopeOf (stmtAt 19)) : ExTo c (suR (.tup [.str "switch",o,.tup (rows.map fun p => .tup [p.1,natV p.2]),d])) σ suE (.list (rows.map fun p => natV p.2)) σ:=⟨fun c' hs Q q => by
  have hsc' : c'.env.scope = scopeOf (stmtAt 19):=by rw [hs.env]; exact hsc
  show WT c' (eval (.ListComp _ [⟨_,_,[],0⟩] _ _) c'.env) _ σ Q
  refine wFreezeL (wListComp (scopeOf (stmtAt 19)) ["value", "block"] [] [] (hs.comp.trans hcomp) hsc' (CompOk.of (fv:=[]) (gn:=[]) (by decide +kernel)) fvNil gnil (fun Z => rfl)
    (wtAt (O:={}) (d':=.tup (rows.map fun p => .tup [p.1,natV p.2])) (σ':=σ) (kc1 (AtV.rf (d:=.tup (rows.map fun p => .tup [p.1,natV p.2])) (σ:=σ))) (itrAnd rfl ?_)))
  intro c2 hl2 hn2 D
  refine CGo.run (fun p : V × Nat => .tup [p.1,natV p.2]) (fun p => natV p.2) (fun (xs : List (V × Nat)) (ρ : Vars) (σ' : Sto) => σ' = σ ∧ ∃ o1 o2,ρ = ([("value",.own o1),("block",.own o2)] : Vars)) ?_ rows [] _ σ (by rw [List.length_nil,Nat.zero_add]; exact Nat.lt_of_le_of_lt hl (by decide)) ⟨rfl,_,_,rfl⟩ fun ρ σ' h => by rw [h.1]; exact ⟨D,[],σ,_,rfl,.inl rfl,q⟩
  rintro x xs ρ σ' acc ⟨rfl,o1,o2,rfl⟩ ps noc
  exact uUnpack apart2 (.inl rfl) (.cons .hd (.cons (.tl .hd) .nil)) (wName (.tl .own) ⟨σ',rfl,rfl,rfl,_,_,rfl⟩)⟩
theorem s_successors {m : Trm} (H : Has t c) (hn : 1 ≤ c.n) : FnTo c σ (.ref t.successors) [m.v] (.list (m.succ.map natV)) σ:=by
  refine fnTo (ps:=["terminator"]) (ls:=["word", "told", "found", "block"]) (gl:=[]) H.successors.2 hn (Binds.of1 fun Z Z Z Z Z Z Z Z Z => rfl) rfl (SigOk.of (gn:=[]) (by decide +kernel)) gnil ?_
  intro c' hlk hn' hcomp hsc Q q
  have xf:=fun {w : V} (told : List Nat) (hl : told.length ≤ 10) (h : m.succ = dedup [] told) => x_found (c:=c') (σ:=σ) (m:=m.v) (w:=w) (Q:=Q) hl hsc (h ▸ q)
  have sw:=fun (o : V) (rows : List (V × Nat)) (e : Nat) (hm : m.v = .tup [.str "switch",o,.tup (rows.map fun p => .tup [p.1,natV p.2]),natV e]) (hl : rows.length ≤ 2) (h : m.succ = dedup [] (rows.map (·.2) ++ [e])) => by
    have xr:=x_rows2 (c:=c') (σ:=σ) (o:=o) (d:=natV e) hl hcomp hsc
    have x:=fun fa => xf (w:=.str "switch") (rows.map (·.2) ++ [e]) (by rw [List.length_append,List.length_map]; exact Nat.add_le_add hl (Nat.le_of_ble_eq_true rfl : [e].length ≤ 8)) h fa
    have bc:=BiTo.cat (c:=c') (σ:=σ) (ds:=rows.map fun p => natV p.2) (es:=[natV e]) (fs:=(rows.map (·.2) ++ [e]).map natV) (by rw [List.map_append,List.map_map]; rfl) (by rw [List.length_map,List.length_append,List.length_map]; exact Nat.le_trans (Nat.add_le_add hl (Nat.le_refl 1)) (by decide))
    rw [hm] at x
    exact (⟨{ exprs:=[(108015056,.list (rows.map fun p => natV p.2),none)],ops:=[(108015074,.list ((rows.map (·.2) ++ [e]).map natV))],muts:=[117012014],stops:=[118004031] },kc3 xr bc x⟩ : ∃ O,xv c' (scopeOf (stmtAt 19)) O 60 (startVars ["terminator"] ["word", "told", "found", "block"] [] [.tup [.str "switch",o,.tup (rows.map fun p => .tup [p.1,natV p.2]),natV e]]) σ (bodyOf (stmtAt 19)) (Ends Q))
  cases m with
  | swB o x d => exact sw o.v [(.bool false,x)] d rfl (Nat.le_of_ble_eq_true rfl) rfl
  | sw1 o x d => exact sw o.v [(.int 0,x)] d rfl (Nat.le_of_ble_eq_true rfl) rfl
  | swN o x y d => exact sw o.v [(.int 0,x),(.int 255,y)] d rfl (Nat.le_of_ble_eq_true rfl) rfl
  | goto b => exact ⟨{ muts:=[117012014],stops:=[118004031] },kc1 (xf (w:=.str "goto") [b] (Nat.le_of_ble_eq_true rfl) rfl)⟩
  | asrt o b => exact ⟨{ muts:=[117012014],stops:=[118004031] },kc1 (xf (w:=.str "assert") [b] (Nat.le_of_ble_eq_true rfl) rfl)⟩
  | ret => exact ⟨{ muts:=[117012014],stops:=[118004031] },kc1 (xf (w:=.str "return") [] (Nat.le_of_ble_eq_true rfl) rfl)⟩
  | panic => exact ⟨{ muts:=[117012014],stops:=[118004031] },kc1 (xf (w:=.str "panic") [] (Nat.le_of_ble_eq_true rfl) rfl)⟩
theorem ItTo.listAt {ds : List V} {n : Nat} {d : V} (hl : ds.length ≤ 1000) (h : ds[n]? = some d) : ItTo c σ (.list ds) (.int n) d:=⟨fun v s hs c'' hs' ρ Q q => gListM LRd.data (Int.natCast_nonneg _) (Int.lt_of_le_of_lt (Int.ofNat_le.mpr (Nat.le_trans (Nat.le_of_lt (List.getElem?_eq_some_iff.mp h).1) hl)) (by decide)) (by rw [Int.toNat_natCast]; exact h) hs q⟩
theorem ItTo.blk {bl : List Blk} {n : Nat} {b : Blk} (hl : bl.length ≤ 1000) (h : bl[n]? = some b) : ItTo c σ (.list (bl.map blkV)) (.int n) (blkV b):=ItTo.listAt (by rw [List.length_map]; exact hl) (by rw [List.getElem?_map,h]; rfl)
theorem dedup_len (told : List Nat) : ∀ acc : List Nat,(dedup acc told).length ≤ acc.length + told.length:=by
  induction told with
  | nil => exact fun acc => Nat.le_refl _
  | cons x xs ih =>
    intro acc
    rw [dedup,List.length_cons]
    split
    · exact Nat.le_trans (ih acc) (Nat.add_le_add_left (Nat.le_succ _) _)
    · have:=ih (acc ++ [x])
      rw [List.length_append,List.length_singleton,Nat.add_assoc,Nat.add_comm 1] at this
      exact this
theorem succ_len (m : Trm) : m.succ.length ≤ 3:=Nat.le_trans (dedup_len _ []) (by rw [List.length_nil,Nat.zero_add]; cases m <;> exact Nat.le_of_ble_eq_true rfl)
theorem ItTo.tup0 {d : V} {ds : List V} : ItTo c σ (.tup (d :: ds)) (.int 0) d:=⟨fun v s hs c'' hs' ρ Q q => gTup (j:=0) (by decide) (by decide) (by unfold seqIndex?; rw [List.length_cons]; simp; try omega) rfl hs q⟩
noncomputable abbrev goV (t : Tab) (self : V) (n : Nat) (k : Addr) (m : V) : Vars:=[("self",.own (some self)),("number",.own (some (.int n))),("facts",.own (some (factsV t k))),("terminator",.own (some m)),("target",.own (some .none)),("successors",.ro (.raw (.ref t.successors)))]
noncomputable def retE : Stmt → Expr
  | .Return (some e) _ => e
  | _ => .Constant .none 0 ⟨0,0,0,0⟩
noncomputable def goE : Expr:=retE ((bodyOf (partOf 30 8))[5]?.getD (.Pass ⟨0,0,0,0⟩))
theorem x_gone {self : V} {n : Nat} {k : Addr} {m : Trm} (hcomp : c.comp = Option.none) (hsc : c.env.scope = scopeOf (partOf 30 8)) (H : Has t c) (hn : 1 ≤ c.n) : ExTo c (goV t self n k m.v) σ goE (goneV k m.succ) σ:=⟨fun c' hs Q q => by
  have hsc' : c'.env.scope = scopeOf (partOf 30 8):=by rw [hs.env]; exact hsc
  have H':=H.like hs.like
  show WT c' (eval (.ListComp _ [⟨_,_,[],0⟩] _ _) c'.env) _ σ Q
  refine wFreezeL (wListComp (scopeOf (partOf 30 8)) ["block"] [("facts",factsV t k)] [] (hs.comp.trans hcomp) hsc' (CompOk.of (fv:=["facts"]) (gn:=[]) (by decide +kernel)) (fvCons (.inl (.tail _ (.tail _ (.head _)))) fvNil) gnil (fun Z => rfl)
    (wtAt (O:={ calls:=[(278050072,.list (m.succ.map natV),none)] }) (d':=.list (m.succ.map natV)) (σ':=σ) (kc3 (callable_K (c:=c') H'.successors.2.keep) (s_successors (c:=c') (σ:=σ) (m:=m) H' (by rw [hs.n]; exact hn)) (AtV.rf (d:=.list (m.succ.map natV)) (σ:=σ))) (itrAnd rfl (comp1 natV (fun b => V.tup [natV b,.raw (.ref k)]) (Nat.le_trans (succ_len m) (by decide)) ?_ fun D => ⟨D,[],σ,_,rfl,.inl rfl,q⟩))))
  intro x hx c3 hl3 hn3 D acc
  exact ⟨{},kc2 (H'.like hl3).g_Facts_known (AtV.rf (d:=V.tup [natV x,.raw (.ref k)]) (σ:=(D,.list acc) :: σ))⟩⟩
theorem s_gone_on {nm : Str} {na : Nat} {tys : List Ty} {bl : List Blk} {fol : List (Int × V)} {bg k : Addr} {kn : Kn} {n : Nat} {b : Blk} (hb : bl[n]? = some b) (hbl : bl.length ≤ 1000) (hm : TrmTy tys b.2) (hk : KnOk tys kn) (hσ : (k,MO.dict (enc kn)) ∈ σ) (H : Has t c) (hn : 5 ≤ c.n) : FnTo c σ (.ref t.c_gone_on) [conV t (bodV t nm na tys bl) fol bg,.int n,factsV t k] (goneV k (gone kn b.2)) σ:=by
  refine fnTo (ps:=["self", "number", "facts"]) (ls:=["terminator", "target"]) (gl:=[("successors",.raw (.ref t.successors))]) H.c_gone_on.me (Nat.le_trans (by decide) hn) (Binds.of3 fun Z Z Z Z Z Z Z Z Z Z Z => rfl) rfl (SigOk.of (gn:=["successors"]) (by decide +kernel)) (gcons (gF H.successors.1) gnil) ?_
  intro c' hlk hn' hcomp hsc Q q
  have H':=H.like hlk
  have it:=ItTo.blk (c:=c') (σ:=σ) hbl hb
  have g1 : GmTo c' σ "known_target" (conV t (bodV t nm na tys bl) fol bg) (.ref t.c_known_target):=GmTo.obj H'.c_known_target rfl
  have s1:=s_known_target (c:=c') (sv:=conV t (bodV t nm na tys bl) fol bg) hk hσ H' hm (nle hn' hn)
  have xg:=x_gone (c:=c') (σ:=σ) (self:=conV t (bodV t nm na tys bl) fol bg) (n:=n) (k:=k) (m:=b.2) hcomp hsc H' (nle hn' hn)
  obtain ⟨ss,m⟩:=b
  obtain ⟨w,rest,hv,h1,h2⟩ : ∃ w rest,m.v = .tup (.str w :: rest) ∧ (w == "call") = false ∧ (w == "drop") = false:=by cases m <;> exact ⟨_,_,rfl,by decide +kernel,by decide +kernel⟩
  have xg : ExTo c' (goV t (conV t (bodV t nm na tys bl) fol bg) n k m.v) σ goE (goneV k m.succ) σ:=xg
  have it : ItTo c' σ (.list (bl.map blkV)) (.int n) (.list [.list (ss.map Stm.v),m.v]):=it
  have s1 : FnTo c' σ (.ref t.c_known_target) [conV t (bodV t nm na tys bl) fol bg,m.v,factsV t k] (optN (ktgt kn m)) σ:=s1
  have q : Q (goneV k (gone kn m)) σ:=q
  rw [hv] at xg it s1
  have i0:=ItTo.tup0 (c:=c') (σ:=σ) (d:=.str w) (ds:=rest)
  cases ht : ktgt kn m with
  | some x =>
    rw [show gone kn m = [x] from by simp [gone,ht]] at q
    rw [ht] at s1
    exact ⟨{ ops:=[(270021045,.list [.list (ss.map Stm.v),.tup (.str w :: rest)]),(271011024,.str w),(273011024,.str w)],tests:=[(271011034,false),(273011034,false)],meths:=[(275017053,.ref t.c_known_target,.int x,none)] },kc11 H'.g_Constants_body H'.g_Body_blocks it i0 h1 i0 h2 g1 s1 H'.g_Facts_known q⟩
  | none =>
    rw [show gone kn m = m.succ from by simp [gone,ht]] at q
    rw [ht] at s1
    exact ⟨{ ops:=[(270021045,.list [.list (ss.map Stm.v),.tup (.str w :: rest)]),(271011024,.str w),(273011024,.str w)],tests:=[(271011034,false),(273011034,false)],meths:=[(275017053,.ref t.c_known_target,.none,none)],exprs:=[(278015073,goneV k m.succ,none)] },kc11 H'.g_Constants_body H'.g_Body_blocks it i0 h1 i0 h2 g1 s1 xg q⟩
theorem Binds.toD {K : Frag} {params : Arguments} {body : List Stmt} {scope : Scope} {dV : Value} {ps : List Str} {n : Nat} (h : Binds K params body scope dV ps n) : BindsD K params body scope dV ps n 0:=fun name qual kV doc pm an cdv ct s vs X hl => by
  rw [List.replicate_zero,List.append_nil]; exact h name qual kV doc pm an cdv ct s vs X hl
theorem s_Facts {d : V} {es : List (Int × V)} (hd : ∀ p : Addr × MO,DRd (p :: σ) d es) (hsz : es.length ≤ 1000) (H : Has t c) (hn : 1 ≤ c.n) : FnGe c σ (.ref t.Facts) [d] ⟨Addr,fun Z => True,fun k => (factsV t k,(k,.dict es) :: σ)⟩:=by
  refine geTo (k:=0) (ds:=[d]) (ps:=["self", "known"]) (ls:=[]) (gl:=[("dict",.raw (.type "dict"))]) H.Facts.make H.Facts.find H.Facts.fn H.Facts.me hn (Binds.of2 fun Z Z Z Z Z Z Z Z Z Z => rfl).toD rfl (SigOk.of (gn:=["dict"]) (by decide +kernel)) (gcons (gF H.b_dict) gnil) ?_
  intro x c' hlk hn' hcomp hsc Q q
  have H':=H.like hlk
  have m : ∀ k : Addr,Made Q x t.Facts .none ((k,MO.dict es) :: (x,MO.inst t.Facts ([("known",V.raw (.ref k))] : List (Str × V))) :: σ):=fun k => ⟨rfl,[(k,.dict es)],_,σ,rfl,q k trivial⟩
  exact ⟨{ pos:=[(168008032,1)],news:=[(168021032,⟨Addr,fun Z => True,fun k => (.raw (.ref k),(k,.dict es) :: (x,.inst t.Facts []) :: σ)⟩)] },
    kc3 (callable_T (c:=c') (T := "dict")) (⟨fun c'' hs ρ Q q => bDict (hd _) (Nat.le_trans hsz (by decide)) fun k => q k trivial⟩ : FnGe c' ((x,.inst t.Facts []) :: σ) (.type "dict") [d] ⟨Addr,fun Z => True,fun k => (.raw (.ref k),(k,.dict es) :: (x,.inst t.Facts []) :: σ)⟩) fun (k : Addr) (_ : True) => (⟨zv (.ref x),H'.s_Facts_known,m k⟩ : _ ∧ _ ∧ _)⟩
noncomputable abbrev beV (t : Tab) (self : V) (n : Nat) (k : Addr) (b : Blk) (ob : Option V) : Vars:=[("self",.own (some self)),("number",.own (some (.int n))),("facts",.own (some (factsV t k))),("statements",.own (some (.list (b.1.map Stm.v)))),("terminator",.own (some b.2.v)),("statement",.own ob),("Facts",.ro (.raw (.ref t.Facts)))]
structure BeI (tys : List Ty) (kn' : Kn) (xs : List Stm) (ks : Kn) : Prop where
  s : ∀ s ∈ xs,StmTy tys s
  k : KnWf tys ks
  r : runK ks xs = kn'
theorem s_behind {nm : Str} {na : Nat} {tys : List Ty} {bl : List Blk} {bg : Addr} {beg : Beg} {kn : Kn} {n : Nat} {b : Blk} {σ₁ σ₂ : Sto} (hbg : bget beg n = some kn) (hb : bl[n]? = some b) (hbl : bl.length ≤ 1000) (hs : ∀ s ∈ b.1,StmTy tys s) (hk : KnWf tys kn) (hsz : tys.length ≤ 100) (H : Has t c) (hn : 9 ≤ c.n) :
    FnGe c (σ₁ ++ (bg,.dict (encB beg)) :: σ₂) (.ref t.c_behind) [conV t (bodV t nm na tys bl) (folV tys.length) bg,.int n] ⟨Addr,fun Z => True,fun k => (factsV t k,(k,.dict (enc (runK kn b.1))) :: (σ₁ ++ (bg,.dict (encB beg)) :: σ₂))⟩:=by
  refine fnGe (ps:=["self", "number"]) (ls:=["facts", "statements", "terminator", "statement"]) (gl:=[("Facts",.raw (.ref t.Facts))]) H.c_behind.me (Nat.le_trans (by decide) hn) (Binds.of2 fun Z Z Z Z Z Z Z Z Z Z => rfl) rfl (SigOk.of (gn:=["Facts"]) (by decide +kernel)) (gcons (gF H.Facts.gv) gnil) ?_
  intro c' hlk hn' hcomp hsc Q q
  have H':=H.like hlk
  generalize hσ : σ₁ ++ (bg,MO.dict (encB beg)) :: σ₂ = σ at q ⊢
  have hm : (bg,MO.dict (encB beg)) ∈ σ:=hσ ▸ mem_mid
  have x : ∀ k : Addr,XTo c' (beV t (conV t (bodV t nm na tys bl) (folV tys.length) bg) n k b .none) ((k,.dict (enc kn)) :: σ) ((bodyOf (partOf 30 7)).drop 2) (Ends Q):=fun k => ⟨fun c2 hs2 => by
    have H2:=H'.like hs2.like
    have hsc2 : c2.env.scope = scopeOf (partOf 30 7):=by rw [hs2.env]; exact hsc
    refine xCons (xFor (fun Z => rfl) (wName (.tl (.tl (.tl .own))) (elemsAnd rfl (WFor.run Stm.v (fun xs ρ σ' => ∃ ks ob,BeI tys (runK kn b.1) xs ks ∧ ρ = beV t (conV t (bodV t nm na tys bl) (folV tys.length) bg) n k b ob ∧ σ' = (k,.dict (enc ks)) :: σ) ?_ ?_ b.1 _ _ ⟨kn,.none,⟨hs,hk,rfl⟩,rfl,rfl⟩))))
    · rintro x xs ρ σ' ⟨ks,ob,⟨h1,h2,h3⟩,rfl,rfl⟩ ps noc
      refine uName (.tl (.tl (.tl (.tl (.tl .hd))))) ?_
      exact wxAt (c:=c2.pins ps) hsc2 (O:={ meths:=[(266012039,.ref t.c_step,.none,some ((k,.dict (enc (kstep ks x))) :: σ))] }) (ρ':=beV t (conV t (bodV t nm na tys bl) (folV tys.length) bg) n k b (some x.v)) (σ':=(k,.dict (enc (kstep ks x))) :: σ)
        (kc3 (GmTo.obj H2.c_step rfl : GmTo (c2.pins ps) ((k,.dict (enc ks)) :: σ) "step" (conV t (bodV t nm na tys bl) (folV tys.length) bg) (.ref t.c_step)) (s_step (c:=c2.pins ps) (nm:=nm) (na:=na) (bl:=bl) (bg:=bg) (k:=k) (σ₁:=[]) (σ₂:=σ) (h1 x (.head _)) h2 hsz H2 (by show 8 ≤ c2.n; rw [hs2.n]; exact nle hn' hn)) (At.rf (ρ:=beV t (conV t (bodV t nm na tys bl) (folV tys.length) bg) n k b (some x.v)) (σ:=(k,.dict (enc (kstep ks x))) :: σ)))
        ⟨kstep ks x,_,⟨fun s h => h1 s (.tail _ h),h2.step (h1 x (.head _)),h3⟩,rfl,rfl⟩
    · rintro ρ σ' ⟨ks,ob,⟨_,_,h3⟩,rfl,rfl⟩
      have h3 : ks = runK kn b.1:=h3
      subst h3
      exact thenNext (xv_sound hsc2 60 (O:={}) (kc1 (q k trivial)) Cx.Same.refl)⟩
  have fa:=s_Facts (c:=c') (σ:=σ) (d:=.dict (enc kn)) (es:=enc kn) (fun Z => DRd.data) (by unfold enc; rw [List.length_map]; exact Nat.le_trans hk.len (Nat.le_trans hsz (by decide))) H' (nle hn' hn)
  have it : ItTo c' σ (.raw (.ref bg)) (.int n) (.dict (enc kn)):=⟨fun v s hs c'' hs' ρ Q q => gDict (DRd.chg hm) (by rw [dget_encB,hbg]; rfl) hs q⟩
  exact ⟨{ ops:=[(263022041,.dict (enc kn)),(264033057,blkV b)],news:=[(263016042,⟨Addr,fun Z => True,fun k => (factsV t k,(k,.dict (enc kn)) :: σ)⟩)],stops:=[265008039] },
    kc5 (callable_K (c:=c') H'.Facts.keep) H'.g_Constants_begins it fa fun (k : Addr) (_ : True) => (⟨H'.g_Constants_body,H'.g_Body_blocks,ItTo.blk (c:=c') (σ:=(k,.dict (enc kn)) :: σ) hbl hb,x k⟩ : _ ∧ _ ∧ _ ∧ _)⟩
end
end
end Mine
end
section
set_option tactic.hygienic false
namespace Mine
noncomputable section
section
variable {t : Tab} {c : Cx}
noncomputable abbrev meV (t : Tab) (self d : V) (n : Nat) (h : V) (o : Option V) : Vars:=[("self",.own (some self)),("number",.own (some (.int n))),("known",.own (some d)),("here",.own (some h)),("kept",.own o),("dict",.ro (.raw (.type "dict"))),("len",.ro (.raw (.builtin "len")))]
theorem enc_len (kn : Kn) : (enc kn).length = kn.length:=List.length_map ..
theorem CmTo.eqVl {σ : Sto} (u v : Vl) : CmTo c σ .Eq u.v v.v (.bool (vlEq u v)):=⟨fun c' hs ρ Q q => oEqR (Rd.data u.py_v) (Rd.data v.py_v) u.shaped v.shaped q⟩
theorem ItTo.dkn {σ : Sto} {d : V} {kn : Kn} {x : Int} {v : Vl} (hd : DRd σ d (enc kn)) (h : kget kn x = some v) : ItTo c σ d (.int x) v.v:=⟨fun Z Z hs Z Z Z Z q => gDict hd (by rw [dget_enc',h]; rfl) hs q⟩
theorem s_meet {nm : Str} {na : Nat} {tys : List Ty} {bl : List Blk} {bg : Addr} {beg : Beg} {kn : Kn} {d : V} {n : Nat} {σ₁ σ₂ : Sto} (hd : DRd (σ₁ ++ σ₂) d (enc kn)) (hk : KnWf tys kn) (hbeg : ∀ m k',bget beg m = some k' → KnWf tys k') (hlen : beg.length ≤ 1000) (hsz : tys.length ≤ 100) (H : Has t c) (hn : 2 ≤ c.n) :
    FnTo c (σ₁ ++ (bg,.dict (encB beg)) :: σ₂) (.ref t.c_meet) [conV t (bodV t nm na tys bl) (folV tys.length) bg,.int n,d] (.bool (meetP beg n kn).2) (σ₁ ++ (bg,.dict (encB (meetP beg n kn).1)) :: σ₂):=by
  refine fnTo (ps:=["self", "number", "known"]) (ls:=["here", "kept"]) (gl:=[("dict",.raw (.type "dict")),("len",.raw (.builtin "len"))]) H.c_meet.me (Nat.le_trans (by decide) hn) (Binds.of3 fun Z Z Z Z Z Z Z Z Z Z Z => rfl) rfl (SigOk.of (gn:=["dict", "len"]) (by decide +kernel)) (gcons (gF H.b_dict) (gcons (gF H.b_len) gnil)) ?_
  intro c' hlk hn' hcomp hsc Q q
  have H':=H.like hlk
  have hkl : (enc kn).length ≤ sizeLine:=by rw [enc_len]; exact Nat.le_trans hk.len (Nat.le_trans hsz (by decide))
  have hbl : (encB beg).length ≤ sizeLine:=by unfold encB; rw [List.length_map]; exact Nat.le_trans hlen (by decide)
  have se:=fun (c2 : Cx) (k2 : Kn) => (⟨fun c'' hs ρ Q q => iDict hbl (by rw [dput_encB]; exact q)⟩ : SeTo c2 (σ₁ ++ (bg,.dict (encB beg)) :: σ₂) (.raw (.ref bg)) (.int n) (.dict (enc k2)) (σ₁ ++ (bg,.dict (encB (bput beg n k2))) :: σ₂))
  cases hb : bget beg n with
  | none =>
    rw [show meetP beg n kn = (bput beg n kn,true) from by simp [meetP,hb]] at q
    exact ⟨{ ops:=[(294011036,.bool true)],calls:=[(295034045,.dict (enc kn),none)],sets:=[(295012045,σ₁ ++ (bg,.dict (encB (bput beg n kn))) :: σ₂)] },
      kc7 H'.g_Constants_begins (⟨fun c'' hs ρ Q q => oNotInD (DRd.chg mem_mid) (by rw [dget_encB,hb]; exact q)⟩ : CmTo c' (σ₁ ++ (bg,.dict (encB beg)) :: σ₂) .NotIn (.int n) (.raw (.ref bg)) (.bool true)) (callable_T (c:=c') (T := "dict")) (⟨fun c'' hs ρ Q q => bDictF hd.more hkl q⟩ : FnTo c' (σ₁ ++ (bg,.dict (encB beg)) :: σ₂) (.type "dict") [d] (.dict (enc kn)) (σ₁ ++ (bg,.dict (encB beg)) :: σ₂)) H'.g_Constants_begins (se c' kn) q⟩
  | some here =>
    have hh:=hbeg _ _ hb
    rw [show meetP beg n kn = (bput beg n (here.filter (keepOf kn)),decide ((here.filter (keepOf kn)).length < here.length)) from by simp [meetP,hb]] at q
    generalize hσ : σ₁ ++ (bg,MO.dict (encB beg)) :: σ₂ = σ at se ⊢
    have hd2 : DRd σ d (enc kn):=hσ ▸ hd.more
    have hm : (bg,MO.dict (encB beg)) ∈ σ:=hσ ▸ mem_mid
    have x : XTo c' (meV t (conV t (bodV t nm na tys bl) (folV tys.length) bg) d n (.dict (enc here)) .none) σ ((bodyOf (partOf 30 10)).drop 2) (Ends Q):=⟨fun c2 hs2 => by
      have H2:=H'.like hs2.like
      have hsc2 : c2.env.scope = scopeOf (partOf 30 10):=by rw [hs2.env]; exact hsc
      refine xCons (xSetDComp (scopeOf (partOf 30 10)) ["local"] [("here",.dict (enc here)),("known",d)] [] ((swapsWith_env hsc2).trans (by rfl)) (hs2.comp.trans hcomp) hsc2 (CompOk.of (fv:=["here", "known"]) (gn:=[]) (by decide +kernel)) (fvCons (.inl (.tail _ (.tail _ (.tail _ (.head _))))) (fvCons (.inl (.tail _ (.tail _ (.head _)))) fvNil)) gnil (fun Z => rfl)
        (wName (.tl (.tl (.tl .own))) ⟨_,Itr.keys,Itr.keys_starts,?_⟩))
      intro c3 hl3 hn3 D
      rw [show (enc here).map (fun p => V.int p.1) = here.map fun p => V.int p.1 from by unfold enc; rw [List.map_map]; rfl]
      refine DGo.run (fun p : Int × Vl => V.int p.1) (fun p => p.1) (fun p => p.2.v) (keepOf kn) (fun (xs : Kn) (ρ : Vars) (σ' : Sto) => (∀ p ∈ xs,p ∈ here) ∧ σ' = σ ∧ ∃ ob,ρ = ([("local",Slot.own ob),("here",Slot.ro (.dict (enc here))),("known",Slot.ro d)] : Vars)) ?_ here [] _ _ (by rw [List.length_nil,Nat.zero_add]; exact Nat.lt_of_le_of_lt (Nat.le_trans hh.len hsz) (by decide)) ⟨fun Z h => h,rfl,Option.none,rfl⟩ ?_
      · rintro ⟨x,v⟩ xs ρ σ' acc ⟨h1,rfl,ob,rfl⟩ ps noc
        have hv : kget here x = some v:=kget_of hh.nodup (h1 _ (.head _))
        have hin : ∀ b,(kget kn x).isSome = b → CmTo (c3.pins ps) ((D,.dict acc) :: σ') .In (.int x) d (.bool b):=fun b e => ⟨fun c'' hs ρ Q q => oInD hd2.cons (by rw [dget_enc',Option.isSome_map,e]; exact q)⟩
        refine uName .hd (tOne ?_)
        cases hx : kget kn x with
        | none =>
          exact wbAt (c:=c3.pins ps) (b:=false) (O:={ ops:=[(298056070,.bool false)] }) (σ':=(D,.dict acc) :: σ') (kc2 (hin false (by rw [hx]; rfl)) (AtV.rf (d:=.bool false) (σ:=(D,.dict acc) :: σ'))) ⟨by simp [keepOf,hx],(fun e => nomatch e),fun Z => ⟨_,rfl,fun p hp => h1 p (.tail _ hp),rfl,_,rfl⟩⟩
        | some u =>
          have e : keepOf kn (x,v) = vlEq u v:=by simp [keepOf,hx]
          refine wbAt (c:=c3.pins ps) (b:=vlEq u v) (O:={ ops:=[(298056070,.bool true),(298075087,u.v),(298091102,v.v),(298075102,.bool (vlEq u v))] }) (σ':=(D,.dict acc) :: σ') ?_ ⟨e.symm,fun Z => wName .own (wtAt (c:=c3.pins ps) (O:={ ops:=[(298023034,v.v)] }) (d':=v.v) (σ':=(D,.dict acc) :: σ') (kc2 (ItTo.dkn (c:=c3.pins ps) (σ:=(D,.dict acc) :: σ') DRd.data hv) (AtV.rf (d:=v.v) (σ:=(D,.dict acc) :: σ'))) ⟨_,rfl,rfl,rfl,fun p hp => h1 p (.tail _ hp),rfl,_,rfl⟩),fun Z => ⟨_,rfl,fun p hp => h1 p (.tail _ hp),rfl,_,rfl⟩⟩
          have c1:=hin true (by rw [hx]; rfl)
          have i1:=ItTo.dkn (c:=c3.pins ps) hd2.cons hx (σ:=(D,.dict acc) :: σ')
          have i2:=ItTo.dkn (c:=c3.pins ps) (σ:=(D,.dict acc) :: σ') DRd.data hv
          have c2:=CmTo.eqVl (c:=c3.pins ps) (σ:=(D,.dict acc) :: σ') u v
          cases hw : vlEq u v with
          | true => rw [hw] at c2; exact kc5 c1 i1 i2 c2 (AtV.rf (d:=.bool true) (σ:=(D,.dict acc) :: σ'))
          | false => rw [hw] at c2; exact kc5 c1 i1 i2 c2 (AtV.rf (d:=.bool false) (σ:=(D,.dict acc) :: σ'))
      · rintro ρ σ' ⟨_,e,ob,_⟩
        subst e
        rw [show (here.filter (keepOf kn)).foldl (fun acc x => dput acc x.1 x.2.v) [] = enc (here.filter (keepOf kn)) from fold_put (acc:=[]) (by rw [List.nil_append]; exact ((List.filter_sublist).map _).nodup hh.nodup)]
        refine ⟨_,.tl (.tl (.tl (.tl .hd))),thenNext (xFreezeD (σ₁:=[]) (.tl (.tl (.tl (.tl .hd)))) ?_)⟩
        have ln:=fun (k2 : Kn) (h : k2.length ≤ 100) => (⟨fun c'' hs ρ Q q => bLenD DRd.data (by rw [enc_len]; exact Nat.lt_of_le_of_lt h (by decide)) (by rw [enc_len]; exact q)⟩ : FnTo c2 (σ₁ ++ (bg,.dict (encB (bput beg n (here.filter (keepOf kn))))) :: σ₂) (.builtin "len") [.dict (enc k2)] (.int k2.length) (σ₁ ++ (bg,.dict (encB (bput beg n (here.filter (keepOf kn))))) :: σ₂))
        have hl4:=Nat.le_trans hh.len hsz
        refine xv_sound hsc2 60 (O:={ sets:=[(299008034,σ₁ ++ (bg,.dict (encB (bput beg n (here.filter (keepOf kn))))) :: σ₂)],calls:=[(300015024,.int (here.filter (keepOf kn)).length,none),(300027036,.int here.length,none)] })
          (kc7 H2.g_Constants_begins (se c2 (here.filter (keepOf kn))) (callable_B (c:=c2) (T := "len")) (ln (here.filter (keepOf kn)) (Nat.le_trans (List.length_filter_le _ _) hl4)) (callable_B (c:=c2) (T := "len")) (ln _ hl4) (?_ : Q (.bool (decide (((here.filter (keepOf kn)).length : Int) < (here.length : Int)))) (σ₁ ++ (bg,.dict (encB (bput beg n (here.filter (keepOf kn))))) :: σ₂))) Cx.Same.refl
        rw [show decide (((here.filter (keepOf kn)).length : Int) < (here.length : Int)) = decide ((here.filter (keepOf kn)).length < here.length) from decide_eq_decide.mpr Int.ofNat_lt]
        exact q⟩
    have it : ItTo c' σ (.raw (.ref bg)) (.int n) (.dict (enc here)):=⟨fun Z Z hs Z Z Z Z q => gDict (DRd.chg hm) (by rw [dget_encB,hb]; rfl) hs q⟩
    exact ⟨{ ops:=[(294011036,.bool false),(297015034,.dict (enc here))],stops:=[298008103] },
      kc5 H'.g_Constants_begins (⟨fun c'' hs ρ Q q => oNotInD (DRd.chg hm) (by rw [dget_encB,hb]; exact q)⟩ : CmTo c' σ .NotIn (.int n) (.raw (.ref bg)) (.bool false)) H'.g_Constants_begins it x⟩
end
end
end Mine
end
section
namespace Mine
noncomputable section
section
variable {t : Tab} {c : Cx}
theorem FnTo.gen {σ σ' : Sto} {f : Value} {ds : List V} {d : V} (h : FnTo c σ f ds d σ') {A : Gen} (i : A.ι) (hp : A.P i) (e : A.out i = (d,σ')) : FnGe c σ f ds A:=⟨fun c' hs ρ Q q => h.run c' hs ρ Q (by have:=q i hp; rw [e] at this; exact this)⟩
structure GenAt (A : Gen) (d : V) (σ : Sto) : Prop where
  h : ∃ i,A.P i ∧ A.out i = (d,σ)
theorem wtG {c : Cx} {O : Orc} {A : Gen} {ρ : Vars} {σ : Sto} {e : Expr} {K : V → Sto → Prop} (h : ev c O ρ 40 false e σ (GenAt A)) (k : ∀ i,A.P i → K (A.out i).1 (A.out i).2) : WT c (eval e c.env) ρ σ K:=
  ((ev_sound 40).v h Cx.Same.refl).mono fun d σ q => by obtain ⟨i,hp,e⟩:=q.h; have:=k i hp; rw [e] at this; exact this
theorem GmTo.lpop {σ : Sto} {a : Addr} {ds : List V} (h : (a,MO.list ds) ∈ σ) : GmTo c σ "pop" (.raw (.ref a)) (.builtin "list.pop"):=⟨fun c' hs ρ => GM.mlist h PySem.F.slot_list_pop PySem.F.type_list_pop⟩
noncomputable abbrev foV (self : V) (L : Addr) (on ob ok : Option V) : Vars:=[("self",.own (some self)),("left",.own (some (.raw (.ref L)))),("number",.own on),("block",.own ob),("known",.own ok)]
structure TurnI (I : Int → Kn → Prop) (tys : List Ty) (bl : List Blk) (n : Nat) (kn : Kn) (b : Blk) (top : Nat) (xs left : List Nat) (beg : Beg) : Prop where
  inv : ∀ m k,bget beg m = some k → I m k
  nx : ∀ x ∈ xs,I (x : Int) (runK kn b.1)
  ok : TurnOk tys bl n kn b xs left beg
  le : 2 * sumN (wtB tys beg) bl.length + left.length ≤ top
theorem TurnI.step {I : Int → Kn → Prop} {tys : List Ty} {bl : List Blk} {n : Nat} {kn : Kn} {b : Blk} {top x : Nat} {xs left : List Nat} {beg : Beg} (h : TurnI I tys bl n kn b top (x :: xs) left beg) (hk : KnWf tys (runK kn b.1)) (hIm : ∀ x here kn,KnWf tys here → KnWf tys kn → I x here → I x kn → I x (here.filter (keepOf kn))) :
    TurnI I tys bl n kn b top xs (if (meetP beg x (runK kn b.1)).2 then left ++ [x] else left) (meetP beg x (runK kn b.1)).1 where
  inv:=inv_meet h.ok.ok h.inv hk (h.nx x (.head _)) hIm
  nx:=fun y hy => h.nx y (.tail _ hy)
  ok:=h.ok.meet hk
  le:=by
    have:=h.le
    cases hm : (meetP beg x (runK kn b.1)).2 with
    | true =>
      have:=meetP_yes hk (h.ok.rng x (.head _)) hm
      rw [if_pos rfl,List.length_append,List.length_singleton]; omega
    | false => rw [meetP_no_wt hm,if_neg Bool.false_ne_true]; exact this
section
variable {nm : Str} {na : Nat} {tys : List Ty} {bl : List Blk} {bg : Addr} {σ₁ σ₂ : Sto} {I : Int → Kn → Prop} (hok : BlOk tys bl) (hbl : bl.length ≤ 100) (hsz : tys.length ≤ 100) (H : Has t c) (hIs : ∀ (n : Nat) kn b,KnWf tys kn → I n kn → bl[n]? = some b → ∀ x ∈ gone (runK kn b.1) b.2,I (x : Int) (runK kn b.1)) (hIm : ∀ x here kn,KnWf tys here → KnWf tys kn → I x here → I x kn → I x (here.filter (keepOf kn)))
include hok hbl hsz H hIs hIm
theorem x_turnF {L : Addr} {n top : Nat} {kn : Kn} {b : Blk} {beg : Beg} {l : List Nat} {on ob ok : Option V} {Q : Fl → Vars → Sto → Prop} (hb : bl[n]? = some b) (hkn : bget beg n = some kn) (hT : TurnI I tys bl n kn b top (gone (runK kn b.1) b.2) l beg) (ht : top ≤ 30000) (hsc : c.env.scope = scopeOf (partOf 30 11)) (hn : 11 ≤ c.n)
    (q : ∀ left' beg' ob ok,TurnI I tys bl n kn b top [] left' beg' → Q .next (foV (conV t (bodV t nm na tys bl) (folV tys.length) bg) L (some (natV n)) ob ok) ((L,.list (left'.map natV)) :: (σ₁ ++ (bg,.dict (encB beg')) :: σ₂))) :
    WX c (execs (whB ((bodyOf (partOf 30 11))[1]?.getD (.Pass ⟨0,0,0,0⟩))) c.env) (foV (conV t (bodV t nm na tys bl) (folV tys.length) bg) L on ob ok) ((L,.list ((l ++ [n]).map natV)) :: (σ₁ ++ (bg,.dict (encB beg)) :: σ₂)) Q:=by
  obtain ⟨b1,b2,b3⟩:=hok _ _ hb
  have hkw:=hT.ok.ok.wf _ _ hkn
  have hkr:=hkw.run b1
  have hlen : ∀ {left' : List Nat} {beg' : Beg} {xs : List Nat},TurnI I tys bl n kn b top xs left' beg' → left'.length ≤ 30000:=fun h => Nat.le_trans (Nat.le_trans (Nat.le_add_left _ _) h.le) ht
  refine wxDropPost ?_
  have x : XTo c (foV (conV t (bodV t nm na tys bl) (folV tys.length) bg) L (some (natV n)) ob ok) ((L,.list (l.map natV)) :: (σ₁ ++ (bg,.dict (encB beg)) :: σ₂)) ((whB ((bodyOf (partOf 30 11))[1]?.getD (.Pass ⟨0,0,0,0⟩))).drop 1) (fun f ρ' σ' => ∃ p σ₂,σ' = p :: σ₂ ∧ Q f ρ' σ₂):=⟨fun c2 hs2 => by
    have H2:=H.like hs2.like
    have hn2 : 11 ≤ c2.n:=by rw [hs2.n]; exact hn
    have hsc2 : c2.env.scope = scopeOf (partOf 30 11):=by rw [hs2.env]; exact hsc
    have sb:=s_behind (c:=c2) (nm:=nm) (na:=na) (σ₁:=(L,.list (l.map natV)) :: σ₁) (σ₂:=σ₂) (bg:=bg) hkn hb (Nat.le_trans hbl (by decide)) b1 hkw hsz H2 (Nat.le_trans (by decide) hn2)
    have sg:=fun k : Addr => s_gone_on (c:=c2) (nm:=nm) (na:=na) (tys:=tys) (fol:=folV tys.length) (bg:=bg) (k:=k) (σ:=(k,.dict (enc (runK kn b.1))) :: (L,.list (l.map natV)) :: (σ₁ ++ (bg,.dict (encB beg)) :: σ₂)) hb (Nat.le_trans hbl (by decide)) b2 hkr.ok (.head _) H2 (Nat.le_trans (by decide) hn2)
    let A : Gen:=⟨Addr,fun Z => True,fun k => (goneV k (gone (runK kn b.1) b.2),(k,.dict (enc (runK kn b.1))) :: (L,.list (l.map natV)) :: (σ₁ ++ (bg,.dict (encB beg)) :: σ₂))⟩
    refine xCons (xFor (fun Z => rfl) (wtG (A:=A) (O:={ gmeths:=[(306053072,.ref t.c_behind,⟨Addr,fun Z => True,fun k => (factsV t k,(k,.dict (enc (runK kn b.1))) :: (L,.list (l.map natV)) :: (σ₁ ++ (bg,.dict (encB beg)) :: σ₂))⟩),(306032073,.ref t.c_gone_on,A)] })
      (kc4 (GmTo.obj H2.c_gone_on rfl : GmTo c2 ((L,.list (l.map natV)) :: (σ₁ ++ (bg,.dict (encB beg)) :: σ₂)) "gone_on" (conV t (bodV t nm na tys bl) (folV tys.length) bg) (.ref t.c_gone_on)) (GmTo.obj H2.c_behind rfl : GmTo c2 ((L,.list (l.map natV)) :: (σ₁ ++ (bg,.dict (encB beg)) :: σ₂)) "behind" (conV t (bodV t nm na tys bl) (folV tys.length) bg) (.ref t.c_behind)) sb fun (k : Addr) (_ : True) => And.intro ((sg k).gen (A:=A) k trivial rfl) fun (k : Addr) (_ : True) => (⟨⟨k,trivial,rfl⟩⟩ : GenAt A (goneV k (gone (runK kn b.1) b.2)) ((k,.dict (enc (runK kn b.1))) :: (L,.list (l.map natV)) :: (σ₁ ++ (bg,.dict (encB beg)) :: σ₂)))) fun (k : Addr) _ => elemsAnd rfl ?_))
    refine WFor.run (fun b => V.tup [natV b,.raw (.ref k)]) (fun (xs : List Nat) (ρ : Vars) (σ' : Sto) => ∃ (left' : List Nat) (beg' : Beg) (ob ok : Option V),TurnI I tys bl n kn b top xs left' beg' ∧ ρ = foV (conV t (bodV t nm na tys bl) (folV tys.length) bg) L (some (natV n)) ob ok ∧ σ' = (k,.dict (enc (runK kn b.1))) :: (L,.list (left'.map natV)) :: (σ₁ ++ (bg,.dict (encB beg')) :: σ₂)) ?_ ?_ (gone (runK kn b.1) b.2) _ _ ⟨l,beg,ob,ok,hT,rfl,rfl⟩
    · rintro x xs ρ σ' ⟨left',beg',ob',ok',hi,rfl,rfl⟩ ps noc
      refine uUnpack apart2 (.inl rfl) (.cons (.tl (.tl (.tl .hd))) (.cons (.tl (.tl (.tl (.tl .hd)))) .nil)) ?_
      have hs:=hi.step hkr hIm
      have sm:=s_meet (c:=c2.pins ps) (nm:=nm) (na:=na) (bl:=bl) (bg:=bg) (n:=x) (σ₁:=(k,.dict (enc (runK kn b.1))) :: (L,.list (left'.map natV)) :: σ₁) (σ₂:=σ₂) (DRd.chg (.head _)) hkr hi.ok.ok.wf (by have:=hi.ok.ok.len; exact Nat.le_trans (by assumption) (Nat.le_trans (by assumption) (by decide))) hsz H2 (Nat.le_trans (by decide) hn2)
      have gm : GmTo (c2.pins ps) ((k,.dict (enc (runK kn b.1))) :: (L,.list (left'.map natV)) :: (σ₁ ++ (bg,.dict (encB beg')) :: σ₂)) "meet" (conV t (bodV t nm na tys bl) (folV tys.length) bg) (.ref t.c_meet):=GmTo.obj H2.c_meet rfl
      cases hm : (meetP beg' x (runK kn b.1)).2 with
      | true =>
        rw [hm,if_pos rfl] at hs
        rw [hm] at sm
        exact wxAt (c:=c2.pins ps) hsc2 (O:={ meths:=[(307019042,.ref t.c_meet,.bool true,some ((k,.dict (enc (runK kn b.1))) :: (L,.list (left'.map natV)) :: (σ₁ ++ (bg,.dict (encB (meetP beg' x (runK kn b.1)).1)) :: σ₂)))],pos:=[(308020038,1)] }) (ρ':=foV (conV t (bodV t nm na tys bl) (folV tys.length) bg) L (some (natV n)) (some (natV x)) (some (.raw (.ref k)))) (σ':=(k,.dict (enc (runK kn b.1))) :: (L,.list (left'.map natV ++ [natV x])) :: (σ₁ ++ (bg,.dict (encB (meetP beg' x (runK kn b.1)).1)) :: σ₂))
          (kc6 gm sm (ze (.ref L)) (ze (.ref L)) (Nat.le_trans (by rw [List.length_map]; exact hlen hi : (left'.map natV).length ≤ 30000) (by decide : 30000 ≤ sizeLine)) (At.rf (ρ:=foV (conV t (bodV t nm na tys bl) (folV tys.length) bg) L (some (natV n)) (some (natV x)) (some (.raw (.ref k)))) (σ:=(k,.dict (enc (runK kn b.1))) :: (L,.list (left'.map natV ++ [natV x])) :: (σ₁ ++ (bg,.dict (encB (meetP beg' x (runK kn b.1)).1)) :: σ₂))))
          ⟨_,_,_,_,hs,rfl,by rw [List.map_append]; rfl⟩
      | false =>
        rw [hm,if_neg Bool.false_ne_true] at hs
        rw [hm] at sm
        exact wxAt (c:=c2.pins ps) hsc2 (O:={ meths:=[(307019042,.ref t.c_meet,.bool false,some ((k,.dict (enc (runK kn b.1))) :: (L,.list (left'.map natV)) :: (σ₁ ++ (bg,.dict (encB (meetP beg' x (runK kn b.1)).1)) :: σ₂)))] }) (ρ':=foV (conV t (bodV t nm na tys bl) (folV tys.length) bg) L (some (natV n)) (some (natV x)) (some (.raw (.ref k)))) (σ':=(k,.dict (enc (runK kn b.1))) :: (L,.list (left'.map natV)) :: (σ₁ ++ (bg,.dict (encB (meetP beg' x (runK kn b.1)).1)) :: σ₂))
          (kc3 gm sm (At.rf (ρ:=foV (conV t (bodV t nm na tys bl) (folV tys.length) bg) L (some (natV n)) (some (natV x)) (some (.raw (.ref k)))) (σ:=(k,.dict (enc (runK kn b.1))) :: (L,.list (left'.map natV)) :: (σ₁ ++ (bg,.dict (encB (meetP beg' x (runK kn b.1)).1)) :: σ₂))))
          ⟨_,_,_,_,hs,rfl,rfl⟩
    · rintro ρ σ' ⟨left',beg',ob',ok',hi,rfl,rfl⟩
      exact thenNext (xNil ⟨_,_,rfl,q _ _ _ _ hi⟩)⟩
  refine xv_sound hsc 60 (O:={ meths:=[(305021031,.builtin "list.pop",natV n,some ((L,.list (l.map natV)) :: (σ₁ ++ (bg,.dict (encB beg)) :: σ₂)))],stops:=[306012038] }) ?_ Cx.Same.refl
  have lp : FnTo c ((L,.list ((l ++ [n]).map natV)) :: (σ₁ ++ (bg,.dict (encB beg)) :: σ₂)) (.builtin "list.pop") [.raw (.ref L)] (natV n) ((L,.list (l.map natV)) :: (σ₁ ++ (bg,.dict (encB beg)) :: σ₂)):=⟨fun c' hs ρ Q q => by
    rw [List.map_append]
    exact mPop (σ₁:=[]) (a:=L) (ds:=l.map natV) (d:=natV n) (by rw [List.length_map]; exact Nat.le_trans (Nat.succ_le_succ (hlen hT)) (by decide)) q⟩
  exact kc3 (GmTo.lpop (c:=c) (σ:=(L,.list ((l ++ [n]).map natV)) :: (σ₁ ++ (bg,.dict (encB beg)) :: σ₂)) (.head _)) lp x
structure WcOk (tys : List Ty) (bl : List Blk) (I : Int → Kn → Prop) (beg : Beg) : Prop where
  fol : FolOk tys bl beg
  done : ∀ m,DoneAt bl beg m
  inv : ∀ m k,bget beg m = some k → I m k
structure FolS (I : Int → Kn → Prop) (tys : List Ty) (bl : List Blk) (n : Nat) (left : List Nat) (beg : Beg) : Prop where
  ok : FolOk tys bl beg
  lf : ∀ m ∈ left,(bget beg (m : Int)).isSome = true
  dn : ∀ m,m ∉ left → DoneAt bl beg m
  inv : ∀ m k,bget beg m = some k → I m k
  wt : n = 2 * sumN (wtB tys beg) bl.length + left.length
  le : n ≤ 30000
omit hok hsz H hIs hIm in
theorem FolS.init (h0 : 0 < bl.length) (hsz : tys.length ≤ 100) (hI0 : I 0 []) : FolS I tys bl (2 * sumN (wtB tys [(0,[])]) bl.length + 1) [0] [(0,[])] where
  ok:=FolOk.init h0
  lf:=fun m hm => by obtain rfl:=List.mem_singleton.mp hm; rfl
  dn:=fun m hm kn b hk => by
    exfalso
    unfold bget at hk
    rw [List.find?_cons_of_neg (by simp at hm; simp; omega)] at hk; cases hk
  inv:=fun m k hk => by
    unfold bget at hk
    by_cases e : m = 0
    · subst e; obtain rfl:=Option.some.inj hk; exact hI0
    · rw [List.find?_cons_of_neg (by simpa using fun q => e q.symm)] at hk; cases hk
  wt:=rfl
  le:=by
    have : sumN (wtB tys [(0,[])]) bl.length ≤ bl.length * 101:=sumN_le (fun i => by
      unfold wtB
      split
      · exact Nat.lt_of_le_of_lt (by assumption) (by decide)
      · rename_i k hk
        have:=((FolOk.init (tys:=tys) h0).wf _ _ hk).len
        exact Nat.le_trans (by assumption) (Nat.le_trans (by assumption) (by decide))) _
    omega
theorem s_follow (h0 : 0 < bl.length) (hI0 : I 0 []) (hn : 12 ≤ c.n) : FnGe c (σ₁ ++ (bg,.dict (encB [(0,[])])) :: σ₂) (.ref t.c_follow) [conV t (bodV t nm na tys bl) (folV tys.length) bg] ⟨Beg,WcOk tys bl I,fun beg => (.none,σ₁ ++ (bg,.dict (encB beg)) :: σ₂)⟩:=by
  refine fnGe (ps:=["self"]) (ls:=["left", "number", "block", "known"]) (gl:=[]) H.c_follow.me (Nat.le_trans (by decide) hn) (Binds.of1 fun Z Z Z Z Z Z Z Z Z => rfl) rfl (SigOk.of (gn:=[]) (by decide +kernel)) gnil ?_
  intro c' hlk hn' hcomp hsc Q q
  have H':=H.like hlk
  have x : ∀ L : Addr,XTo c' (foV (conV t (bodV t nm na tys bl) (folV tys.length) bg) L .none .none .none) ((L,.list [natV 0]) :: (σ₁ ++ (bg,.dict (encB [(0,[])])) :: σ₂)) ((bodyOf (partOf 30 11)).drop 1) (Ends Q):=fun L => ⟨fun c2 hs2 => by
    have H2:=H'.like hs2.like
    have hsc2 : c2.env.scope = scopeOf (partOf 30 11):=by rw [hs2.env]; exact hsc
    refine xCons (xWhile (fun m ρ τ => ∃ left beg on ob ok,FolS I tys bl m left beg ∧ ρ = foV (conV t (bodV t nm na tys bl) (folV tys.length) bg) L on ob ok ∧ τ = (L,.list (left.map natV)) :: (σ₁ ++ (bg,.dict (encB beg)) :: σ₂)) ?_ ⟨[0],[(0,[])],_,_,_,FolS.init hbl h0 hsz hI0,rfl,rfl⟩)
    rintro m ρ τ ⟨left,beg,on,ob,ok,hS,rfl,rfl⟩
    rcases List.eq_nil_or_concat left with rfl | ⟨l,n,rfl⟩
    · have cm:=CmTo.neM (c:=c2) (L:=L) (left:=[]) (σ:=(L,.list []) :: (σ₁ ++ (bg,.dict (encB beg)) :: σ₂)) (b:=false) (.head _) rfl
      refine wbAt (c:=c2) (O:={ ops:=[(304014024,.bool false)] }) (b:=false) (σ':=(L,.list []) :: (σ₁ ++ (bg,.dict (encB beg)) :: σ₂)) (kc2 cm (AtV.rf (d:=.bool false) (σ:=(L,.list []) :: (σ₁ ++ (bg,.dict (encB beg)) :: σ₂)))) ⟨(fun e => nomatch e),fun Z => ?_⟩
      exact xNil (thenNext (xDropPre (σ₁:=[]) (xNil (q beg ⟨hS.ok,fun m => hS.dn m (fun hm => nomatch hm),hS.inv⟩))))
    · rw [List.concat_eq_append] at hS ⊢
      obtain ⟨kn,hkn⟩:=Option.isSome_iff_exists.mp (hS.lf n (List.mem_append_right _ (.head _)))
      obtain ⟨n',hnn,hlt⟩:=hS.ok.rng _ _ hkn
      obtain rfl : n = n':=Int.ofNat.inj hnn
      have hb : bl[n]? = some bl[n]:=List.getElem?_eq_getElem hlt
      obtain ⟨b1,b2,b3⟩:=hok _ _ hb
      have hkw:=hS.ok.wf _ _ hkn
      have hle:=hS.le
      have hlm:=hS.wt
      rw [List.length_append,List.length_singleton] at hlm
      have hT : TurnI I tys bl n kn bl[n] (2 * sumN (wtB tys beg) bl.length + l.length) (gone (runK kn bl[n].1) bl[n].2) l beg:=⟨hS.inv,hIs n kn _ hkw (hS.inv _ _ hkn) hb,⟨hS.ok,fun m hm => hS.lf m (List.mem_append_left _ hm),fun m hne hm => hS.dn m (fun h => (List.mem_append.mp h).elim hm fun h => hne (List.mem_singleton.mp h)),fun Z => hkn,fun x hx => .inl hx,fun x hx => b3 x (gone_told hx)⟩,Nat.le_refl _⟩
      have cm:=CmTo.neM (c:=c2) (L:=L) (left:=l ++ [n]) (σ:=(L,.list ((l ++ [n]).map natV)) :: (σ₁ ++ (bg,.dict (encB beg)) :: σ₂)) (b:=true) (.head _) (by cases l <;> rfl)
      refine wbAt (c:=c2) (O:={ ops:=[(304014024,.bool true)] }) (b:=true) (σ':=(L,.list ((l ++ [n]).map natV)) :: (σ₁ ++ (bg,.dict (encB beg)) :: σ₂)) (kc2 cm (AtV.rf (d:=.bool true) (σ:=(L,.list ((l ++ [n]).map natV)) :: (σ₁ ++ (bg,.dict (encB beg)) :: σ₂)))) ⟨fun Z => ?_,(fun e => nomatch e)⟩
      refine x_turnF hok hbl hsz H2 hIs hIm hb hkn hT (by omega) hsc2 (by rw [hs2.n]; exact nle hn' hn) fun left' beg' ob ok hi => ?_
      exact ⟨_,by have:=hi.le; omega,left',beg',_,_,_,⟨hi.ok.ok,hi.ok.lf,hi.ok.done hb,hi.inv,rfl,by have:=hi.le; omega⟩,rfl,rfl⟩⟩
  exact ⟨{ muts:=[303015018],stops:=[304008038] },kc1 x⟩
end
end
end
end Mine
end
section
set_option tactic.hygienic false
namespace Mine
noncomputable section
section
variable {t : Tab} {c : Cx} {σ : Sto}
noncomputable def cmpE : Stmt → Expr
  | .Return (some (.Compare l _ _ _)) _ => l
  | _ => .Constant .none 0 ⟨0,0,0,0⟩
noncomputable def isE : Expr:=cmpE ((ifB ((bodyOf (stmtAt 26))[0]?.getD (.Pass ⟨0,0,0,0⟩)))[0]?.getD (.Pass ⟨0,0,0,0⟩))
theorem x_parts (hcomp : c.comp = Option.none) (hsc : c.env.scope = scopeOf (stmtAt 26)) (H : Has t c) : ExTo c [("t",.own (some Ty.pair.v)),("PLAIN",.ro plainV)] σ isE (.list []) σ:=⟨fun c' hs Q q => by
  have H':=H.like hs.like
  have hsc' : c'.env.scope = scopeOf (stmtAt 26):=by rw [hs.env]; exact hsc
  show WT c' (eval (.ListComp _ [⟨_,_,[_],0⟩] _ _) c'.env) _ σ Q
  refine wFreezeL (wListComp (scopeOf (stmtAt 26)) ["part"] [] [("PLAIN",plainV)] (hs.comp.trans hcomp) hsc' (CompOk.of (fv:=[]) (gn:=["PLAIN"]) (by decide +kernel)) fvNil (gcons ⟨_,H'.plain.1,H'.plain.2⟩ gnil) (fun Z => rfl)
    (wtAt (O:={}) (d':=.tup [byteV,bitV]) (σ':=σ) (kc1 (AtV.rf (d:=.tup [byteV,bitV]) (σ:=σ))) (itrAnd rfl ?_)))
  intro c2 hl2 hn2 D
  refine CGo.runF (fun b : Bool => if b then byteV else bitV) (fun b : Bool => V.bool b) (fun Z => false) (fun (_ : List Bool) (ρ : Vars) (σ' : Sto) => σ' = σ ∧ ∃ o,ρ = ([("part",.own o),("PLAIN",.ro plainV)] : Vars)) ?_ [true,false] [] _ σ (by decide) ⟨rfl,_,rfl⟩ fun ρ σ' h => by rw [h.1]; exact ⟨D,[],σ,_,rfl,.inl rfl,q⟩
  rintro x xs ρ σ' acc ⟨rfl,o,rfl⟩ ps noc
  refine uName .hd (tOne ?_)
  cases x with
  | true => exact wbAt (c:=c2.pins ps) (b:=false) (O:={}) (σ':=(D,.list acc) :: σ') (kc1 (AtV.rf (d:=.bool false) (σ:=(D,.list acc) :: σ'))) ⟨rfl,(fun e => nomatch e),fun Z => ⟨_,rfl,rfl,_,rfl⟩⟩
  | false => exact wbAt (c:=c2.pins ps) (b:=false) (O:={}) (σ':=(D,.list acc) :: σ') (kc1 (AtV.rf (d:=.bool false) (σ:=(D,.list acc) :: σ'))) ⟨rfl,(fun e => nomatch e),fun Z => ⟨_,rfl,rfl,_,rfl⟩⟩⟩
theorem s_is_followed {ty : Ty} (H : Has t c) (hn : 1 ≤ c.n) : FnTo c σ (.ref t.is_followed) [ty.v] (.bool true) σ:=by
  refine fnTo (ps:=["t"]) (ls:=[]) (gl:=[("PLAIN",plainV)]) H.is_followed.2 hn (Binds.of1 fun Z Z Z Z Z Z Z Z Z => rfl) rfl (SigOk.of (gn:=["PLAIN"]) (by decide +kernel)) (gcons ⟨_,H.plain.1,H.plain.2⟩ gnil) ?_
  intro c' hlk hn' hcomp hsc Q q
  have H':=H.like hlk
  cases ty with
  | pair => exact ⟨{ exprs:=[(156015062,.list [],none)],ops:=[(156015068,.bool true)] },kc3 (x_parts (c:=c') (σ:=σ) hcomp hsc H') (CmTo.eqD (c:=c') (σ:=σ) (a:=.list []) (b:=.list []) (x:=.list []) (y:=.list []) (r:=true) rfl rfl rfl rfl rfl) q⟩
  | _ => exact ⟨{},kc1 q⟩
noncomputable abbrev leV (bd : V) (F : Addr) (o1 o2 o3 : Option V) : Vars:=[("body",.own (some bd)),("found",.own (some (.raw (.ref F)))),("statements",.own o1),("terminator",.own o2),("statement",.own o3)]
theorem x_lent {bd : V} {F : Addr} {o1 o2 : Option V} {s : Stm} {Q : Fl → Vars → Sto → Prop} (hsc : c.env.scope = scopeOf (stmtAt 27)) (q : Q .next (leV bd F o1 o2 (some s.v)) ((F,.dict []) :: σ)) :
    WX c (execs (forB ((forB ((bodyOf (stmtAt 27))[1]?.getD (.Pass ⟨0,0,0,0⟩)))[0]?.getD (.Pass ⟨0,0,0,0⟩))) c.env) (leV bd F o1 o2 (some s.v)) ((F,.dict []) :: σ) Q:=by
  cases s with
  | asg l r =>
    obtain ⟨w,rest,hv,h1⟩ : ∃ w rest,r.v = .tup (.str w :: rest) ∧ (w == "ref") = false:=by cases r <;> exact ⟨_,_,rfl,by decide +kernel⟩
    have e : (Stm.asg l r).v = .tup [.str "assign",placeV l,.tup (.str w :: rest)]:=by rw [← hv]; rfl
    rw [e] at q ⊢
    exact wxAt hsc (O:={ ops:=[(162044059,.str w)],tests:=[(162044068,false)] }) (ρ':=leV bd F o1 o2 (some (.tup [.str "assign",placeV l,.tup (.str w :: rest)]))) (σ':=(F,.dict []) :: σ) (kc3 (ItTo.tup0 (c:=c) (σ:=(F,.dict []) :: σ) (d:=.str w) (ds:=rest)) h1 (At.rf (ρ:=leV bd F o1 o2 (some (.tup [.str "assign",placeV l,.tup (.str w :: rest)]))) (σ:=(F,.dict []) :: σ))) q
  | print o => exact wxAt hsc (O:={}) (ρ':=leV bd F o1 o2 (some (Stm.print o).v)) (σ':=(F,.dict []) :: σ) (kc1 (At.rf (ρ:=leV bd F o1 o2 (some (Stm.print o).v)) (σ:=(F,.dict []) :: σ))) q
  | nop => exact wxAt hsc (O:={}) (ρ':=leV bd F o1 o2 (some Stm.nop.v)) (σ':=(F,.dict []) :: σ) (kc1 (At.rf (ρ:=leV bd F o1 o2 (some Stm.nop.v)) (σ:=(F,.dict []) :: σ))) q
theorem s_lent_locals {nm : Str} {na : Nat} {tys : List Ty} {bl : List Blk} (H : Has t c) (hn : 1 ≤ c.n) : FnTo c σ (.ref t.lent_locals) [bodV t nm na tys bl] (.dict []) σ:=by
  refine fnTo (ps:=["body"]) (ls:=["found", "statements", "terminator", "statement"]) (gl:=[]) H.lent_locals.2 hn (Binds.of1 fun Z Z Z Z Z Z Z Z Z => rfl) rfl (SigOk.of (gn:=[]) (by decide +kernel)) gnil ?_
  intro c' hlk hn' hcomp hsc Q q
  have H':=H.like hlk
  have x : ∀ F : Addr,XTo c' (leV (bodV t nm na tys bl) F .none .none .none) ((F,.dict []) :: σ) ((bodyOf (stmtAt 27)).drop 1) (Ends Q):=fun F => ⟨fun c2 hs2 => by
    have hsc2 : c2.env.scope = scopeOf (stmtAt 27):=by rw [hs2.env]; exact hsc
    refine xCons (xFor (fun Z => rfl) (wtAt (O:={}) (d':=.list (bl.map blkV)) (σ':=(F,.dict []) :: σ) (kc2 (H'.like hs2.like).g_Body_blocks (AtV.rf (d:=.list (bl.map blkV)) (σ:=(F,.dict []) :: σ))) (elemsAnd rfl (WFor.run blkV (fun (xs : List Blk) (ρ : Vars) (σ' : Sto) => σ' = (F,MO.dict []) :: σ ∧ ∃ o1 o2 o3,ρ = leV (bodV t nm na tys bl) F o1 o2 o3) ?_ ?_ bl _ _ ⟨rfl,_,_,_,rfl⟩))))
    · rintro x xs ρ σ' ⟨rfl,o1,o2,o3,rfl⟩ ps noc
      refine uUnpack apart2 (.inr rfl) (.cons (.tl (.tl .hd)) (.cons (.tl (.tl (.tl .hd))) .nil)) ?_
      refine xCons (xFor (fun Z => rfl) (wName (.tl (.tl .own)) (elemsAnd rfl (WFor.run Stm.v (fun (xs : List Stm) (ρ : Vars) (σ' : Sto) => σ' = (F,MO.dict []) :: σ ∧ ∃ o1 o2 o3,ρ = leV (bodV t nm na tys bl) F o1 o2 o3) ?_ ?_ x.1 _ _ ⟨rfl,_,_,_,rfl⟩))))
      · rintro y ys ρ σ' ⟨rfl,o1,o2,o3,rfl⟩ ps2 noc2
        exact uName (.tl (.tl (.tl (.tl .hd)))) (x_lent (c:=(c2.pins ps).pins ps2) hsc2 ⟨rfl,_,_,_,rfl⟩)
      · rintro ρ σ' ⟨rfl,o1,o2,o3,rfl⟩
        exact thenNext (xNil ⟨rfl,_,_,_,rfl⟩)
    · rintro ρ σ' ⟨rfl,o1,o2,o3,rfl⟩
      exact thenNext (xFreezeD (σ₁:=[]) (.tl .hd) (xv_sound hsc2 60 (O:={}) (kc1 q) Cx.Same.refl))⟩
  exact ⟨{ muts:=[159012014],stops:=[160004048] },kc1 x⟩
end
end
end Mine
end
section
set_option tactic.hygienic false
namespace Mine
noncomputable section
section
variable {t : Tab} {c : Cx} {σ : Sto}
noncomputable abbrev coV (t : Tab) (x : Addr) (bd : V) (o : Option V) : Vars:=[("self",.own (some (.raw (.ref x)))),("body",.own (some bd)),("lent",.own (some (.dict []))),("local",.own o),("lent_locals",.ro (.raw (.ref t.lent_locals))),("range",.ro (.raw (.type "range"))),("len",.ro (.raw (.builtin "len"))),("is_followed",.ro (.raw (.ref t.is_followed)))]
noncomputable def folD (done : List Nat) : List (Int × V):=done.map fun i : Nat => ((i : Int),V.bool true)
noncomputable abbrev coS (t : Tab) (F x : Addr) (bd : V) (done : List Nat) (σ : Sto) : Sto:=(F,.dict (folD done)) :: (x,.inst t.Constants [("body",bd),("followed",.raw (.ref F))]) :: σ
theorem fol_put {done : List Nat} {i : Nat} (h : i ∉ done) : dput (folD done) (i : Int) (V.bool true) = folD (done ++ [i]):=by
  unfold dput folD
  rw [if_neg (by simp; exact fun x hx e => h (by rw [← Int.natCast_inj.mp e]; exact hx)),List.map_append]; rfl
noncomputable abbrev coB : List Stmt:=forB ((bodyOf (partOf 30 0))[3]?.getD (.Pass ⟨0,0,0,0⟩))
section
variable {F x : Addr} {nm : Str} {na : Nat} {tys : List Ty} {bl : List Blk} {done : List Nat} {ol : Option V} {Q : V → Sto → Prop}
theorem con_end {ss : List Stmt} (e : ss = (bodyOf (partOf 30 0)).drop 4) (hsc : c.env.scope = scopeOf (partOf 30 0)) (H : Has t c) (q : ∀ D : Addr,Q (conV t (bodV t nm na tys bl) (folV tys.length) D) ((D,.dict (encB [(0,[])])) :: σ)) :
    WX c (execs ss c.env) (coV t x (bodV t nm na tys bl) ol) ((x,.inst t.Constants [("body",bodV t nm na tys bl),("followed",.dict (folV tys.length))]) :: σ) (Ends (Made Q x t.Constants)):=by
  subst e
  refine xCons ?_
  refine xSetAttr ?_ ?_
  · rfl
  with_reducible refine wDict1 fun D => ?_
  refine wInt ?_
  refine wFreezeD ?_
  refine wDict0 fun E => ?_
  refine ⟨E,[],_,[],rfl,rfl,0,[],(x,.inst t.Constants [("body",bodV t nm na tys bl),("followed",.dict (folV tys.length))]) :: σ,rfl,rfl,wName .own ?_⟩
  exact SetF.mk x t.Constants [("body",bodV t nm na tys bl),("followed",.dict (folV tys.length))] [(D,MO.dict [(0,V.dict [])])] σ rfl rfl H.s_Constants_begins (by simp; decide) (show (2 : Nat) < 1000 by decide) (xNil ⟨rfl,[(D,MO.dict [(0,V.dict [])])],_,σ,rfl,q D⟩)
theorem con_fin {ss : List Stmt} (e : ss = (bodyOf (partOf 30 0)).drop 4) (hsc : c.env.scope = scopeOf (partOf 30 0)) (H : Has t c) (q : ∀ D : Addr,Q (conV t (bodV t nm na tys bl) (folV tys.length) D) ((D,.dict (encB [(0,[])])) :: σ)) :
    Then c ss (Ends (Made Q x t.Constants)) .next (coV t x (bodV t nm na tys bl) ol) (coS t F x (bodV t nm na tys bl) ([] ++ List.range tys.length) σ):=
  thenNext (xFreezeInD (es:=folV tys.length) (τ₁:=[]) (σ₁:=[]) (x:=x) (C:=t.Constants) (F:=F) (n := "followed") (f1:=([("body",bodV t nm na tys bl)] : List (Str × V))) (f2:=[]) (σ₂:=σ) rfl rfl (con_end e hsc H q))
theorem con_turn {i : Nat} {K : Fl → Vars → Sto → Prop} (hi : i < tys.length) (hsz : tys.length ≤ 100) (hd : done.length ≤ 100) (hnd : i ∉ done) (hsc : c.env.scope = scopeOf (partOf 30 0)) (H : Has t c) (hn : 1 ≤ c.n)
    (q : K .next (coV t x (bodV t nm na tys bl) (some (natV i))) (coS t F x (bodV t nm na tys bl) (done ++ [i]) σ)) :
    WX c (execs coB c.env) (coV t x (bodV t nm na tys bl) (some (natV i))) (coS t F x (bodV t nm na tys bl) done σ) K:=by
  have it:=ItTo.listAt (c:=c) (σ:=coS t F x (bodV t nm na tys bl) done σ) (ds:=tys.map fun ty => .tup [ty.v,.bool true,.none]) (n:=i) (d:=.tup [(tys[i]).v,.bool true,.none]) (by rw [List.length_map]; exact Nat.le_trans hsz (by decide)) (by rw [List.getElem?_map,List.getElem?_eq_getElem hi]; rfl)
  rw [coS,← fol_put hnd] at q
  exact xv_sound hsc 60 (O:={ ops:=[(198027045,.tup [(tys[i]).v,.bool true,.none]),(198054071,.bool true)],calls:=[(198015049,.bool true,none)],pos:=[(199016029,1),(199016043,0)] })
    (kc10 (callable_K (c:=c) H.is_followed.2.keep) H.g_Body_locals it (s_is_followed (c:=c) (σ:=coS t F x (bodV t nm na tys bl) done σ) (ty:=tys[i]) H hn) (⟨fun c'' hs ρ Q q => oNotInD DRd.data q⟩ : CmTo c (coS t F x (bodV t nm na tys bl) done σ) .NotIn (.int i) (.dict []) (.bool true)) (ze (.ref x)) H.g_Constants_followed (ze (.ref F)) (show (folD done).length ≤ sizeLine from Nat.le_trans (len_map hd) (by decide : 100 ≤ sizeLine)) q) Cx.Same.refl
theorem con_loop {pos : Pos} {K : Fl → Vars → Sto → Prop} (hsz : tys.length ≤ 100) (hsc : c.env.scope = scopeOf (partOf 30 0)) (H : Has t c) (hn : 1 ≤ c.n) : ∀ {xs done : List Nat} {ol : Option V},(∀ i ∈ xs,i < tys.length) → (done ++ xs).Nodup → done.length + xs.length ≤ 100 →
    (∀ ol,K .next (coV t x (bodV t nm na tys bl) ol) (coS t F x (bodV t nm na tys bl) (done ++ xs) σ)) → WFor c (.Name "local" pos) coB K (xs.map natV) (coV t x (bodV t nm na tys bl) ol) (coS t F x (bodV t nm na tys bl) done σ)
  | [],done,ol,hx,hd,hl,q => by have:=q ol; rw [List.append_nil] at this; exact this
  | i :: xs,done,ol,hx,hd,hl,q => fun ps noc => uName (.tl (.tl (.tl .hd))) (con_turn (c:=c.pins ps) (hx i (.head _)) hsz (Nat.le_trans (Nat.le_add_right _ _) hl) (fun h => (List.nodup_append.mp hd).2.2 i h i (.head _) rfl) hsc H hn
      (con_loop hsz hsc H hn (fun j h => hx j (.tail _ h)) (by rw [List.append_assoc done [i] xs]; exact hd) (by rw [List.length_append]; show done.length + 1 + xs.length ≤ 100; rw [Nat.add_assoc,Nat.add_comm 1]; exact hl) fun ol => by rw [List.append_assoc]; exact q ol))
theorem con_for (hsz : tys.length ≤ 100) (hsc : c.env.scope = scopeOf (partOf 30 0)) (H : Has t c) (hn : 1 ≤ c.n) (q : ∀ D : Addr,Q (conV t (bodV t nm na tys bl) (folV tys.length) D) ((D,.dict (encB [(0,[])])) :: σ)) :
    WX c (execs ((bodyOf (partOf 30 0)).drop 3) c.env) (coV t x (bodV t nm na tys bl) .none) (coS t F x (bodV t nm na tys bl) [] σ) (Ends (Made Q x t.Constants)):=by
  refine xCons (xFor (fun Z => rfl) (wtAt (O:={ calls:=[(197027043,.int tys.length,none),(197021044,.rng 0 tys.length,none)] }) (d':=.rng 0 tys.length) (σ':=coS t F x (bodV t nm na tys bl) [] σ)
      (kc6 (callable_T (c:=c) (T := "range")) (callable_B (c:=c) (T := "len")) H.g_Body_locals (⟨fun c'' hs ρ Q q => bLenL LRd.data (by rw [List.length_map]; exact Nat.lt_of_le_of_lt hsz (by decide)) (by rw [List.length_map]; exact q)⟩ : FnTo c (coS t F x (bodV t nm na tys bl) [] σ) (.builtin "len") [locsV tys] (.int tys.length) (coS t F x (bodV t nm na tys bl) [] σ)) (s_range1 (c:=c) (σ:=coS t F x (bodV t nm na tys bl) [] σ) (n:=tys.length)) (AtV.rf (d:=.rng 0 tys.length) (σ:=coS t F x (bodV t nm na tys bl) [] σ)))
      (elemsAnd (rng0 rfl (Nat.le_trans hsz (by decide))) ?_)))
  refine con_loop hsz hsc H hn (fun i h => List.mem_range.mp h) List.nodup_range (by rw [List.length_range,List.length_nil,Nat.zero_add]; exact hsz) fun ol => ?_
  with_reducible exact con_fin (by kernel_rfl) hsc H q
end
theorem s_Constants {nm : Str} {na : Nat} {tys : List Ty} {bl : List Blk} (hsz : tys.length ≤ 100) (H : Has t c) (hn : 3 ≤ c.n) :
    FnGe c σ (.ref t.Constants) [bodV t nm na tys bl] ⟨Addr,fun Z => True,fun bg => (conV t (bodV t nm na tys bl) (folV tys.length) bg,(bg,.dict (encB [(0,[])])) :: σ)⟩:=by
  refine geTo (k:=0) (ds:=[bodV t nm na tys bl]) (ps:=["self", "body"]) (ls:=["lent", "local"]) (gl:=[("lent_locals",.raw (.ref t.lent_locals)),("range",.raw (.type "range")),("len",.raw (.builtin "len")),("is_followed",.raw (.ref t.is_followed))]) H.Constants.make H.Constants.find H.Constants.fn H.Constants.me (Nat.le_trans (by decide) hn) (Binds.of2 fun Z Z Z Z Z Z Z Z Z Z => rfl).toD rfl (SigOk.of (gn:=["lent_locals", "range", "len", "is_followed"]) (by decide +kernel)) (gcons (gF H.lent_locals.1) (gcons (gF H.b_range) (gcons (gF H.b_len) (gcons (gF H.is_followed.1) gnil)))) ?_
  intro x c' hlk hn' hcomp hsc Q q
  have H':=H.like hlk
  have xl : ∀ F : Addr,XTo c' (coV t x (bodV t nm na tys bl) .none) (coS t F x (bodV t nm na tys bl) [] σ) ((bodyOf (partOf 30 0)).drop 3) (Ends (Made Q x t.Constants)):=fun F => ⟨fun c2 hs2 => con_for hsz (by rw [hs2.env]; exact hsc) (H'.like hs2.like) (hs2.n ▸ nle hn' hn) fun D => q D trivial⟩
  exact ⟨{ pos:=[(194008024,0),(196008026,1)],calls:=[(195015032,.dict [],none)],muts:=[196024026],stops:=[197008043] },
    kc5 (ze (.ref x)) (H'.s_Constants_body) (callable_K (c:=c') H'.lent_locals.2.keep) (s_lent_locals (c:=c') (σ:=(x,.inst t.Constants [("body",bodV t nm na tys bl)]) :: σ) (nm:=nm) (na:=na) (tys:=tys) (bl:=bl) H' (nle hn' hn)) fun F : Addr => (⟨ze (.ref x),H'.s_Constants_followed,xl F⟩ : _ ∧ _ ∧ _)⟩
end
end
end Mine
end
section
set_option tactic.hygienic false
namespace Mine
noncomputable section
section
variable {t : Tab} {c : Cx} {σ : Sto}
theorem FnGe.loose {f : Value} {ds : List V} {D : Type} {P : D → Prop} {d : D → V} {σ₁ : D → Sto} {a : D → Addr} {es : D → List V} (h : FnGe c σ f ds ⟨D,P,fun i => (d i,(a i,.list (es i)) :: σ₁ i)⟩) : FnGe c σ f ds ⟨D,P,fun i => (d i,(a i,.glist (es i)) :: σ₁ i)⟩:=
  ⟨fun c' hs ρ Q q => wcLoose (h.run c' hs ρ _ fun i hi => ⟨a i,[],σ₁ i,es i,rfl,q i hi⟩)⟩
noncomputable abbrev cpV (t : Tab) (bd : V) (o : Option V) : Vars:=[("body",.own (some bd)),("blocks",.own o),("Body",.ro (.raw (.ref t.Body))),("dict",.ro (.raw (.type "dict")))]
theorem s_copied {nm : Str} {na : Nat} {tys : List Ty} {bl : List Blk} (hbl : bl.length ≤ 1000) (hst : ∀ b ∈ bl,b.1.length ≤ 1000) (hsz : tys.length ≤ 100) (H : Has t c) (hn : 2 ≤ c.n) :
    FnGe c σ (.ref t.copied) [bodV t nm na tys bl] ⟨Addr,fun Z => True,fun D => (bodR t nm na (tys.map fun ty => V.tup [ty.v,.bool true,.none]) D,(D,.list (bl.map blkV)) :: σ)⟩:=by
  refine fnGe (ps:=["body"]) (ls:=["blocks"]) (gl:=[("Body",.raw (.ref t.Body)),("dict",.raw (.type "dict"))]) H.copied.2 (Nat.le_trans (by decide) hn) (Binds.of1 fun Z Z Z Z Z Z Z Z Z => rfl) rfl (SigOk.of (gn:=["Body", "dict"]) (by decide +kernel)) (gcons (gF H.Body.gv) (gcons (gF H.b_dict) gnil)) ?_
  intro c' hlk hn' hcomp hsc Q q
  have H':=H.like hlk
  have x : XTo c' (cpV t (bodV t nm na tys bl) .none) σ (bodyOf (stmtAt 20)) (Ends Q):=⟨fun c2 hs2 => by
    have H2:=H'.like hs2.like
    have hsc2 : c2.env.scope = scopeOf (stmtAt 20):=by rw [hs2.env]; exact hsc
    refine xCons (xSetComp (scopeOf (stmtAt 20)) ["statements", "terminator"] [] [("list",.raw (.type "list"))] ((swapsWith_env hsc2).trans (by rfl)) (hs2.comp.trans hcomp) hsc2 (CompOk.of (fv:=[]) (gn:=["list"]) (by decide +kernel)) fvNil (gcons (gF H2.b_list) gnil) (fun Z => rfl) (wtAt (c:=c2) (O:={}) (d':=.list (bl.map blkV)) (σ':=σ) (kc2 H2.g_Body_blocks (AtV.rf (d:=.list (bl.map blkV)) (σ:=σ))) (itrAnd rfl ?_)))
    intro c3 hl3 hn3 D
    refine CGo.run blkV blkV (fun (xs : List Blk) (ρ : Vars) (σ' : Sto) => (∀ b ∈ xs,b ∈ bl) ∧ σ' = σ ∧ ∃ o1 o2,ρ = ([("statements",Slot.own o1),("terminator",Slot.own o2),("list",Slot.ro (.raw (.type "list")))] : Vars)) ?_ bl [] _ σ (by rw [List.length_nil,Nat.zero_add]; exact Nat.lt_of_le_of_lt hbl (by decide)) ⟨fun b h => h,rfl,_,_,rfl⟩ ?_
    · rintro x xs ρ σ' acc ⟨hm,rfl,o1,o2,rfl⟩ ps noc
      exact uUnpack apart2 (.inr rfl) (.cons .hd (.cons (.tl .hd) .nil)) (wtAt (c:=c3.pins ps) (O:={ calls:=[(123015031,.list (x.1.map Stm.v),none)] }) (d':=blkV x) (σ':=(D,.list acc) :: σ') (kc3 (callable_T (c:=c3.pins ps) (T := "list")) (s_list (c:=c3.pins ps) (σ:=(D,.list acc) :: σ') (ds:=x.1.map Stm.v) (by rw [List.length_map]; exact hst x (hm x (.head _)))) (AtV.rf (d:=blkV x) (σ:=(D,.list acc) :: σ'))) ⟨_,rfl,rfl,fun b hb => hm b (.tail _ hb),rfl,_,_,rfl⟩)
    · rintro ρ σ' ⟨_,e,o1,o2,rfl⟩
      subst e
      refine ⟨_,.tl .hd,thenNext (xv_sound hsc2 60 (O:={ calls:=[(124064080,.dict [],none),(124011081,bodR t nm na (tys.map fun ty => V.tup [ty.v,.bool true,.none]) D,none)] })
        (kc9 (callable_K (c:=c2) H2.Body.keep) H2.g_Body_name H2.g_Body_arg_count H2.g_Body_locals (callable_T (c:=c2) (T := "dict")) H2.g_Body_spots (⟨fun c'' hs ρ Q q => bDictF DRd.data (by simp) q⟩ : FnTo c2 ((D,.list (bl.map blkV)) :: σ') (.type "dict") [.dict []] (.dict []) ((D,.list (bl.map blkV)) :: σ')) (s_Body5 (c:=c2) (σ:=(D,.list (bl.map blkV)) :: σ') (nm:=nm) (na:=na) (L:=tys.map fun ty => V.tup [ty.v,.bool true,.none]) (D:=D) (by rw [List.length_map]; exact Nat.le_trans hsz (by decide)) H2 (by rw [hs2.n]; exact nle hn' hn)) (q D trivial)) Cx.Same.refl)⟩⟩
  exact ⟨{ stops:=[123004087] },kc1 x⟩
end
end
end Mine
end
section
set_option tactic.hygienic false
namespace Mine
noncomputable section
section
variable {t : Tab} {c : Cx} {σ : Sto}
noncomputable abbrev wcV (t : Tab) (bd : V) (o1 o2 o3 o4 o5 o6 o7 o8 : Option V) : Vars:=[("body",.own (some bd)),("constants",.own o1),("found",.own o2),("number",.own o3),("facts",.own o4),("statements",.own o5),("terminator",.own o6),("made",.own o7),("statement",.own o8),("Constants",.ro (.raw (.ref t.Constants))),("copied",.ro (.raw (.ref t.copied))),("sorted",.ro (.raw (.builtin "sorted"))),("Facts",.ro (.raw (.ref t.Facts)))]
structure LoopI (tys : List Ty) (bl : List Blk) (beg : Beg) (xs : List Int) (cur : List Blk) : Prop where
  ex : ∀ x ∈ xs,∃ kn,bget beg x = some kn
  nd : xs.Nodup
  len : cur.length = bl.length
  at' : ∀ (i : Nat) b,bl[i]? = some b → cur[i]? = some (if (i : Int) ∈ xs then b else newB tys beg i b)
theorem LoopI.step {tys : List Ty} {bl : List Blk} {beg : Beg} {xs : List Int} {cur : List Blk} {n : Nat} {kn : Kn} {b : Blk} (h : LoopI tys bl beg (n :: xs) cur) (hkn : bget beg n = some kn) (hb : bl[n]? = some b) : LoopI tys bl beg xs (cur.set n (putB tys kn b.1,putT (runK kn b.1) b.2)):=by
  have hnd:=List.nodup_cons.mp h.nd
  refine ⟨fun x hx => h.ex x (.tail _ hx),hnd.2,by rw [List.length_set]; exact h.len,fun i b' hi => ?_⟩
  by_cases e : i = n
  · subst e
    rw [List.getElem?_set_self (by rw [h.len]; exact (List.getElem?_eq_some_iff.mp hb).1),if_neg hnd.1]
    rw [hb] at hi
    obtain rfl:=Option.some.inj hi
    unfold newB; rw [hkn]
  · rw [List.getElem?_set_ne (Ne.symm e),h.at' i b' hi]
    have : ((i : Int) ∈ (n : Int) :: xs) = ((i : Int) ∈ xs):=propext ⟨fun h => (List.mem_cons.mp h).resolve_left fun q => e (Int.ofNat.inj q),.tail _⟩
    simp only [this]
structure PutI (tys : List Ty) (kn : Kn) (b : Blk) (ys : List Stm) (ks : Kn) (made : List Stm) : Prop where
  s : ∀ s ∈ ys,StmTy tys s
  k : KnWf tys ks
  r : runK ks ys = runK kn b.1
  p : made ++ putB tys ks ys = putB tys kn b.1
  l : made.length + ys.length ≤ 1000
section
variable {nm : Str} {na : Nat} {tys : List Ty} {bl : List Blk} (hok : BlOk tys bl) (hst : ∀ b ∈ bl,b.1.length ≤ 1000) (hsz : tys.length ≤ 100) (H : Has t c)
include hok hst hsz H
theorem x_turnW {bg D : Addr} {beg : Beg} {cur : List Blk} {n : Nat} {kn : Kn} {b : Blk} {o4 o5 o6 o7 o8 : Option V} {Q : Fl → Vars → Sto → Prop} (hbl : bl.length ≤ 1000) (hkn : bget beg n = some kn) (hkw : KnWf tys kn) (hb : bl[n]? = some b) (hl : cur.length = bl.length) (hsc : c.env.scope = scopeOf (stmtAt 31)) (hn : 10 ≤ c.n)
    (q : ∀ o4 o5 o6 o7 o8,Q .next (wcV t (bodV t nm na tys bl) (some (conV t (bodV t nm na tys bl) (folV tys.length) bg)) (some (bodR t nm na (tys.map fun ty => V.tup [ty.v,.bool true,.none]) D)) (some (.int n)) o4 o5 o6 o7 o8) ((D,.glist ((cur.set n (putB tys kn b.1,putT (runK kn b.1) b.2)).map blkV)) :: (bg,.dict (encB beg)) :: σ)) :
    WX c (execs (forB ((bodyOf (stmtAt 31))[3]?.getD (.Pass ⟨0,0,0,0⟩))) c.env) (wcV t (bodV t nm na tys bl) (some (conV t (bodV t nm na tys bl) (folV tys.length) bg)) (some (bodR t nm na (tys.map fun ty => V.tup [ty.v,.bool true,.none]) D)) (some (.int n)) o4 o5 o6 o7 o8) ((D,.glist (cur.map blkV)) :: (bg,.dict (encB beg)) :: σ) Q:=by
  obtain ⟨b1,b2,b3⟩:=hok _ _ hb
  have hkr:=hkw.run b1
  have hs1:=hst b (List.mem_of_getElem? hb)
  generalize hσ : (bg,MO.dict (encB beg)) :: σ = τ at q ⊢
  have hm : (bg,MO.dict (encB beg)) ∈ τ:=hσ ▸ .head _
  refine wxDropPost ?_
  have x : ∀ k M : Addr,XTo c (wcV t (bodV t nm na tys bl) (some (conV t (bodV t nm na tys bl) (folV tys.length) bg)) (some (bodR t nm na (tys.map fun ty => V.tup [ty.v,.bool true,.none]) D)) (some (.int n)) (some (factsV t k)) (some (.list (b.1.map Stm.v))) (some b.2.v) (some (.raw (.ref M))) o8) ((M,.list []) :: (k,.dict (enc kn)) :: (D,.glist (cur.map blkV)) :: τ) ((forB ((bodyOf (stmtAt 31))[3]?.getD (.Pass ⟨0,0,0,0⟩))).drop 3) (fun f ρ' σ' => ∃ p σ₂,σ' = p :: σ₂ ∧ Q f ρ' σ₂):=fun k M => ⟨fun c2 hs2 => by
    have H2:=H.like hs2.like
    have hn2 : 10 ≤ c2.n:=by rw [hs2.n]; exact hn
    have hsc2 : c2.env.scope = scopeOf (stmtAt 31):=by rw [hs2.env]; exact hsc
    refine xCons (xFor (fun Z => rfl) (wName (.tl (.tl (.tl (.tl (.tl .own))))) (elemsAnd rfl (WFor.run Stm.v (fun (ys : List Stm) (ρ : Vars) (σ' : Sto) => ∃ ks made o8,PutI tys kn b ys ks made ∧ ρ = wcV t (bodV t nm na tys bl) (some (conV t (bodV t nm na tys bl) (folV tys.length) bg)) (some (bodR t nm na (tys.map fun ty => V.tup [ty.v,.bool true,.none]) D)) (some (.int n)) (some (factsV t k)) (some (.list (b.1.map Stm.v))) (some b.2.v) (some (.raw (.ref M))) o8 ∧ σ' = (M,.list (made.map Stm.v)) :: (k,.dict (enc ks)) :: (D,.glist (cur.map blkV)) :: τ) ?_ ?_ b.1 _ _ ⟨kn,[],_,⟨b1,hkw,rfl,rfl,by rw [List.length_nil,Nat.zero_add]; exact hs1⟩,rfl,rfl⟩))))
    · rintro y ys ρ σ' ⟨ks,made,o8,h,rfl,rfl⟩ ps noc
      have hy:=h.s y (.head _)
      have hl5:=h.l
      rw [List.length_cons] at hl5
      have sp:=s_put_statement (c:=c2.pins ps) (nm:=nm) (na:=na) (bl:=bl) (fol:=folV tys.length) (bg:=bg) (k:=k) (σ:=(M,.list (made.map Stm.v)) :: (k,.dict (enc ks)) :: (D,.glist (cur.map blkV)) :: τ) h.k.ok (.tail _ (.head _)) hsz H2 hy (Nat.le_trans (by decide) hn2)
      have ss:=s_step (c:=c2.pins ps) (nm:=nm) (na:=na) (bl:=bl) (bg:=bg) (k:=k) (σ₁:=[(M,.list (made.map Stm.v ++ [(putS tys ks y).v]))]) (σ₂:=(D,.glist (cur.map blkV)) :: τ) hy h.k hsz H2 (Nat.le_trans (by decide) hn2)
      refine uName (.tl (.tl (.tl (.tl (.tl (.tl (.tl (.tl .hd)))))))) (wxAt (c:=c2.pins ps) hsc2 (O:={ pos:=[(349012066,0)],meths:=[(349024065,.ref t.c_put_statement,(putS tys ks y).v,none),(350012044,.ref t.c_step,.none,some ((M,.list (made.map Stm.v ++ [(putS tys ks y).v])) :: (k,.dict (enc (kstep ks y))) :: (D,.glist (cur.map blkV)) :: τ))] }) (ρ':=wcV t (bodV t nm na tys bl) (some (conV t (bodV t nm na tys bl) (folV tys.length) bg)) (some (bodR t nm na (tys.map fun ty => V.tup [ty.v,.bool true,.none]) D)) (some (.int n)) (some (factsV t k)) (some (.list (b.1.map Stm.v))) (some b.2.v) (some (.raw (.ref M))) (some y.v)) (σ':=(M,.list (made.map Stm.v ++ [(putS tys ks y).v])) :: (k,.dict (enc (kstep ks y))) :: (D,.glist (cur.map blkV)) :: τ)
        (kc8 (ze (.ref M)) (GmTo.obj H2.c_put_statement rfl : GmTo (c2.pins ps) ((M,.list (made.map Stm.v)) :: (k,.dict (enc ks)) :: (D,.glist (cur.map blkV)) :: τ) "put_statement" (conV t (bodV t nm na tys bl) (folV tys.length) bg) (.ref t.c_put_statement)) sp (ze (.ref M)) (Nat.le_trans (by rw [List.length_map]; exact Nat.le_trans (Nat.le_add_right _ _) hl5 : (made.map Stm.v).length ≤ 1000) (by decide : 1000 ≤ sizeLine)) (GmTo.obj H2.c_step rfl : GmTo (c2.pins ps) ((M,.list (made.map Stm.v ++ [(putS tys ks y).v])) :: (k,.dict (enc ks)) :: (D,.glist (cur.map blkV)) :: τ) "step" (conV t (bodV t nm na tys bl) (folV tys.length) bg) (.ref t.c_step)) ss (At.rf (ρ:=wcV t (bodV t nm na tys bl) (some (conV t (bodV t nm na tys bl) (folV tys.length) bg)) (some (bodR t nm na (tys.map fun ty => V.tup [ty.v,.bool true,.none]) D)) (some (.int n)) (some (factsV t k)) (some (.list (b.1.map Stm.v))) (some b.2.v) (some (.raw (.ref M))) (some y.v)) (σ:=(M,.list (made.map Stm.v ++ [(putS tys ks y).v])) :: (k,.dict (enc (kstep ks y))) :: (D,.glist (cur.map blkV)) :: τ)))
        ⟨kstep ks y,made ++ [putS tys ks y],_,⟨fun s hs => h.s s (.tail _ hs),h.k.step hy,h.r,by rw [List.append_assoc]; exact h.p,by rw [List.length_append,List.length_singleton,Nat.add_assoc,Nat.add_comm 1]; exact hl5⟩,rfl,by rw [List.map_append]; rfl⟩)
    · rintro ρ σ' ⟨ks,made,o8,⟨_,_,h3,h4,_⟩,rfl,rfl⟩
      have e4 : made = putB tys kn b.1:=by rw [← h4]; exact (List.append_nil _).symm
      have e3 : ks = runK kn b.1:=h3
      subst e4 e3
      clear h3 h4
      refine thenNext (xFreezeL (σ₁:=[]) (.tl (.tl (.tl (.tl (.tl (.tl (.tl .hd))))))) ?_)
      have st:=s_put_terminator (c:=c2) (nm:=nm) (na:=na) (bl:=bl) (fol:=folV tys.length) (bg:=bg) (k:=k) (σ:=(k,.dict (enc (runK kn b.1))) :: (D,.glist (cur.map blkV)) :: τ) hkr.ok (.head _) hsz H2 b2 (Nat.le_trans (by decide) hn2)
      have hnl : n < cur.length:=by rw [hl]; exact (List.getElem?_eq_some_iff.mp hb).1
      have se : SeTo c2 ((k,.dict (enc (runK kn b.1))) :: (D,.glist (cur.map blkV)) :: τ) (.raw (.ref D)) (.int n) (.list [.list ((putB tys kn b.1).map Stm.v),(putT (runK kn b.1) b.2).v]) ((k,.dict (enc (runK kn b.1))) :: (D,.glist ((cur.set n (putB tys kn b.1,putT (runK kn b.1) b.2)).map blkV)) :: τ):=⟨fun c'' hs ρ Q q => iGlist (σ₁:=[(k,MO.dict (enc (runK kn b.1)))]) (Int.natCast_nonneg _) (Int.lt_of_le_of_lt (Int.ofNat_le.mpr (Nat.le_trans (Nat.le_of_lt hnl) (hl ▸ hbl))) (by decide)) (by rw [List.length_map]; exact Int.ofNat_lt.mpr hnl) (by rw [Int.toNat_natCast]; rw [List.map_set] at q; exact q)⟩
      exact wxAt hsc2 (O:={ meths:=[(351038081,.ref t.c_put_terminator,(putT (runK kn b.1) b.2).v,none)],sets:=[(351008082,(k,.dict (enc (runK kn b.1))) :: (D,.glist ((cur.set n (putB tys kn b.1,putT (runK kn b.1) b.2)).map blkV)) :: τ)] })
        (ρ':=wcV t (bodV t nm na tys bl) (some (conV t (bodV t nm na tys bl) (folV tys.length) bg)) (some (bodR t nm na (tys.map fun ty => V.tup [ty.v,.bool true,.none]) D)) (some (.int n)) (some (factsV t k)) (some (.list (b.1.map Stm.v))) (some b.2.v) (some (.list ((putB tys kn b.1).map Stm.v))) o8) (σ':=(k,.dict (enc (runK kn b.1))) :: (D,.glist ((cur.set n (putB tys kn b.1,putT (runK kn b.1) b.2)).map blkV)) :: τ)
        (kc5 (GmTo.obj H2.c_put_terminator rfl : GmTo c2 ((k,.dict (enc (runK kn b.1))) :: (D,.glist (cur.map blkV)) :: τ) "put_terminator" (conV t (bodV t nm na tys bl) (folV tys.length) bg) (.ref t.c_put_terminator)) st H2.g_Body_blocks se (At.rf (ρ:=wcV t (bodV t nm na tys bl) (some (conV t (bodV t nm na tys bl) (folV tys.length) bg)) (some (bodR t nm na (tys.map fun ty => V.tup [ty.v,.bool true,.none]) D)) (some (.int n)) (some (factsV t k)) (some (.list (b.1.map Stm.v))) (some b.2.v) (some (.list ((putB tys kn b.1).map Stm.v))) o8) (σ:=(k,.dict (enc (runK kn b.1))) :: (D,.glist ((cur.set n (putB tys kn b.1,putT (runK kn b.1) b.2)).map blkV)) :: τ)))
        ⟨_,_,rfl,q _ _ _ _ _⟩⟩
  have fa:=s_Facts (c:=c) (σ:=(D,.glist (cur.map blkV)) :: τ) (d:=.dict (enc kn)) (es:=enc kn) (fun Z => DRd.data) (by rw [enc_len]; exact Nat.le_trans hkw.len (Nat.le_trans hsz (by decide))) H (Nat.le_trans (by decide) hn)
  have it : ItTo c ((D,.glist (cur.map blkV)) :: τ) (.raw (.ref bg)) (.int n) (.dict (enc kn)):=⟨fun Z Z hs Z Z Z Z q => gDict (DRd.chg (.tail _ hm)) (by rw [dget_encB,hkn]; rfl) hs q⟩
  exact xv_sound hsc 60 (O:={ news:=[(345016047,⟨Addr,fun Z => True,fun k => (factsV t k,(k,.dict (enc kn)) :: (D,.glist (cur.map blkV)) :: τ)⟩)],ops:=[(345022046,.dict (enc kn)),(346033052,blkV b)],muts:=[347015017],stops:=[348008044] })
    (kc5 (callable_K (c:=c) H.Facts.keep) H.g_Constants_begins it fa fun (k : Addr) (_ : True) => (⟨H.g_Body_blocks,ItTo.blk (c:=c) (σ:=(k,.dict (enc kn)) :: (D,.glist (cur.map blkV)) :: τ) hbl hb,x k⟩ : _ ∧ _ ∧ _)) Cx.Same.refl
theorem s_with {I : Int → Kn → Prop} (h0 : 0 < bl.length) (hbl : bl.length ≤ 50) (hn : 14 ≤ c.n) (hI0 : I 0 []) (hIs : ∀ (n : Nat) kn b,KnWf tys kn → I n kn → bl[n]? = some b → ∀ x ∈ gone (runK kn b.1) b.2,I (x : Int) (runK kn b.1)) (hIm : ∀ x here kn,KnWf tys here → KnWf tys kn → I x here → I x kn → I x (here.filter (keepOf kn))) :
    FnGe c σ (.ref t.with_constants) [bodV t nm na tys bl] ⟨Beg,WcOk tys bl I,fun beg => (bodV t nm na tys (foundB tys bl beg),σ)⟩:=by
  refine fnGe (ps:=["body"]) (ls:=["constants", "found", "number", "facts", "statements", "terminator", "made", "statement"]) (gl:=[("Constants",.raw (.ref t.Constants)),("copied",.raw (.ref t.copied)),("sorted",.raw (.builtin "sorted")),("Facts",.raw (.ref t.Facts))]) H.with_constants.2 (Nat.le_trans (by decide) hn) (Binds.of1 fun Z Z Z Z Z Z Z Z Z => rfl) rfl (SigOk.of (gn:=["Constants", "copied", "sorted", "Facts"]) (by decide +kernel)) (gcons (gF H.Constants.gv) (gcons (gF H.copied.1) (gcons (gF H.b_sorted) (gcons (gF H.Facts.gv) gnil)))) ?_
  intro c' hlk hn' hcomp hsc Q q
  have H':=H.like hlk
  have hb100 : bl.length ≤ 100:=Nat.le_trans hbl (by decide)
  have hb1000 : bl.length ≤ 1000:=Nat.le_trans hbl (by decide)
  have x3 : ∀ bg beg D,WcOk tys bl I beg → XTo c' (wcV t (bodV t nm na tys bl) (some (conV t (bodV t nm na tys bl) (folV tys.length) bg)) (some (bodR t nm na (tys.map fun ty => V.tup [ty.v,.bool true,.none]) D)) .none .none .none .none .none .none) ((D,.glist (bl.map blkV)) :: (bg,.dict (encB beg)) :: σ) ((bodyOf (stmtAt 31)).drop 3) (Ends Q):=fun bg beg D hw => ⟨fun c2 hs2 => by
    have H2:=H'.like hs2.like
    have hn2 : 10 ≤ c2.n:=by rw [hs2.n]; exact nle hn' hn
    have hsc2 : c2.env.scope = scopeOf (stmtAt 31):=by rw [hs2.env]; exact hsc
    have q:=q beg hw
    let A : Gen:=⟨List Int,fun ns => ns.Perm (beg.map (·.1)),fun ns => (.list (ns.map V.int),(D,.glist (bl.map blkV)) :: (bg,.dict (encB beg)) :: σ)⟩
    refine xCons (xFor (fun Z => rfl) (wtG (c:=c2) (A:=A) (O:={ news:=[(344018042,A)] })
      (kc4 (callable_B (c:=c2) (T := "sorted")) H2.g_Constants_begins (⟨fun c'' hs ρ Q q => bSorted (DRd.chg (.tail _ (.head _))) (by unfold encB; rw [List.length_map]; exact Nat.lt_of_le_of_lt hw.fol.len (Nat.lt_of_le_of_lt hbl (by decide))) (fun e => by have:=bget_mem hw.fol.zero; rw [← encB_keys,e] at this; cases this) fun ns hp => q ns (by rw [encB_keys] at hp; exact hp)⟩ : FnGe c2 ((D,.glist (bl.map blkV)) :: (bg,.dict (encB beg)) :: σ) (.builtin "sorted") [.raw (.ref bg)] A)
        fun (ns : List Int) (hp : ns.Perm (beg.map (·.1))) => (⟨⟨ns,hp,rfl⟩⟩ : GenAt A (.list (ns.map V.int)) ((D,.glist (bl.map blkV)) :: (bg,.dict (encB beg)) :: σ))) fun (ns : List Int) (hp : ns.Perm (beg.map (·.1))) => elemsAnd rfl ?_))
    refine WFor.run V.int (fun (xs : List Int) (ρ : Vars) (σ' : Sto) => ∃ cur o3 o4 o5 o6 o7 o8,LoopI tys bl beg xs cur ∧ ρ = wcV t (bodV t nm na tys bl) (some (conV t (bodV t nm na tys bl) (folV tys.length) bg)) (some (bodR t nm na (tys.map fun ty => V.tup [ty.v,.bool true,.none]) D)) o3 o4 o5 o6 o7 o8 ∧ σ' = (D,.glist (cur.map blkV)) :: (bg,.dict (encB beg)) :: σ) ?_ ?_ ns _ _ ⟨bl,_,_,_,_,_,_,⟨fun x hx => mem_bget (hp.mem_iff.mp hx),hp.nodup_iff.mpr hw.fol.keys,rfl,fun i b hi => ?_⟩,rfl,rfl⟩
    · rintro x xs ρ σ' ⟨cur,o3,o4,o5,o6,o7,o8,hL,rfl,rfl⟩ ps noc
      obtain ⟨kn,hkn⟩:=hL.ex x (.head _)
      obtain ⟨n,rfl,hlt⟩:=hw.fol.rng _ _ hkn
      exact uName (.tl (.tl (.tl .hd))) (x_turnW (c:=c2.pins ps) hok hst hsz H2 hb1000 hkn (hw.fol.wf _ _ hkn) (List.getElem?_eq_getElem hlt) hL.len hsc2 hn2 fun o4 o5 o6 o7 o8 => ⟨_,_,_,_,_,_,_,hL.step hkn (List.getElem?_eq_getElem hlt),rfl,rfl⟩)
    · rintro ρ σ' ⟨cur,o3,o4,o5,o6,o7,o8,hL,rfl,rfl⟩
      have e : cur = foundB tys bl beg:=mapIdx_of hL.len fun i b hi => by rw [hL.at' i b hi,if_neg (fun h => nomatch h)]
      subst e
      exact thenNext (xDropPre (σ₁:=[(D,_)]) (xCons (xRet (wFreezeObjL (wName (.tl (.tl .own)) ⟨t.Body,D, "blocks",[("name",.str nm),("arg_count",.int na),("locals",locsV tys)],[("spots",.dict [])],[],σ,(foundB tys bl beg).map blkV,rfl,.inr rfl,q⟩)))))
    · split
      · exact hi
      · rename_i hm
        have : bget beg (i : Int) = Option.none:=by
          cases hq : bget beg (i : Int) with
          | none => rfl
          | some k => exact absurd (hp.mem_iff.mpr (bget_mem hq)) hm
        rw [hi]; unfold newB; rw [this]⟩
  have x2 : ∀ bg beg,WcOk tys bl I beg → XTo c' (wcV t (bodV t nm na tys bl) (some (conV t (bodV t nm na tys bl) (folV tys.length) bg)) .none .none .none .none .none .none .none) ((bg,.dict (encB beg)) :: σ) ((bodyOf (stmtAt 31)).drop 2) (Ends Q):=fun bg beg hw => ⟨fun c2 hs2 => by
    have hsc2 : c2.env.scope = scopeOf (stmtAt 31):=by rw [hs2.env]; exact hsc
    have H2:=H'.like hs2.like
    exact xv_sound hsc2 60 (O:={ news:=[(343012024,⟨Addr,fun Z => True,fun D => (bodR t nm na (tys.map fun ty => V.tup [ty.v,.bool true,.none]) D,(D,.glist (bl.map blkV)) :: (bg,.dict (encB beg)) :: σ)⟩)],stops:=[344004082] })
      (kc3 (callable_K (c:=c2) H2.copied.2.keep) (FnGe.loose (s_copied (c:=c2) (σ:=(bg,.dict (encB beg)) :: σ) (nm:=nm) (na:=na) hb1000 hst hsz H2 (by rw [hs2.n]; exact nle hn' hn))) fun (D : Addr) (_ : True) => (⟨fun c3 hs3 => (x3 bg beg D hw).run c3 (hs2.trans hs3)⟩ : XTo c2 (wcV t (bodV t nm na tys bl) (some (conV t (bodV t nm na tys bl) (folV tys.length) bg)) (some (bodR t nm na (tys.map fun ty => V.tup [ty.v,.bool true,.none]) D)) .none .none .none .none .none .none) ((D,.glist (bl.map blkV)) :: (bg,.dict (encB beg)) :: σ) ((bodyOf (stmtAt 31)).drop 3) (Ends Q))) Cx.Same.refl⟩
  have x1 : ∀ bg,XTo c' (wcV t (bodV t nm na tys bl) (some (conV t (bodV t nm na tys bl) (folV tys.length) bg)) .none .none .none .none .none .none .none) ((bg,.dict (encB [(0,[])])) :: σ) ((bodyOf (stmtAt 31)).drop 1) (Ends Q):=fun bg => ⟨fun c2 hs2 => by
    have hsc2 : c2.env.scope = scopeOf (stmtAt 31):=by rw [hs2.env]; exact hsc
    have H2:=H'.like hs2.like
    exact xv_sound hsc2 60 (O:={ gmeths:=[(342004022,.ref t.c_follow,⟨Beg,WcOk tys bl I,fun beg => (.none,(bg,.dict (encB beg)) :: σ)⟩)],stops:=[343004024] })
      (kc3 (GmTo.obj H2.c_follow rfl : GmTo c2 ((bg,.dict (encB [(0,[])])) :: σ) "follow" (conV t (bodV t nm na tys bl) (folV tys.length) bg) (.ref t.c_follow)) (s_follow (c:=c2) (nm:=nm) (na:=na) (bg:=bg) (σ₁:=[]) (σ₂:=σ) hok hb100 hsz H2 hIs hIm h0 hI0 (by rw [hs2.n]; exact nle hn' hn)) fun (beg : Beg) (hw : WcOk tys bl I beg) => (⟨fun c3 hs3 => (x2 bg beg hw).run c3 (hs2.trans hs3)⟩ : XTo c2 (wcV t (bodV t nm na tys bl) (some (conV t (bodV t nm na tys bl) (folV tys.length) bg)) .none .none .none .none .none .none .none) ((bg,.dict (encB beg)) :: σ) ((bodyOf (stmtAt 31)).drop 2) (Ends Q))) Cx.Same.refl⟩
  exact ⟨{ news:=[(341016031,⟨Addr,fun Z => True,fun bg => ((conV t (bodV t nm na tys bl) (folV tys.length) bg),(bg,.dict (encB [(0,[])])) :: σ)⟩)],stops:=[342004022] },
    kc3 (callable_K (c:=c') H'.Constants.keep) (s_Constants (c:=c') (σ:=σ) (nm:=nm) (na:=na) (bl:=bl) hsz H' (nle hn' hn)) fun (bg : Addr) (_ : True) => x1 bg⟩
end
end
end
end Mine
end
section
set_option tactic.hygienic false
namespace Mine
noncomputable section
theorem ty_lo {n l : Nat} (h : l < n + 4) : (tysL n)[l]? = some .byte:=by
  unfold tysL
  rw [List.getElem?_append_left (by simpa using h),List.getElem?_replicate,if_pos h]
theorem ty_hi {n k : Nat} : (tysL n)[n + 4 + k]? = [Ty.bit,.bit,.pair][k]?:=by
  unfold tysL
  rw [List.getElem?_append_right (by simp),List.length_replicate,Nat.add_sub_cancel_left]
theorem constR_small {k : Int} : small (constR k):=by
  unfold constR
  generalize k.toNat = j
  match j with
  | 0 => exact ⟨by decide,by decide⟩
  | 1 => exact ⟨by decide,by decide⟩
  | 2 => exact ⟨by decide,by decide⟩
  | 3 => exact ⟨by decide,by decide⟩
  | 4 => exact ⟨by decide,by decide⟩
  | 5 => exact ⟨by decide,by decide⟩
  | j + 6 => exact ⟨by simp,by simp⟩
noncomputable def Opd.rd : Opd → Option Nat
  | .loc l => some l
  | .part l _ => some l
  | _ => Option.none
inductive OpdIs (numbers n : Nat) : Opd → Prop
  | num (k : Int) : OpdIs numbers n (.num (constR k))
  | loc (l : Nat) (h : l < n + 4) (h0 : numbers = 0 → 1 ≤ l ∧ l ≤ n) : OpdIs numbers n (.loc l)
  | part (h : numbers = 4) : OpdIs numbers n (.part (n + 6) false)
theorem opd_in {l n : Nat} (h0 : ¬ ((l + 1 : Nat) : Int) < 2) (h : ((l + 1 : Nat) : Int) < 2 + n) : 1 ≤ l ∧ l ≤ n:=
  ⟨Nat.le_of_succ_le_succ (Int.ofNat_le.mp (Int.not_lt.mp h0)),Nat.le_of_lt_succ (Nat.lt_of_succ_lt_succ (by rw [Nat.add_comm n]; exact Int.ofNat_lt.mp h : l + 1 < n + 2))⟩
theorem opd_four {l n : Nat} (h : ((l + 1 : Nat) : Int) < (2 + (4 : Nat) : Int) + n) (e : ¬ ((l + 1 : Nat) : Int) = 5 + n) : l < n + 4:=by
  have h : l + 1 < 6 + n:=Int.ofNat_lt.mp h
  have e : l + 1 ≠ 5 + n:=fun q => e (congrArg Int.ofNat q)
  have h : l + 1 < 5 + n:=Nat.lt_of_le_of_ne (Nat.le_of_lt_succ (by show l + 1 < 5 + n + 1; rw [Nat.add_right_comm]; exact h)) e
  rw [Nat.add_comm n]
  exact Nat.lt_of_succ_lt_succ (by show l + 1 < 4 + n + 1; rw [Nat.add_right_comm]; exact h)
theorem operand_is {numbers n : Nat} {s : Src} (hs : SOk s) (hm : numbers = 0 ∨ numbers = 4) : OpdIs numbers n (operandR numbers n s).1:=by
  obtain ⟨⟨h0,h1⟩,_⟩:=take_ok (top:=(2 + numbers : Int) + n) hs (Int.ofNat_le.mpr (Nat.le_trans (by decide : 1 ≤ 2) (Nat.le_trans (Nat.le_add_right 2 numbers) (Nat.le_add_right _ n))))
  unfold operandR
  dsimp only
  generalize takeR ((2 + numbers : Int) + n) s = w at h0 h1
  by_cases c1 : w.1 < 2
  · rw [if_pos c1]; exact .num _
  · rw [if_neg c1]
    have e:=natPred c1
    generalize (w.1 - 1).toNat = l at e
    have e : w.1 = ((l + 1 : Nat) : Int):=by rw [Int.natCast_add,← e]; exact (Int.sub_add_cancel _ _).symm
    rw [e] at c1 h1 ⊢
    by_cases c2 : ((l + 1 : Nat) : Int) < 2 + n
    · rw [if_pos c2]
      have b:=opd_in c1 c2
      exact .loc l (Nat.lt_of_le_of_lt b.2 (Nat.lt_add_of_pos_right (by decide))) fun Z => b
    · rw [if_neg c2]
      by_cases c3 : numbers = 4 ∧ ((l + 1 : Nat) : Int) = 5 + n
      · rw [if_pos c3]; exact .part c3.1
      · rw [if_neg c3]
        rcases hm with e | e
        · subst e; exact absurd h1 c2
        · subst e; exact .loc l (opd_four h1 fun q => c3 ⟨rfl,q⟩) fun e => nomatch e
theorem operand_ty {numbers n : Nat} {s : Src} (hs : SOk s) (hm : numbers = 0 ∨ numbers = 4) : Typed (tysL n) (operandR numbers n s).1 .byte ∧ (numbers = 0 → ∀ l,(operandR numbers n s).1.rd = some l → 1 ≤ l ∧ l ≤ n) ∧ ∀ l,(operandR numbers n s).1.rd = some l → l < n + 7:=by
  have h:=operand_is (n:=n) hs hm
  generalize (operandR numbers n s).1 = o at h
  cases h with
  | num k => exact ⟨⟨rfl,constR_small⟩,(fun Z l h => nomatch h),(fun l h => nomatch h)⟩
  | loc l h h0 => exact ⟨⟨ty_lo h,trivial⟩,fun e l' q => Option.some.inj q ▸ h0 e,fun l' q => Option.some.inj q ▸ Nat.lt_trans h (Nat.add_lt_add_left (by decide) n)⟩
  | part e => exact ⟨⟨by show (match (tysL n)[n + 4 + 2]? with | some .pair => _ | _ => _) = _; rw [ty_hi]; rfl,trivial⟩,fun e0 => absurd (e0.symm.trans e) (by decide),fun l' q => Option.some.inj q ▸ Nat.lt_succ_self _⟩
theorem truth_ty {n : Nat} {s : Src} (hs : SOk s) : Typed (tysL n) (truthR n s).1 .bit ∧ ∀ l,(truthR n s).1.rd = some l → l < n + 7:=by
  have h:=(pick_ok (l:=truthL n) (d:=.bit true) hs (by simp [truthL])).1
  show Typed (tysL n) (pickR (truthL n) (.bit true) s).1 .bit ∧ ∀ l,(pickR (truthL n) (.bit true) s).1.rd = some l → l < n + 7
  generalize (pickR (truthL n) (.bit true) s).1 = o at h
  simp only [truthL,List.mem_cons,List.not_mem_nil,or_false] at h
  rcases h with rfl | rfl | rfl | rfl
  · exact ⟨⟨ty_hi (k:=0),trivial⟩,fun l h => Option.some.inj h ▸ Nat.add_lt_add_left (by decide) n⟩
  · exact ⟨⟨ty_hi (k:=1),trivial⟩,fun l h => Option.some.inj h ▸ Nat.add_lt_add_left (by decide) n⟩
  · refine ⟨⟨?_,trivial⟩,fun l h => by cases h; exact Nat.le_refl _⟩
    show (match (tysL n)[n + 4 + 2]? with | some .pair => _ | _ => _) = _
    rw [ty_hi]; rfl
  · exact ⟨⟨rfl,trivial⟩,fun l h => nomatch h⟩
theorem stm_ty {n : Nat} {w : Int} {p : Pre} (h1 : Typed (tysL n) p.o1 .byte) (h2 : Typed (tysL n) p.o2 .byte) (hn : p.num < n + 4) (ht : p.tru = n + 4 ∨ p.tru = n + 5) (hs : SOk p.s) : ∀ s ∈ (stmR n w p).1,StmTy (tysL n) s:=by
  have tt : (tysL n)[p.tru]? = some .bit:=by
    rcases ht with e | e
    · rw [e]; exact ty_hi (k:=0)
    · rw [e]; exact ty_hi (k:=1)
  have tn : (tysL n)[p.num]? = some .byte:=ty_lo hn
  have tp : (tysL n)[n + 6]? = some .pair:=ty_hi (k:=2)
  have tr:=(truth_ty (n:=n) hs).1
  unfold stmR
  repeat' split
  all_goals
    intro s h
    simp only [List.mem_cons,List.not_mem_nil,or_false] at h
  · subst h; exact ⟨_,h1⟩
  · subst h; exact ⟨_,tn,.use h1⟩
  · subst h; exact ⟨_,tn,.ar h1 h2⟩
  · subst h; exact ⟨_,tp,.checked h1 h2⟩
  · subst h; exact ⟨_,tt,.cm h1 h2⟩
  · rcases h with rfl | rfl
    · refine ⟨_,tn,?_⟩
      unfold unV
      split
      · exact .invN h1
      · exact .neg h1
    · trivial
  · rcases h with rfl | rfl
    · exact ⟨_,tt,.invB tr⟩
    · exact ⟨_,tt,trivial⟩
  · rcases h with rfl | rfl
    · exact ⟨_,tn,.cast tr⟩
    · exact ⟨_,ty_lo (ule hn),.use h1⟩
theorem two_or {a x : Nat} (h : x < 2) : a + x = a ∨ a + x = a + 1:=(Nat.lt_succ_iff_lt_or_eq.mp h).elim (fun h => .inl (by rw [Nat.lt_one_iff.mp h]; rfl)) fun h => .inr (by rw [h])
theorem statement_ty {n : Nat} {s : Src} (hs : SOk s) : ∀ x ∈ (statementR n s).1,StmTy (tysL n) x:=by
  have hs0:=(take_ok (top:=8) hs (by decide)).2
  unfold statementR
  generalize takeR 8 s = w at hs0
  have a:=(operand_ty (numbers:=4) (n:=n) hs0 (.inr rfl)).1
  have sa:=operand_ok (numbers:=4) (n:=n) hs0 (.inr rfl)
  have b:=(operand_ty (numbers:=4) (n:=n) sa (.inr rfl)).1
  have sb:=operand_ok (numbers:=4) (n:=n) sa (.inr rfl)
  obtain ⟨⟨k0,k1⟩,sk⟩:=take_ok (top:=3) sb (by decide)
  obtain ⟨⟨j0,j1⟩,sj⟩:=take_ok (top:=2) sk (by decide)
  refine stm_ty (p:=preR n w.2) a b ?_ ?_ sj
  · exact Nat.add_lt_add_left ((Int.toNat_lt k0).mpr k1) (n + 1)
  · exact two_or ((Int.toNat_lt j0).mpr j1)
theorem stms_ty {n : Nat} : ∀ {k : Nat} {s : Src},SOk s → ∀ x ∈ (stmsR n k s).1,StmTy (tysL n) x
  | 0,_,_,x,h => nomatch h
  | k + 1,s,hs,x,h => by
    rcases List.mem_append.mp h with h | h
    · exact statement_ty hs x h
    · exact stms_ty (k:=k) (statement_ok hs).1 x h
theorem begA_ty {n : Nat} : ∀ {ls : List Nat} {s : Src},SOk s → (∀ l ∈ ls,l < n + 4) → ∀ x ∈ (begA n ls s).1,StmTy (tysL n) x
  | [],_,_,_,x,h => nomatch h
  | l :: ls,s,hs,hl,x,h => by
    rcases List.mem_cons.mp h with rfl | h
    · exact ⟨_,ty_lo (hl l (.head _)),.use (operand_ty hs (.inl rfl)).1⟩
    · exact begA_ty (ls:=ls) (operand_ok hs (.inl rfl)) (fun l h => hl l (.tail _ h)) x h
theorem begun_ty {n : Nat} {s : Src} (hs : SOk s) : ∀ x ∈ (begunR n s).1,StmTy (tysL n) x:=by
  intro x h
  rcases List.mem_cons.mp h with rfl | h
  · exact ⟨_,ty_lo (Nat.le_add_left _ _),.use ⟨rfl,by show small 7; exact ⟨by decide,by decide⟩⟩⟩
  · rcases List.mem_append.mp h with h | h
    · exact begA_ty hs (by simp) x h
    · rcases List.mem_append.mp h with h | h
      · rcases List.mem_cons.mp h with rfl | h
        · exact ⟨_,ty_hi (k:=0),.use ⟨rfl,trivial⟩⟩
        · rcases List.mem_cons.mp h with rfl | h
          · exact ⟨_,ty_hi (k:=1),.use ⟨rfl,trivial⟩⟩
          · cases h
      · rw [List.mem_singleton] at h
        subst h
        exact ⟨_,ty_hi (k:=2),.tuple ⟨rfl,by show small 3; exact ⟨by decide,by decide⟩⟩ ⟨rfl,trivial⟩⟩
theorem end_ty {n block many : Nat} {s : Src} (hs : SOk s) (hb : block < many) : TrmTy (tysL n) (endR n block many s).1 ∧ ∀ x ∈ (endR n block many s).1.told,block < x ∧ x < many:=by
  unfold endR
  split
  · have h:=(pick_ok (l:=trmL) (d:=.ret) hs (by decide)).1
    generalize (pickR trmL .ret s).1 = m at h
    simp only [trmL,List.mem_cons,List.not_mem_nil,or_false] at h
    rcases h with rfl | rfl | rfl <;> exact ⟨trivial,fun x hx => nomatch hx⟩
  · rename_i he
    have hs0:=(take_ok (top:=4) hs (by decide)).2
    generalize takeR 4 s = w at hs0
    have hlt:=Nat.lt_of_le_of_ne hb he
    obtain ⟨la,sa⟩:=later_ok (lo:=block + 1) (hi:=many) hs0 hlt
    obtain ⟨lb,sb⟩:=later_ok (lo:=block + 1) (hi:=many) sa hlt
    have tr:=(truth_ty (n:=n) sb).1
    have op:=(operand_ty (numbers:=4) (n:=n) sb (.inr rfl)).1
    have top : block < many - 1 ∧ many - 1 < many:=⟨Nat.lt_of_succ_lt_succ (by show block + 1 < many - 1 + 1; rw [Nat.sub_one_add_one (Nat.ne_of_gt (Nat.lt_of_le_of_lt (Nat.zero_le _) hb))]; exact hlt),Nat.sub_lt (Nat.lt_of_le_of_lt (Nat.zero_le _) hb) (by decide)⟩
    have one : ∀ x ∈ [(laterR (block + 1) many w.2).1],block < x ∧ x < many:=List.forall_mem_cons.mpr ⟨la,fun x h => nomatch h⟩
    unfold endW
    dsimp only
    repeat' split
    · exact ⟨trivial,one⟩
    · exact ⟨tr,List.forall_mem_cons.mpr ⟨la,List.forall_mem_cons.mpr ⟨lb,fun x h => nomatch h⟩⟩⟩
    · exact ⟨op,List.forall_mem_cons.mpr ⟨la,List.forall_mem_cons.mpr ⟨lb,List.forall_mem_cons.mpr ⟨top,fun x h => nomatch h⟩⟩⟩⟩
    · exact ⟨tr,one⟩
end
end Mine
end
section
namespace Mine
noncomputable section
noncomputable def Sub (kn env : Kn) : Prop:=∀ l v,kget kn l = some v → kget env l = some v
theorem atO_mono {kn env : Kn} (h : Sub kn env) {o : Opd} {v : Vl} (e : atO kn o = some v) : atO env o = some v:=by
  cases o with
  | num n => exact e
  | bit b => exact e
  | loc l => exact h _ _ e
  | part l k =>
    simp only [atO] at e ⊢
    split at e
    · rename_i i x e1
      rw [h _ _ e1]; exact e
    · cases e
theorem atO_put {kn env : Kn} (h : Sub kn env) (o : Opd) : atO env (putO kn o) = atO env o:=by
  unfold putO
  split
  · rfl
  · rfl
  · split
    · rename_i e; exact (atO_mono h e).symm
    · rename_i e; exact (atO_mono h e).symm
    · rfl
theorem valO_mono {kn env : Kn} (h : Sub kn env) {r : Rv} {v : Vl} (e : valO kn r = some v) : valO env r = some v:=by
  cases r with
  | use o => exact atO_mono h e
  | tuple a b =>
    simp only [valO] at e ⊢
    split at e
    · rename_i e1 e2; rw [atO_mono h e1,atO_mono h e2]; exact e
    · cases e
  | binary o a b =>
    cases o <;>
    · simp only [valO] at e ⊢
      split at e
      · rename_i e1 e2; rw [atO_mono h e1,atO_mono h e2]; exact e
      · cases e
  | checked o a b =>
    simp only [valO] at e ⊢
    split at e
    · rename_i e1 e2; rw [atO_mono h e1,atO_mono h e2]; exact e
    · cases e
  | inv a =>
    simp only [valO] at e ⊢
    split at e
    · rename_i e1; rw [atO_mono h e1]; exact e
    · rename_i e1; rw [atO_mono h e1]; exact e
    · cases e
  | neg a =>
    simp only [valO] at e ⊢
    split at e
    · rename_i e1; rw [atO_mono h e1]; exact e
    · cases e
  | cast a =>
    simp only [valO] at e ⊢
    split at e
    · rename_i e1; rw [atO_mono h e1]; exact e
    · cases e
theorem valO_map {kn env : Kn} (h : Sub kn env) (r : Rv) : valO env (r.map (putO kn)) = valO env r:=by
  cases r with
  | binary o a b => cases o <;> simp only [Rv.map,valO,atO_put h]
  | _ => simp only [Rv.map,valO,atO_put h]
theorem valO_put {kn env : Kn} (h : Sub kn env) (ty : Ty) (r : Rv) : valO env (putR kn ty r) = valO env r:=by
  unfold putR
  split
  · rename_i e; exact (valO_mono h e).symm
  · rename_i e; exact (valO_mono h e).symm
  · exact valO_map h r
theorem kget_kset {kn : Kn} {l m : Int} {o : Option Vl} : kget (kset kn l o) m = if m = l then o else kget kn m:=by
  have del : kget (kdel kn l) m = if m = l then Option.none else kget kn m:=by
    induction kn with
    | nil => show Option.none = _; split <;> rfl
    | cons p r ih =>
      unfold kdel at ih ⊢
      rw [List.filter_cons,kget_cons]
      by_cases hp : p.1 = l
      · have : decide (p.1 ≠ l) = false:=by simpa using hp
        simp only [this,Bool.false_eq_true,if_false]
        rw [ih]
        by_cases hm : m = l
        · simp [hm]
        · simp [hm,hp,Ne.symm hm]
      · have : decide (p.1 ≠ l) = true:=by simpa using hp
        simp only [this,if_true]
        rw [kget_cons,ih]
        by_cases hm : m = l
        · subst hm; simp [hp]
        · simp [hm]
  cases o with
  | none => exact del
  | some v =>
    show kget (kdel kn l ++ [(l,v)]) m = _
    have ap : ∀ (a : Kn),kget (a ++ [(l,v)]) m = (kget a m).or (if l = m then some v else Option.none):=fun a => by
      unfold kget
      rw [List.find?_append,List.find?_cons]
      by_cases h : l = m
      · cases a.find? (fun p => decide (p.1 = m)) <;> simp [h]
      · cases a.find? (fun p => decide (p.1 = m)) <;> simp [h]
    rw [ap,del]
    by_cases hm : m = l
    · subst hm; simp
    · rw [if_neg hm,if_neg hm,if_neg (Ne.symm hm),Option.or_none]
theorem stmG_put {tys : List Ty} {kn : Kn} {e e' : Run} {s : Stm} (h : Sub kn e.1) (he : stmG e s = some e') : stmG e (putS tys kn s) = some e' ∧ Sub (kstep kn s) e'.1:=by
  cases s with
  | asg l r =>
    obtain ⟨v,hv,rfl⟩:=Option.map_eq_some_iff.mp he
    refine ⟨?_,fun m w hw => ?_⟩
    · show (valO e.1 (putR kn _ r)).map _ = _
      rw [valO_put h,hv]; rfl
    · have hw : kget (kset kn l (valO kn r)) m = some w:=hw
      rw [kget_kset] at hw
      rw [kget_kput]
      split at hw
      · rename_i em
        rw [if_pos em]
        have:=valO_mono h hw
        rw [hv] at this; exact this
      · rename_i em
        rw [if_neg em]
        exact h _ _ hw
  | print o =>
    obtain ⟨v,hv,rfl⟩:=Option.map_eq_some_iff.mp he
    refine ⟨?_,h⟩
    show (atO e.1 (putO kn o)).map _ = _
    rw [atO_put h,hv]; rfl
  | nop => cases he; exact ⟨rfl,h⟩
theorem stmsG_put {tys : List Ty} : ∀ {ss : List Stm} {kn : Kn} {e e' : Run},Sub kn e.1 → stmsG ss e = some e' → stmsG (putB tys kn ss) e = some e' ∧ Sub (runK kn ss) e'.1
  | [],kn,e,e',h,he => by cases he; exact ⟨rfl,h⟩
  | s :: r,kn,e,e',h,he => by
    obtain ⟨e1,h1,h2⟩:=Option.bind_eq_some_iff.mp he
    obtain ⟨g1,g2⟩:=stmG_put (tys:=tys) h h1
    obtain ⟨g3,g4⟩:=stmsG_put (tys:=tys) g2 h2
    exact ⟨by show (stmG e (putS tys kn s)).bind _ = _; rw [g1]; exact g3,g4⟩
theorem nextT_put {kn env : Kn} (h : Sub kn env) (m : Trm) (ht : ktgt kn m = Option.none) : nextT env (putT kn m) = nextT env m:=by
  unfold putT
  rw [ht]
  cases m <;> simp only [nextT,atO_put h]
theorem ktgt_next {kn env : Kn} (h : Sub kn env) {m : Trm} {b : Nat} (ht : ktgt kn m = some b) : nextT env m = some (natV b):=by
  cases m with
  | ret => cases ht
  | panic => cases ht
  | goto y => cases ht
  | swB o x d =>
    simp only [ktgt] at ht
    split at ht
    · rename_i e; cases ht; simp only [nextT,atO_mono h e]
    · cases ht
  | sw1 o x d =>
    simp only [ktgt] at ht
    split at ht
    · rename_i e; cases ht; simp only [nextT,atO_mono h e]
    · cases ht
  | swN o x y d =>
    simp only [ktgt] at ht
    split at ht
    · rename_i e; cases ht; simp only [nextT,atO_mono h e]
    · cases ht
  | asrt o x =>
    simp only [ktgt] at ht
    split at ht
    · rename_i v e
      cases v with
      | true => cases ht
      | false => cases ht; simp only [nextT,atO_mono h e]; rfl
    · cases ht
theorem stepG_next {e : Run} {m : Trm} {b : Nat} (h : nextT e.1 m = some (natV b)) : stepG e m = some (.inr b):=by
  cases m with
  | ret => cases h
  | panic => cases h
  | _ => simp only [stepG,h]; rfl
theorem stepG_put {kn : Kn} {e : Run} {m : Trm} (h : Sub kn e.1) : stepG e (putT kn m) = stepG e m:=by
  cases ht : ktgt kn m with
  | some b =>
    rw [stepG_next (ktgt_next h ht)]
    unfold putT
    rw [ht]; rfl
  | none =>
    have:=nextT_put h m ht
    unfold putT at this ⊢
    rw [ht] at this ⊢
    cases m <;> simp only [stepG] at this ⊢ <;> rw [this]
theorem stepG_told {e : Run} {m : Trm} {b : Nat} (h : stepG e m = some (.inr b)) : b ∈ m.told:=by
  cases step_is h with
  | goes _ _ hb _ => exact hb
theorem stepG_gone {kn : Kn} {e : Run} {m : Trm} {b : Nat} (h : Sub kn e.1) (hs : stepG e m = some (.inr b)) : b ∈ gone kn m:=by
  unfold gone
  cases ht : ktgt kn m with
  | some x =>
    rw [stepG_next (ktgt_next h ht)] at hs
    cases hs; exact .head _
  | none => exact dedup_mem.mpr (.inr (stepG_told hs))
theorem found_at {tys : List Ty} {bl : List Blk} {beg : Beg} {i : Nat} : (foundB tys bl beg)[i]? = (bl[i]?).map (newB tys beg i):=by
  unfold foundB
  rw [List.getElem?_mapIdx]
theorem run_found {tys : List Ty} {bl : List Blk} {beg : Beg} (hD : ∀ m,DoneAt bl beg m) {v : V} : ∀ {f b : Nat} {e : Run} {kn : Kn},bget beg b = some kn → Sub kn e.1 → runG bl f b e = some v → runG (foundB tys bl beg) f b e = some v
  | 0,b,e,kn,_,_,h => h
  | f + 1,b,e,kn,hb,hsub,h => by
    obtain ⟨k,g1,h⟩:=Option.bind_eq_some_iff.mp h
    obtain ⟨e1,g2,h⟩:=Option.bind_eq_some_iff.mp h
    obtain ⟨r,g3,h⟩:=Option.bind_eq_some_iff.mp h
    obtain ⟨p1,p2⟩:=stmsG_put (tys:=tys) hsub g2
    show ((foundB tys bl beg)[b]?).bind _ = _
    rw [found_at,g1]
    show (stmsG (newB tys beg b k).1 e).bind _ = _
    have e1' : newB tys beg b k = (putB tys kn k.1,putT (runK kn k.1) k.2):=by unfold newB; rw [hb]
    rw [e1']
    show (stmsG (putB tys kn k.1) e).bind _ = _
    rw [p1]
    show (stepG e1 (putT (runK kn k.1) k.2)).bind _ = _
    rw [stepG_put p2,g3]
    cases r with
    | inl w => exact h
    | inr b' =>
      obtain ⟨k',q1,q2⟩:=hD b kn k hb g1 b' (stepG_gone p2 g3)
      exact run_found hD (f:=f) q1 (fun l v hl => p2 _ _ (q2 _ _ hl)) h
end
end Mine
end
section
set_option tactic.hygienic false
namespace Mine
noncomputable section
noncomputable def Reads (env : Kn) (o : Opd) : Prop:=∀ l,o.rd = some l → ∃ v,kget env l = some v
noncomputable def Full (tys : List Ty) (env : Kn) : Prop:=∀ l : Nat,l < tys.length → ∃ v,kget env l = some v
theorem rd_lt {tys : List Ty} {o : Opd} {ty : Ty} {l : Nat} (h : Typed tys o ty) (e : o.rd = some l) : l < tys.length:=by
  have h1:=h.1
  have some_lt : ∀ {t : Ty},tys[l]? = some t → l < tys.length:=fun {t} h => by
    rcases Nat.lt_or_ge l tys.length with g | g
    · exact g
    · rw [List.getElem?_eq_none g] at h; cases h
  cases o with
  | num n => cases e
  | bit b => cases e
  | loc m => cases e; exact some_lt h1
  | part m k =>
    cases e
    simp only [tyO] at h1
    split at h1
    · rename_i e1; exact some_lt e1
    · cases h1
theorem Full.reads {tys : List Ty} {env : Kn} {o : Opd} {ty : Ty} (h : Full tys env) (ho : Typed tys o ty) : Reads env o:=fun l e => h l (rd_lt ho e)
theorem atO_some {tys : List Ty} {env : Kn} {o : Opd} {ty : Ty} (hk : KnOk tys env) (ho : Typed tys o ty) (hr : Reads env o) : ∃ v,atO env o = some v ∧ ValTy v ty:=by
  have : ∃ v,atO env o = some v:=by
    cases o with
    | num n => exact ⟨_,rfl⟩
    | bit b => exact ⟨_,rfl⟩
    | loc l => exact hr l rfl
    | part l k =>
      obtain ⟨v,hv⟩:=hr l rfl
      obtain ⟨i,x,rfl⟩:=hk.part ho v hv
      (simp only [atO,hv]; exact ⟨_,rfl⟩)
  obtain ⟨v,hv⟩:=this
  exact ⟨v,hv,hk.at ho hv⟩
theorem valO_some {tys : List Ty} {env : Kn} {r : Rv} {ty : Ty} (hk : KnOk tys env) (hr : RvTy tys r ty) (h : ∀ o ∈ r.ops,Reads env o) : ∃ v,valO env r = some v:=by
  cases hr with
  | @use o ty ho =>
    obtain ⟨v,hv,_⟩:=atO_some hk ho (h o (.head _))
    exact ⟨v,hv⟩
  | @tuple a b ha hb =>
    obtain ⟨v,hv,t1⟩:=atO_some hk ha (h a (.head _))
    obtain ⟨w,hw,t2⟩:=atO_some hk hb (h b (.tail _ (.head _)))
    obtain ⟨i,rfl,_⟩:=t1.num
    obtain ⟨x,rfl⟩:=t2.bit
    (simp only [valO,hv,hw]; exact ⟨_,rfl⟩)
  | @ar o a b ha hb =>
    obtain ⟨v,hv,t1⟩:=atO_some hk ha (h a (.head _))
    obtain ⟨w,hw,t2⟩:=atO_some hk hb (h b (.tail _ (.head _)))
    obtain ⟨i,rfl,_⟩:=t1.num
    obtain ⟨x,rfl,_⟩:=t2.num
    (simp only [valO,hv,hw]; exact ⟨_,rfl⟩)
  | @cm o a b ha hb =>
    obtain ⟨v,hv,t1⟩:=atO_some hk ha (h a (.head _))
    obtain ⟨w,hw,t2⟩:=atO_some hk hb (h b (.tail _ (.head _)))
    obtain ⟨i,rfl,_⟩:=t1.num
    obtain ⟨x,rfl,_⟩:=t2.num
    (simp only [valO,hv,hw]; exact ⟨_,rfl⟩)
  | @checked o a b ha hb =>
    obtain ⟨v,hv,t1⟩:=atO_some hk ha (h a (.head _))
    obtain ⟨w,hw,t2⟩:=atO_some hk hb (h b (.tail _ (.head _)))
    obtain ⟨i,rfl,_⟩:=t1.num
    obtain ⟨x,rfl,_⟩:=t2.num
    (simp only [valO,hv,hw]; exact ⟨_,rfl⟩)
  | @invN a ha =>
    obtain ⟨v,hv,t1⟩:=atO_some hk ha (h a (.head _))
    obtain ⟨i,rfl,_⟩:=t1.num
    (simp only [valO,hv]; exact ⟨_,rfl⟩)
  | @invB a ha =>
    obtain ⟨v,hv,t1⟩:=atO_some hk ha (h a (.head _))
    obtain ⟨i,rfl⟩:=t1.bit
    (simp only [valO,hv]; exact ⟨_,rfl⟩)
  | @neg a ha =>
    obtain ⟨v,hv,t1⟩:=atO_some hk ha (h a (.head _))
    obtain ⟨i,rfl,_⟩:=t1.num
    (simp only [valO,hv]; exact ⟨_,rfl⟩)
  | @cast a ha =>
    obtain ⟨v,hv,t1⟩:=atO_some hk ha (h a (.head _))
    obtain ⟨i,rfl⟩:=t1.bit
    (simp only [valO,hv]; exact ⟨_,rfl⟩)
theorem stmG_some {tys : List Ty} {e : Run} {s : Stm} (hk : KnOk tys e.1) (hs : StmTy tys s) (h : ∀ o ∈ s.opds,Reads e.1 o) : ∃ e',stmG e s = some e' ∧ KnOk tys e'.1 ∧ (∀ m,(∃ v,kget e.1 m = some v) → ∃ v,kget e'.1 m = some v) ∧ ∀ (l : Nat) r,s = .asg l r → ∃ v,kget e'.1 l = some v:=by
  cases s with
  | asg l r =>
    obtain ⟨ty,ht,hr⟩:=hs
    obtain ⟨v,hv⟩:=valO_some hk hr h
    refine ⟨(kput e.1 l v,e.2),by simp only [stmG,hv,Option.map_some],hk.put ht (valO_ty hk hr hv),fun m hm => ?_,fun l' r' e' => ?_⟩
    · show ∃ w,kget (kput e.1 l v) m = some w
      rw [kget_kput]
      split
      · exact ⟨_,rfl⟩
      · exact hm
    · cases e'
      show ∃ w,kget (kput e.1 l v) l = some w
      rw [kget_kput,if_pos rfl]
      exact ⟨_,rfl⟩
  | print o =>
    obtain ⟨ty,ho⟩:=hs
    obtain ⟨v,hv,_⟩:=atO_some hk ho (h o (.head _))
    exact ⟨(e.1,e.2 ++ [v]),by simp only [stmG,hv,Option.map_some],hk,fun m hm => hm,fun l r e => nomatch e⟩
  | nop => exact ⟨e,rfl,hk,fun m hm => hm,fun l r e => nomatch e⟩
theorem StmTy.ops {tys : List Ty} {s : Stm} (h : StmTy tys s) : ∀ o ∈ s.opds,∃ ty,Typed tys o ty:=by
  cases s with
  | asg l r => obtain ⟨ty,_,hr⟩:=h; exact hr.ops
  | print o => intro o' ho; rw [Stm.opds,List.mem_singleton] at ho; subst ho; exact h
  | nop => intro o ho; cases ho
theorem stmsG_some {tys : List Ty} {P : Kn → Prop} (hP : ∀ kn kn',P kn → (∀ m,(∃ v,kget kn m = some v) → ∃ v,kget kn' m = some v) → P kn') {ok : Stm → Prop} (hok : ∀ s kn,P kn → ok s → ∀ o ∈ s.opds,Reads kn o) : ∀ {ss : List Stm} {e : Run},KnOk tys e.1 → P e.1 → (∀ s ∈ ss,StmTy tys s ∧ ok s) →
    ∃ e',stmsG ss e = some e' ∧ KnOk tys e'.1 ∧ P e'.1 ∧ (∀ m,(∃ v,kget e.1 m = some v) → ∃ v,kget e'.1 m = some v) ∧ ∀ (l : Nat) r,Stm.asg l r ∈ ss → ∃ v,kget e'.1 l = some v
  | [],e,hk,hp,_ => ⟨e,rfl,hk,hp,fun m h => h,fun l r h => nomatch h⟩
  | s :: r,e,hk,hp,h => by
    obtain ⟨h1,h2⟩:=h s (.head _)
    obtain ⟨e1,g1,g2,g3,g4⟩:=stmG_some hk h1 (hok s e.1 hp h2)
    obtain ⟨e2,f1,f2,f3,f4,f5⟩:=stmsG_some hP hok (ss:=r) g2 (hP _ _ hp g3) fun s hs => h s (.tail _ hs)
    refine ⟨e2,by show (stmG e s).bind _ = _; rw [g1]; exact f1,f2,f3,fun m hm => f4 m (g3 m hm),fun l x hl => ?_⟩
    rcases List.mem_cons.mp hl with e | hl
    · exact f4 _ (g4 l x e.symm)
    · exact f5 l x hl
theorem stmsG_full {tys : List Ty} {ss : List Stm} {e : Run} (hk : KnOk tys e.1) (hf : Full tys e.1) (h : ∀ s ∈ ss,StmTy tys s) : ∃ e',stmsG ss e = some e' ∧ KnOk tys e'.1 ∧ Full tys e'.1:=by
  obtain ⟨e',h1,h2,h3,_⟩:=stmsG_some (tys:=tys) (P:=Full tys) (ok:=fun s => StmTy tys s) (fun kn kn' h g l hl => g l (h l hl)) (fun s kn hp hs o ho => by
    obtain ⟨ty,ht⟩:=hs.ops o ho
    exact hp.reads ht) hk hf fun s hs => ⟨h s hs,h s hs⟩
  exact ⟨e',h1,h2,h3⟩
theorem nextT_some {tys : List Ty} {env : Kn} {m : Trm} (hk : KnOk tys env) (hf : Full tys env) (hm : TrmTy tys m) (h1 : m ≠ .ret) (h2 : m ≠ .panic) : ∃ v,nextT env m = some v:=by
  cases m with
  | ret => exact absurd rfl h1
  | panic => exact absurd rfl h2
  | goto b => exact ⟨_,rfl⟩
  | swB o x d =>
    obtain ⟨v,hv,t⟩:=atO_some hk hm (hf.reads hm)
    obtain ⟨b,rfl⟩:=t.bit
    (simp only [nextT,hv]; exact ⟨_,rfl⟩)
  | sw1 o x d =>
    obtain ⟨v,hv,t⟩:=atO_some hk hm (hf.reads hm)
    obtain ⟨b,rfl,_⟩:=t.num
    (simp only [nextT,hv]; exact ⟨_,rfl⟩)
  | swN o x y d =>
    obtain ⟨v,hv,t⟩:=atO_some hk hm (hf.reads hm)
    obtain ⟨b,rfl,_⟩:=t.num
    (simp only [nextT,hv]; exact ⟨_,rfl⟩)
  | asrt o x =>
    obtain ⟨v,hv,t⟩:=atO_some hk hm (hf.reads hm)
    obtain ⟨b,rfl⟩:=t.bit
    (simp only [nextT,hv]; exact ⟨_,rfl⟩)
theorem stepG_some {tys : List Ty} {e : Run} {m : Trm} (h0 : 0 < tys.length) (hk : KnOk tys e.1) (hf : Full tys e.1) (hm : TrmTy tys m) : ∃ r,stepG e m = some r:=by
  by_cases h1 : m = .ret
  · subst h1
    obtain ⟨v,hv⟩:=hf 0 h0
    (simp only [stepG,show kget e.1 0 = some v from hv,Option.map_some]; exact ⟨_,rfl⟩)
  · by_cases h2 : m = .panic
    · subst h2; exact ⟨_,rfl⟩
    · obtain ⟨v,hv⟩:=nextT_some hk hf hm h1 h2
      cases m with
      | ret => exact absurd rfl h1
      | panic => exact absurd rfl h2
      | _ =>
        simp only [stepG,hv,Option.bind_some]
        cases v.int? <;> exact ⟨_,rfl⟩
theorem runG_full {tys : List Ty} {bl : List Blk} (h0 : 0 < tys.length) (hok : BlOk tys bl) : ∀ {f b : Nat} {e : Run},KnOk tys e.1 → Full tys e.1 → b < bl.length → ∃ v,runG bl f b e = some v
  | 0,_,_,_,_,_ => ⟨_,rfl⟩
  | f + 1,b,e,hk,hf,hb => by
    obtain ⟨b1,b2,b3⟩:=hok b bl[b] (List.getElem?_eq_getElem hb)
    obtain ⟨e',g1,g2,g3⟩:=stmsG_full hk hf b1
    obtain ⟨r,hr⟩:=stepG_some h0 g2 g3 b2
    have e1 : runG bl (f + 1) b e = (stepG e' bl[b].2).bind fun r => match r with | .inl v => some v | .inr b => runG bl f b e':=by
      show (bl[b]?).bind _ = _
      rw [List.getElem?_eq_getElem hb]
      show (stmsG bl[b].1 e).bind _ = _
      rw [g1]; rfl
    rw [e1,hr]
    cases r with
    | inl v => exact ⟨v,rfl⟩
    | inr b' => exact runG_full h0 hok (f:=f) g2 g3 (stepG_lt b3 hr)
end
end Mine
end
section
set_option tactic.hygienic false
namespace Mine
noncomputable section
noncomputable def OpNP (tys : List Ty) (o : Opd) : Prop:=Typed tys o .byte ∨ Typed tys o .bit
noncomputable def StmNP (tys : List Ty) (s : Stm) : Prop:=∀ o ∈ s.opds,OpNP tys o
theorem np1 {tys : List Ty} {a : Opd} (ha : OpNP tys a) : ∀ o ∈ [a],OpNP tys o:=fun o h => by rw [List.mem_singleton] at h; exact h ▸ ha
theorem np2 {tys : List Ty} {a b : Opd} (ha : OpNP tys a) (hb : OpNP tys b) : ∀ o ∈ [a,b],OpNP tys o:=fun o h => by
  rcases List.mem_cons.mp h with e | h
  · exact e ▸ ha
  · exact np1 hb o h
theorem stm_np {n : Nat} {w : Int} {p : Pre} (h1 : OpNP (tysL n) p.o1) (h2 : OpNP (tysL n) p.o2) (ht : p.tru = n + 4 ∨ p.tru = n + 5) (hs : SOk p.s) : ∀ s ∈ (stmR n w p).1,StmNP (tysL n) s:=by
  have tr : OpNP (tysL n) (truthR n p.s).1:=.inr (truth_ty (n:=n) hs).1
  unfold stmR
  repeat' split
  all_goals
    intro s h
    simp only [List.mem_cons,List.not_mem_nil,or_false] at h
  · subst h; exact np1 h1
  · subst h; exact np1 h1
  · subst h; exact np2 h1 h2
  · subst h; exact np2 h1 h2
  · subst h; exact np2 h1 h2
  · rcases h with rfl | rfl
    · unfold unV
      split <;> exact np1 h1
    · intro o h; cases h
  · rcases h with rfl | rfl
    · exact np1 tr
    · refine np1 (.inr ⟨?_,trivial⟩)
      rcases ht with e | e
      · rw [e]; exact ty_hi (k:=0)
      · rw [e]; exact ty_hi (k:=1)
  · rcases h with rfl | rfl
    · exact np1 tr
    · exact np1 h1
theorem statement_np {n : Nat} {s : Src} (hs : SOk s) : ∀ x ∈ (statementR n s).1,StmNP (tysL n) x:=by
  have hs0:=(take_ok (top:=8) hs (by decide)).2
  unfold statementR
  generalize takeR 8 s = w at hs0
  have a:=(operand_ty (numbers:=4) (n:=n) hs0 (.inr rfl)).1
  have sa:=operand_ok (numbers:=4) (n:=n) hs0 (.inr rfl)
  have b:=(operand_ty (numbers:=4) (n:=n) sa (.inr rfl)).1
  have sb:=operand_ok (numbers:=4) (n:=n) sa (.inr rfl)
  obtain ⟨⟨k0,k1⟩,sk⟩:=take_ok (top:=3) sb (by decide)
  obtain ⟨⟨j0,j1⟩,sj⟩:=take_ok (top:=2) sk (by decide)
  refine stm_np (p:=preR n w.2) (.inl a) (.inl b) ?_ sj
  exact two_or ((Int.toNat_lt j0).mpr j1)
theorem stms_np {n : Nat} : ∀ {k : Nat} {s : Src},SOk s → ∀ x ∈ (stmsR n k s).1,StmNP (tysL n) x
  | 0,_,_,x,h => nomatch h
  | k + 1,s,hs,x,h => by
    rcases List.mem_append.mp h with h | h
    · exact statement_np hs x h
    · exact stms_np (k:=k) (statement_ok hs).1 x h
theorem begA_np {n : Nat} : ∀ {ls : List Nat} {s : Src},SOk s → ∀ x ∈ (begA n ls s).1,StmNP (tysL n) x ∧ ∀ o ∈ x.opds,∀ l,o.rd = some l → 1 ≤ l ∧ l ≤ n
  | [],_,_,x,h => nomatch h
  | l :: ls,s,hs,x,h => by
    have t:=operand_ty (numbers:=0) (n:=n) hs (.inl rfl)
    rcases List.mem_cons.mp h with rfl | h
    · refine ⟨np1 (.inl t.1),fun o ho => ?_⟩
      have ho : o ∈ [(operandR 0 n s).1]:=ho
      rw [List.mem_singleton] at ho
      subst ho
      exact t.2.1 rfl
    · exact begA_np (ls:=ls) (operand_ok hs (.inl rfl)) x h
theorem begun_np {n : Nat} {s : Src} (hs : SOk s) : ∀ x ∈ (begunR n s).1,StmNP (tysL n) x ∧ ∀ o ∈ x.opds,∀ l,o.rd = some l → 1 ≤ l ∧ l ≤ n:=by
  intro x h
  have cst : ∀ {o : Opd} {ty : Ty},Typed (tysL n) o ty → (ty = .byte ∨ ty = .bit) → o.rd = Option.none → (∀ o' ∈ [o],OpNP (tysL n) o') ∧ ∀ o' ∈ [o],∀ l,o'.rd = some l → 1 ≤ l ∧ l ≤ n:=fun {o ty} h e1 e2 => by
    refine ⟨np1 (by rcases e1 with rfl | rfl; exact .inl h; exact .inr h),fun o' ho l hl => ?_⟩
    rw [List.mem_singleton] at ho
    subst ho
    rw [e2] at hl; cases hl
  rcases List.mem_cons.mp h with rfl | h
  · exact cst (o:=.num 7) ⟨rfl,by show small 7; exact ⟨by decide,by decide⟩⟩ (.inl rfl) rfl
  · rcases List.mem_append.mp h with h | h
    · exact begA_np hs x h
    · rcases List.mem_append.mp h with h | h
      · rcases List.mem_cons.mp h with rfl | h
        · exact cst (o:=.bit _) ⟨rfl,trivial⟩ (.inr rfl) rfl
        · rcases List.mem_cons.mp h with rfl | h
          · exact cst (o:=.bit _) ⟨rfl,trivial⟩ (.inr rfl) rfl
          · cases h
      · rw [List.mem_singleton] at h
        subst h
        refine ⟨np2 (.inl ⟨rfl,by show small 3; exact ⟨by decide,by decide⟩⟩) (.inr ⟨rfl,trivial⟩),fun o ho l hl => ?_⟩
        have ho : o ∈ [Opd.num 3,Opd.bit false]:=ho
        rcases List.mem_cons.mp ho with rfl | ho
        · cases hl
        · rw [List.mem_singleton] at ho
          subst ho; cases hl
theorem begA_has {n : Nat} : ∀ {ls : List Nat} {s : Src} {l : Nat},l ∈ ls → ∃ r,Stm.asg l r ∈ (begA n ls s).1
  | m :: ls,s,l,h => by
    rcases List.mem_cons.mp h with rfl | h
    · exact ⟨_,.head _⟩
    · obtain ⟨r,hr⟩:=begA_has (n:=n) (ls:=ls) (s:=(operandR 0 n s).2) h
      exact ⟨r,.tail _ hr⟩
theorem begun_has {n : Nat} {s : Src} {l : Nat} (h : l < n + 7) (h' : ¬ (1 ≤ l ∧ l ≤ n)) : ∃ r,Stm.asg l r ∈ (begunR n s).1:=by
  have a:=fun (hl : l ∈ [n + 1,n + 2,n + 3]) => let ⟨r,hr⟩:=begA_has (n:=n) (ls:=[n + 1,n + 2,n + 3]) (s:=s) (l:=l) hl; (⟨r,.tail _ (List.mem_append_left _ hr)⟩ : ∃ r,Stm.asg l r ∈ (begunR n s).1)
  rcases Nat.lt_succ_iff_lt_or_eq.mp h with h | rfl
  · rcases Nat.lt_succ_iff_lt_or_eq.mp h with h | rfl
    · rcases Nat.lt_succ_iff_lt_or_eq.mp h with h | rfl
      · rcases Nat.lt_succ_iff_lt_or_eq.mp h with h | rfl
        · rcases Nat.lt_succ_iff_lt_or_eq.mp h with h | rfl
          · rcases Nat.lt_succ_iff_lt_or_eq.mp h with h | rfl
            · by_cases h0 : l = 0
              · subst h0; exact ⟨_,.head _⟩
              · exact absurd ⟨Nat.pos_of_ne_zero h0,Nat.le_of_lt_succ h⟩ h'
            · exact a (.head _)
          · exact a (.tail _ (.head _))
        · exact a (.tail _ (.tail _ (.head _)))
      · exact ⟨_,.tail _ (List.mem_append_right _ (List.mem_append_left _ (.head _)))⟩
    · exact ⟨_,.tail _ (List.mem_append_right _ (List.mem_append_left _ (.tail _ (.head _))))⟩
  · exact ⟨_,.tail _ (List.mem_append_right _ (List.mem_append_right _ (.head _)))⟩
theorem blksR_len {n many : Nat} : ∀ {bs : List Nat} {s : Src},(blksR n many bs s).1.length = bs.length
  | [],_ => rfl
  | b :: bs,s => by show (blksR n many bs _).1.length + 1 = _; rw [blksR_len]; rfl
theorem blksR_at {n many : Nat} : ∀ {bs : List Nat} {s : Src},SOk s → (∀ b ∈ bs,b < many) → ∀ {i : Nat} {k : Blk},(blksR n many bs s).1[i]? = some k → ∃ b s',bs[i]? = some b ∧ SOk s' ∧ k = (blkR n b many s').1
  | [],s,_,_,i,k,h => by cases i <;> cases h
  | b :: bs,s,hs,hb,0,k,h => by cases h; exact ⟨b,s,rfl,hs,rfl⟩
  | b :: bs,s,hs,hb,i + 1,k,h => by
    obtain ⟨b',s',h1,h2,h3⟩:=blksR_at (bs:=bs) (blk_ok hs (hb b (.head _))) (fun x hx => hb x (.tail _ hx)) (i:=i) (k:=k) h
    exact ⟨b',s',h1,h2,h3⟩
structure GenBlk (n i many : Nat) (k : Blk) : Prop where
  ty : ∀ s ∈ k.1,StmTy (tysL n) s
  np : ∀ s ∈ k.1,StmNP (tysL n) s
  tm : TrmTy (tysL n) k.2
  told : ∀ x ∈ k.2.told,i < x ∧ x < many
  len : k.1.length ≤ 15
  first : i = 0 → ∃ s ss,SOk s ∧ k.1 = (begunR n s).1 ++ ss
theorem stms_len {n : Nat} : ∀ {k : Nat} {s : Src},SOk s → (stmsR n k s).1.length ≤ 2 * k
  | 0,_,_ => Nat.le_refl 0
  | k + 1,s,hs => by
    have h:=statement_ok (n:=n) hs
    have:=stms_len (n:=n) (k:=k) h.1
    show ((statementR n s).1 ++ _).length ≤ _
    rw [List.length_append]
    have:=h.2
    omega
theorem blk_gen {n i many : Nat} {s : Src} (hs : SOk s) (hi : i < many) : GenBlk n i many (blkR n i many s).1:=by
  have hm:=made_ok (n:=n) (block:=i) hs
  obtain ⟨⟨h0,h1⟩,h2⟩:=take_ok (top:=5) hm (by decide)
  have ht:=turns_ok (n:=n) (m:=madeR n i s) hm
  have e:=end_ty (n:=n) ht hi
  have sp : ∀ x ∈ (blkR n i many s).1.1,x ∈ (madeR n i s).1 ∨ x ∈ (stmsR n (takeR 5 (madeR n i s).2).1.toNat (takeR 5 (madeR n i s).2).2).1:=fun x h => List.mem_append.mp h
  have mt : ∀ x ∈ (madeR n i s).1,StmTy (tysL n) x ∧ StmNP (tysL n) x:=by
    unfold madeR
    split
    · exact fun x hx => ⟨begun_ty hs x hx,(begun_np hs x hx).1⟩
    · exact fun x hx => nomatch hx
  refine ⟨fun x hx => ?_,fun x hx => ?_,e.1,e.2,?_,fun h => ?_⟩
  · rcases sp x hx with h | h
    · exact (mt x h).1
    · exact stms_ty h2 x h
  · rcases sp x hx with h | h
    · exact (mt x h).2
    · exact stms_np h2 x h
  · show ((madeR n i s).1 ++ (stmsR n (takeR 5 (madeR n i s).2).1.toNat (takeR 5 (madeR n i s).2).2).1).length ≤ 15
    rw [List.length_append]
    have a:=made_len (n:=n) (block:=i) (s:=s)
    have b:=stms_len (n:=n) (k:=(takeR 5 (madeR n i s).2).1.toNat) h2
    omega
  · subst h
    exact ⟨s,_,hs,rfl⟩
structure GenOk (n : Nat) (bl : List Blk) : Prop where
  pos : 0 < bl.length
  len : bl.length ≤ 10
  blk : ∀ i k,bl[i]? = some k → GenBlk n i bl.length k
theorem body_gen {n : Nat} {s : Src} (hs : SOk s) : GenOk n (bodyR n s).1:=by
  obtain ⟨⟨h0,h1⟩,h2⟩:=take_ok (top:=4) hs (by decide)
  have hm : manyR s ≤ 10:=by unfold manyR; omega
  have hp : 0 < manyR s:=by unfold manyR; exact Nat.le_add_right _ _
  have hl : (bodyR n s).1.length = manyR s:=by unfold bodyR; rw [blksR_len,List.length_range]
  refine ⟨by rw [hl]; exact hp,by rw [hl]; exact hm,fun i k hk => ?_⟩
  obtain ⟨b,s',g1,g2,g3⟩:=blksR_at h2 (fun b hb => List.mem_range.mp hb) hk
  rw [hl]
  have hi : i < manyR s:=by
    rcases Nat.lt_or_ge i (manyR s) with h | h
    · exact h
    · rw [List.getElem?_eq_none (by rw [List.length_range]; exact h)] at g1; cases g1
  rw [List.getElem?_range hi] at g1
  cases g1
  subst g3
  exact blk_gen g2 hi
theorem GenOk.bl {n : Nat} {bl : List Blk} (h : GenOk n bl) : BlOk (tysL n) bl:=fun i k hk => ⟨(h.blk i k hk).ty,(h.blk i k hk).tm,fun x hx => ((h.blk i k hk).told x hx).2⟩
end
end Mine
end
section
namespace Mine
noncomputable section
theorem put_typed {tys : List Ty} {kn : Kn} {o : Opd} {ty : Ty} (hk : KnOk tys kn) (ho : Typed tys o ty) : Typed tys (putO kn o) ty:=by
  unfold putO
  split
  · exact ho
  · exact ho
  · split
    · rename_i i e
      have t:=hk.at ho e
      cases ty with
      | byte => exact ⟨rfl,t⟩
      | bit => exact False.elim t
      | pair => exact False.elim t
    · rename_i x e
      have t:=hk.at ho e
      cases ty with
      | byte => exact False.elim t
      | bit => exact ⟨rfl,trivial⟩
      | pair => exact False.elim t
    · exact ho
theorem map_typed {tys : List Ty} {kn : Kn} {r : Rv} {ty : Ty} (hk : KnOk tys kn) (hr : RvTy tys r ty) : RvTy tys (r.map (putO kn)) ty:=by
  cases hr with
  | use ho => exact .use (put_typed hk ho)
  | tuple ha hb => exact .tuple (put_typed hk ha) (put_typed hk hb)
  | ar ha hb => exact .ar (put_typed hk ha) (put_typed hk hb)
  | cm ha hb => exact .cm (put_typed hk ha) (put_typed hk hb)
  | checked ha hb => exact .checked (put_typed hk ha) (put_typed hk hb)
  | invN ha => exact .invN (put_typed hk ha)
  | invB ha => exact .invB (put_typed hk ha)
  | neg ha => exact .neg (put_typed hk ha)
  | cast ha => exact .cast (put_typed hk ha)
theorem putR_typed {tys : List Ty} {kn : Kn} {r : Rv} {ty : Ty} (hk : KnOk tys kn) (hr : RvTy tys r ty) : RvTy tys (putR kn ty r) ty:=by
  unfold putR
  split
  · rename_i e; exact .use ⟨rfl,valO_ty hk hr e⟩
  · exact .use ⟨rfl,trivial⟩
  · exact map_typed hk hr
theorem putS_typed {tys : List Ty} {kn : Kn} {s : Stm} (hk : KnOk tys kn) (hs : StmTy tys s) : StmTy tys (putS tys kn s):=by
  cases s with
  | asg l r =>
    obtain ⟨ty,ht,hr⟩:=hs
    refine ⟨ty,ht,?_⟩
    rw [ht]
    exact putR_typed hk hr
  | print o => obtain ⟨ty,ho⟩:=hs; exact ⟨ty,put_typed hk ho⟩
  | nop => trivial
theorem putB_typed {tys : List Ty} : ∀ {ss : List Stm} {kn : Kn},KnWf tys kn → (∀ s ∈ ss,StmTy tys s) → ∀ s ∈ putB tys kn ss,StmTy tys s
  | [],_,_,_,s,h => nomatch h
  | x :: r,kn,hk,hs,s,h => by
    rcases List.mem_cons.mp h with rfl | h
    · exact putS_typed hk.ok (hs x (.head _))
    · exact putB_typed (hk.step (hs x (.head _))) (fun y hy => hs y (.tail _ hy)) s h
theorem putB_len {tys : List Ty} : ∀ {ss : List Stm} {kn : Kn},(putB tys kn ss).length = ss.length
  | [],_ => rfl
  | x :: r,kn => by show (putB tys _ r).length + 1 = _; rw [putB_len]; rfl
theorem ktgt_told {kn : Kn} {m : Trm} {b : Nat} (h : ktgt kn m = some b) : b ∈ m.told:=gone_told (kn:=kn) (by unfold gone; rw [h]; exact .head _)
theorem putT_typed {tys : List Ty} {kn : Kn} {m : Trm} (hk : KnOk tys kn) (hm : TrmTy tys m) : TrmTy tys (putT kn m) ∧ ∀ x ∈ (putT kn m).told,x ∈ m.told:=by
  unfold putT
  split
  · rename_i b h
    refine ⟨trivial,fun x hx => ?_⟩
    rw [Trm.told,List.mem_singleton] at hx
    subst hx
    exact ktgt_told h
  · cases m with
    | swB o x d => exact ⟨put_typed hk hm,fun x hx => hx⟩
    | sw1 o x d => exact ⟨put_typed hk hm,fun x hx => hx⟩
    | swN o x y d => exact ⟨put_typed hk hm,fun x hx => hx⟩
    | asrt o x => exact ⟨put_typed hk hm,fun x hx => hx⟩
    | _ => exact ⟨hm,fun x hx => hx⟩
theorem found_len {tys : List Ty} {bl : List Blk} {beg : Beg} : (foundB tys bl beg).length = bl.length:=by
  unfold foundB; rw [List.length_mapIdx]
theorem found_ok {tys : List Ty} {bl : List Blk} {beg : Beg} (hok : BlOk tys bl) (hF : FolOk tys bl beg) : BlOk tys (foundB tys bl beg):=by
  intro i k hk
  rw [found_at] at hk
  obtain ⟨b,hb,rfl⟩:=Option.map_eq_some_iff.mp hk
  obtain ⟨h1,h2,h3⟩:=hok i b hb
  rw [found_len]
  unfold newB
  split
  · rename_i kn e
    have w:=hF.wf _ _ e
    have t:=putT_typed (w.run h1).ok h2
    exact ⟨putB_typed w h1,t.1,fun x hx => h3 x (t.2 x hx)⟩
  · exact ⟨h1,h2,h3⟩
theorem found_lens {tys : List Ty} {bl : List Blk} {beg : Beg} {N : Nat} (h : ∀ b ∈ bl,b.1.length ≤ N) : ∀ b ∈ foundB tys bl beg,b.1.length ≤ N:=by
  intro b hb
  obtain ⟨i,hi⟩:=List.getElem?_of_mem hb
  rw [found_at] at hi
  obtain ⟨k,hk,rfl⟩:=Option.map_eq_some_iff.mp hi
  have:=h k (List.mem_of_getElem? hk)
  unfold newB
  split
  · show (putB tys _ k.1).length ≤ N; rw [putB_len]; exact this
  · exact this
structure Told (n : Nat) (vs : List Vl) : Prop where
  len : vs.length = n
  num : ∀ v ∈ vs,∃ i,v = .n i ∧ small i
theorem args_get {vs : List Vl} {i : Nat} {v : Vl} (h : vs[i]? = some v) : kget (argsK vs) ((i : Int) + 1) = some v:=by
  refine kget_of (kn:=argsK vs) args_nodup (p:=((i : Int) + 1,v)) ?_
  refine List.mem_of_getElem? (i:=i) ?_
  unfold argsK
  rw [List.getElem?_mapIdx,h]; rfl
theorem args_ok {n : Nat} {vs : List Vl} (h : Told n vs) : KnOk (tysL n) (argsK vs) ∧ ∀ l : Nat,1 ≤ l ∧ l ≤ n → ∃ v,kget (argsK vs) l = some v:=by
  refine ⟨fun l v hv => ?_,fun l hl => ?_⟩
  · have hm:=kget_mem hv
    obtain ⟨i,hi⟩:=List.getElem?_of_mem hm
    unfold argsK at hi
    rw [List.getElem?_mapIdx] at hi
    obtain ⟨w,hw,e⟩:=Option.map_eq_some_iff.mp hi
    cases e
    have hlt : i < n:=by
      rw [← h.len]
      rcases Nat.lt_or_ge i vs.length with g | g
      · exact g
      · rw [List.getElem?_eq_none g] at hw; cases hw
    obtain ⟨j,rfl,hj⟩:=h.num _ (List.mem_of_getElem? hw)
    exact ⟨i + 1,.byte,rfl,ty_lo (by omega),hj⟩
  · have hlt : l - 1 < vs.length:=by rw [h.len]; omega
    have:=args_get (List.getElem?_eq_getElem hlt)
    rw [show ((l - 1 : Nat) : Int) + 1 = (l : Int) by omega] at this
    exact ⟨_,this⟩
theorem stmsG_app : ∀ {a b : List Stm} {e : Run},stmsG (a ++ b) e = (stmsG a e).bind (stmsG b)
  | [],b,e => rfl
  | s :: a,b,e => by
    show (stmG e s).bind (stmsG (a ++ b)) = ((stmG e s).bind (stmsG a)).bind (stmsG b)
    cases stmG e s with
    | none => rfl
    | some e1 => exact stmsG_app (a:=a)
theorem first_run {n many : Nat} {k : Blk} {vs : List Vl} (h : GenBlk n 0 many k) (hv : Told n vs) : ∃ e',stmsG k.1 (argsK vs,[]) = some e' ∧ KnOk (tysL n) e'.1 ∧ Full (tysL n) e'.1:=by
  obtain ⟨s,ss,hs,e⟩:=h.first rfl
  have a:=args_ok hv
  obtain ⟨e1,h1,h2,h3,h4,h5⟩:=stmsG_some (tys:=tysL n) (P:=fun kn => ∀ l : Nat,1 ≤ l ∧ l ≤ n → ∃ v,kget kn l = some v) (ok:=fun s => ∀ o ∈ s.opds,∀ l,o.rd = some l → 1 ≤ l ∧ l ≤ n)
    (fun kn kn' h g l hl => g l (h l hl)) (fun s kn hp hs o ho l hl => hp l (hs o ho l hl)) (ss:=(begunR n s).1) (e:=(argsK vs,[])) a.1 a.2 fun x hx => ⟨begun_ty hs x hx,(begun_np hs x hx).2⟩
  have hf : Full (tysL n) e1.1:=fun l hl => by
    rw [tysL_len] at hl
    by_cases hr : 1 ≤ l ∧ l ≤ n
    · exact h3 l hr
    · obtain ⟨r,hr⟩:=begun_has (s:=s) hl hr
      exact h5 l r hr
  obtain ⟨e2,g1,g2,g3⟩:=stmsG_full (ss:=ss) h2 hf fun x hx => h.ty x (by rw [e]; exact List.mem_append_right _ hx)
  exact ⟨e2,by rw [e,stmsG_app,h1]; exact g1,g2,g3⟩
theorem run_some {n : Nat} {bl : List Blk} {vs : List Vl} (h : GenOk n bl) (hv : Told n vs) (f : Nat) : ∃ v,runG bl f 0 (argsK vs,[]) = some v:=by
  cases f with
  | zero => exact ⟨_,rfl⟩
  | succ f =>
    obtain ⟨k,hb⟩ : ∃ k,bl[0]? = some k:=⟨_,List.getElem?_eq_getElem h.pos⟩
    obtain ⟨e',g1,g2,g3⟩:=first_run (h.blk 0 _ hb) hv
    obtain ⟨b1,b2,b3⟩:=h.bl 0 _ hb
    obtain ⟨r,hr⟩:=stepG_some (by rw [tysL_len]; exact Nat.le_add_left _ _) g2 g3 b2
    have e1 : runG bl (f + 1) 0 (argsK vs,[]) = (stepG e' k.2).bind fun r => match r with | .inl v => some v | .inr b => runG bl f b e':=by
      show (bl[0]?).bind _ = _
      rw [hb]
      show (stmsG k.1 _).bind _ = _
      rw [g1]; rfl
    rw [e1,hr]
    cases r with
    | inl v => exact ⟨v,rfl⟩
    | inr b' => exact runG_full (by rw [tysL_len]; exact Nat.le_add_left _ _) h.bl (f:=f) g2 g3 (stepG_lt b3 hr)
end
end Mine
end
section
namespace Mine
noncomputable section
theorem vlEq_refl (v : Vl) : vlEq v v = true:=by
  cases v <;> simp [vlEq,Vl.py,PyData.eqv,PyData.eqvAll]
theorem keep_self {tys : List Ty} {kn : Kn} (h : KnWf tys kn) : kn.filter (keepOf kn) = kn:=by
  rw [List.filter_eq_self]
  intro p hp
  unfold keepOf
  rw [kget_of h.nodup hp]
  exact vlEq_refl _
theorem putO_cst {tys : List Ty} {kn : Kn} {o : Opd} (hk : KnOk tys kn) (ho : OpNP tys o) (hr : Reads kn o) : (putO kn o).cst = true:=by
  have : ∃ v ty,(ty = Ty.byte ∨ ty = Ty.bit) ∧ atO kn o = some v ∧ ValTy v ty:=by
    rcases ho with ho | ho
    · obtain ⟨v,h1,h2⟩:=atO_some hk ho hr
      exact ⟨v,_,.inl rfl,h1,h2⟩
    · obtain ⟨v,h1,h2⟩:=atO_some hk ho hr
      exact ⟨v,_,.inr rfl,h1,h2⟩
  obtain ⟨v,ty,ht,hv,hvt⟩:=this
  unfold putO
  split
  · rfl
  · rfl
  · rw [hv]
    cases v with
    | n i => rfl
    | b x => rfl
    | p i x => rcases ht with rfl | rfl <;> exact False.elim hvt
theorem map_ops {f : Opd → Opd} {r : Rv} : (r.map f).ops = r.ops.map f:=by cases r <;> rfl
theorem putS_cst {tys : List Ty} {kn : Kn} {s : Stm} (hk : KnOk tys kn) (hn : StmNP tys s) (hr : ∀ o ∈ s.opds,Reads kn o) : ∀ o ∈ (putS tys kn s).opds,o.cst = true:=by
  cases s with
  | asg l r =>
    intro o ho
    have ho : o ∈ (putR kn ((tys[l]?).getD .pair) r).ops:=ho
    unfold putR at ho
    split at ho
    · rw [Rv.ops,List.mem_singleton] at ho; subst ho; rfl
    · rw [Rv.ops,List.mem_singleton] at ho; subst ho; rfl
    · rw [map_ops] at ho
      obtain ⟨o',h1,rfl⟩:=List.mem_map.mp ho
      exact putO_cst hk (hn o' h1) (hr o' h1)
  | print o =>
    intro o' ho
    have ho : o' ∈ [putO kn o]:=ho
    rw [List.mem_singleton] at ho; subst ho
    exact putO_cst hk (hn o (.head _)) (hr o (.head _))
  | nop => intro o ho; cases ho
theorem kstep_grow {tys : List Ty} {kn : Kn} {s : Stm} (hk : KnOk tys kn) (hs : StmTy tys s) (hr : ∀ o ∈ s.opds,Reads kn o) : (∀ m,(∃ v,kget kn m = some v) → ∃ v,kget (kstep kn s) m = some v) ∧ ∀ (l : Nat) r,s = .asg l r → ∃ v,kget (kstep kn s) l = some v:=by
  cases s with
  | asg l r =>
    obtain ⟨ty,ht,hrt⟩:=hs
    obtain ⟨v,hv⟩:=valO_some hk hrt hr
    have e : kstep kn (.asg l r) = kset kn l (some v):=by show kset kn l (valO kn r) = _; rw [hv]
    rw [e]
    refine ⟨fun m hm => ?_,fun l' r' e' => ?_⟩
    · rw [kget_kset]
      split
      · exact ⟨_,rfl⟩
      · exact hm
    · cases e'
      rw [kget_kset,if_pos rfl]
      exact ⟨_,rfl⟩
  | print o => exact ⟨fun m h => h,fun l r e => nomatch e⟩
  | nop => exact ⟨fun m h => h,fun l r e => nomatch e⟩
theorem runK_some {tys : List Ty} {P : Kn → Prop} (hP : ∀ kn kn',P kn → (∀ m,(∃ v,kget kn m = some v) → ∃ v,kget kn' m = some v) → P kn') {ok : Stm → Prop} (hok : ∀ s kn,P kn → ok s → ∀ o ∈ s.opds,Reads kn o) : ∀ {ss : List Stm} {kn : Kn},KnWf tys kn → P kn → (∀ s ∈ ss,StmTy tys s ∧ StmNP tys s ∧ ok s) →
    (∀ s ∈ putB tys kn ss,∀ o ∈ s.opds,o.cst = true) ∧ P (runK kn ss) ∧ (∀ m,(∃ v,kget kn m = some v) → ∃ v,kget (runK kn ss) m = some v) ∧ ∀ (l : Nat) r,Stm.asg l r ∈ ss → ∃ v,kget (runK kn ss) l = some v
  | [],kn,hk,hp,_ => ⟨(fun s h => nomatch h),hp,(fun m h => h),(fun l r h => nomatch h)⟩
  | s :: r,kn,hk,hp,h => by
    obtain ⟨h1,h2,h3⟩:=h s (.head _)
    have rd:=hok s kn hp h3
    obtain ⟨g1,g2⟩:=kstep_grow hk.ok h1 rd
    obtain ⟨f1,f2,f3,f4⟩:=runK_some hP hok (ss:=r) (hk.step h1) (hP _ _ hp g1) fun s hs => h s (.tail _ hs)
    refine ⟨fun x hx => ?_,f2,fun m hm => f3 m (g1 m hm),fun l x hl => ?_⟩
    · rcases List.mem_cons.mp hx with rfl | hx
      · exact putS_cst hk.ok h2 rd
      · exact f1 x hx
    · rcases List.mem_cons.mp hl with e | hl
      · exact f3 _ (g2 l x e.symm)
      · exact f4 l x hl
theorem runK_full {tys : List Ty} {ss : List Stm} {kn : Kn} (hk : KnWf tys kn) (hf : Full tys kn) (h : ∀ s ∈ ss,StmTy tys s ∧ StmNP tys s) : (∀ s ∈ putB tys kn ss,∀ o ∈ s.opds,o.cst = true) ∧ Full tys (runK kn ss):=by
  obtain ⟨h1,h2,_⟩:=runK_some (tys:=tys) (P:=Full tys) (ok:=fun s => StmTy tys s) (fun kn kn' h g l hl => g l (h l hl)) (fun s kn hp hs o ho => by
    obtain ⟨ty,ht⟩:=hs.ops o ho
    exact hp.reads ht) hk hf fun s hs => ⟨(h s hs).1,(h s hs).2,(h s hs).1⟩
  exact ⟨h1,h2⟩
theorem runK_app : ∀ {a b : List Stm} {kn : Kn},runK kn (a ++ b) = runK (runK kn a) b
  | [],_,_ => rfl
  | s :: a,b,kn => runK_app (a:=a)
theorem putB_app {tys : List Ty} : ∀ {a b : List Stm} {kn : Kn},putB tys kn (a ++ b) = putB tys kn a ++ putB tys (runK kn a) b
  | [],_,_ => rfl
  | s :: a,b,kn => congrArg (putS tys kn s :: ·) (putB_app (a:=a))
noncomputable def Known0 (b : Nat) (kn : Kn) : Prop:=KnWf (tysL 0) kn ∧ (Full (tysL 0) kn ∨ (b = 0 ∧ kn = []))
theorem known_blk {b many : Nat} {k : Blk} {kn : Kn} (h : Known0 b kn) (hb : GenBlk 0 b many k) : (∀ s ∈ putB (tysL 0) kn k.1,∀ o ∈ s.opds,o.cst = true) ∧ Full (tysL 0) (runK kn k.1) ∧ KnWf (tysL 0) (runK kn k.1):=by
  obtain ⟨hw,hf⟩:=h
  rcases hf with hf | ⟨rfl,rfl⟩
  · have:=runK_full hw hf fun s hs => ⟨hb.ty s hs,hb.np s hs⟩
    exact ⟨this.1,this.2,hw.run hb.ty⟩
  · obtain ⟨s,ss,hs,e⟩:=hb.first rfl
    have A:=runK_some (tys:=tysL 0) (P:=fun Z => True) (ok:=fun s => ∀ o ∈ s.opds,∀ l,o.rd = some l → 1 ≤ l ∧ l ≤ 0) (fun Z Z Z Z => trivial) (fun s kn Z hs o ho l hl => by have:=hs o ho l hl; omega) (ss:=(begunR 0 s).1) hw trivial fun x hx => ⟨begun_ty hs x hx,begun_np hs x hx⟩
    have hf : Full (tysL 0) (runK [] (begunR 0 s).1):=fun l hl => by
      rw [tysL_len] at hl
      obtain ⟨r,hr⟩:=begun_has (s:=s) hl (by omega)
      exact A.2.2.2 l r hr
    have hw':=hw.run (begun_ty (n:=0) hs)
    have hty:=hb.ty
    have hnp:=hb.np
    rw [e] at hty hnp ⊢
    have B:=runK_full (ss:=ss) hw' hf fun s hs => ⟨hty s (List.mem_append_right _ hs),hnp s (List.mem_append_right _ hs)⟩
    rw [putB_app,runK_app]
    refine ⟨fun s hs => ?_,B.2,hw'.run fun s hs => hty s (List.mem_append_right _ hs)⟩
    rcases List.mem_append.mp hs with h | h
    · exact A.1 s h
    · exact B.1 s h
theorem gone_one {tys : List Ty} {kn : Kn} {m : Trm} {x : Nat} (hk : KnOk tys kn) (hf : Full tys kn) (hm : TrmTy tys m) (h : x ∈ gone kn m) : gone kn m = [x]:=by
  have one : ∀ {l : List Nat} {y : Nat},l = [y] → x ∈ l → l = [x]:=fun e h => by subst e; rw [List.mem_singleton] at h; rw [h]
  cases m with
  | ret => exact absurd h (by simp [gone,ktgt,Trm.succ,Trm.told,dedup])
  | panic => exact absurd h (by simp [gone,ktgt,Trm.succ,Trm.told,dedup])
  | goto b => exact one (y:=b) (by simp [gone,ktgt,Trm.succ,Trm.told,dedup]) h
  | swB o y d =>
    obtain ⟨v,hv,t⟩:=atO_some hk hm (hf.reads hm)
    obtain ⟨b,rfl⟩:=t.bit
    exact one (y:=if b then d else y) (by simp [gone,ktgt,hv]) h
  | sw1 o y d =>
    obtain ⟨v,hv,t⟩:=atO_some hk hm (hf.reads hm)
    obtain ⟨i,rfl,_⟩:=t.num
    exact one (y:=if i = 0 then y else d) (by simp [gone,ktgt,hv]) h
  | swN o y z d =>
    obtain ⟨v,hv,t⟩:=atO_some hk hm (hf.reads hm)
    obtain ⟨i,rfl,_⟩:=t.num
    exact one (y:=if i = 0 then y else if i = 255 then z else d) (by simp [gone,ktgt,hv]) h
  | asrt o y =>
    obtain ⟨v,hv,t⟩:=atO_some hk hm (hf.reads hm)
    obtain ⟨b,rfl⟩:=t.bit
    cases b
    · exact one (y:=y) (by simp [gone,ktgt,hv]) h
    · exact one (y:=y) (by simp [gone,ktgt,hv,Trm.succ,Trm.told,dedup]) h
theorem put_plain {tys : List Ty} {kn : Kn} {m : Trm} (hk : KnOk tys kn) (hf : Full tys kn) (hm : TrmTy tys m) : match putT kn m with | .swB .. => False | .sw1 .. => False | .swN .. => False | .asrt o _ => o.cst = true | _ => True:=by
  cases m with
  | ret => exact trivial
  | panic => exact trivial
  | goto b => exact trivial
  | swB o y d =>
    obtain ⟨v,hv,t⟩:=atO_some hk hm (hf.reads hm)
    obtain ⟨b,rfl⟩:=t.bit
    simp [putT,ktgt,hv]
  | sw1 o y d =>
    obtain ⟨v,hv,t⟩:=atO_some hk hm (hf.reads hm)
    obtain ⟨i,rfl,_⟩:=t.num
    simp [putT,ktgt,hv]
  | swN o y z d =>
    obtain ⟨v,hv,t⟩:=atO_some hk hm (hf.reads hm)
    obtain ⟨i,rfl,_⟩:=t.num
    simp [putT,ktgt,hv]
  | asrt o y =>
    obtain ⟨v,hv,t⟩:=atO_some hk hm (hf.reads hm)
    obtain ⟨b,rfl⟩:=t.bit
    cases b
    · simp [putT,ktgt,hv]
    · have:=putO_cst hk (.inr hm) (hf.reads hm)
      simpa [putT,ktgt,hv] using this
noncomputable def kpath (bl : List Blk) : Nat → Option (Nat × Kn)
  | 0 => some (0,[])
  | i + 1 => (kpath bl i).bind fun p => (bl[p.1]?).bind fun k => match gone (runK p.2 k.1) k.2 with
    | [x] => some (x,runK p.2 k.1)
    | _ => Option.none
theorem kpath_succ {bl : List Blk} {i : Nat} {b : Nat} {kn : Kn} (h : kpath bl (i + 1) = some (b,kn)) : ∃ a ka k,kpath bl i = some (a,ka) ∧ bl[a]? = some k ∧ gone (runK ka k.1) k.2 = [b] ∧ kn = runK ka k.1:=by
  obtain ⟨p,h1,h2⟩:=Option.bind_eq_some_iff.mp h
  obtain ⟨k,h3,h4⟩:=Option.bind_eq_some_iff.mp h2
  split at h4
  · rename_i x e
    cases h4
    exact ⟨p.1,p.2,k,h1,h3,e,rfl⟩
  · cases h4
section
variable {bl : List Blk} (h : GenOk 0 bl)
include h
theorem kpath_known : ∀ {i b : Nat} {kn : Kn},kpath bl i = some (b,kn) → Known0 b kn
  | 0,b,kn,e => by cases e; exact ⟨KnWf.nil,.inr ⟨rfl,rfl⟩⟩
  | i + 1,b,kn,e => by
    obtain ⟨a,ka,k,h1,h2,h3,rfl⟩:=kpath_succ e
    have:=known_blk (kpath_known h1) (h.blk a k h2)
    exact ⟨this.2.2,.inl this.2.1⟩
theorem kpath_less {i a b : Nat} {ka kb : Kn} (e1 : kpath bl i = some (a,ka)) (e2 : kpath bl (i + 1) = some (b,kb)) : a < b:=by
  obtain ⟨a',ka',k,h1,h2,h3,_⟩:=kpath_succ e2
  rw [e1] at h1
  cases h1
  exact ((h.blk a k h2).told b (gone_told (kn:=runK ka k.1) (by rw [h3]; exact .head _))).1
theorem kpath_far : ∀ {d i a b : Nat} {ka kb : Kn},kpath bl i = some (a,ka) → kpath bl (i + (d + 1)) = some (b,kb) → a < b
  | 0,i,a,b,ka,kb,e1,e2 => kpath_less h e1 e2
  | d + 1,i,a,b,ka,kb,e1,e2 => by
    obtain ⟨a',ka',k,h1,_⟩:=kpath_succ (i:=i + (d + 1)) e2
    exact Nat.lt_trans (kpath_far e1 h1) (kpath_less h h1 e2)
theorem kpath_uniq {i j b : Nat} {ka kb : Kn} (e1 : kpath bl i = some (b,ka)) (e2 : kpath bl j = some (b,kb)) : ka = kb:=by
  rcases Nat.lt_trichotomy i j with g | g | g
  · obtain ⟨d,rfl⟩:=Nat.exists_eq_add_of_lt g
    exact absurd (kpath_far h (d:=d) e1 (by rw [show i + (d + 1) = i + d + 1 by exact rfl]; exact e2)) (Nat.lt_irrefl _)
  · subst g; rw [e1] at e2; cases e2; rfl
  · obtain ⟨d,rfl⟩:=Nat.exists_eq_add_of_lt g
    exact absurd (kpath_far h (d:=d) e2 (by rw [show j + (d + 1) = j + d + 1 by exact rfl]; exact e1)) (Nat.lt_irrefl _)
theorem inv0_step {n : Nat} {kn : Kn} {b : Blk} (hI : ∃ i a,((n : Nat) : Int) = ((a : Nat) : Int) ∧ kpath bl i = some (a,kn)) (hb : bl[n]? = some b) : ∀ x ∈ gone (runK kn b.1) b.2,∃ i a,((x : Nat) : Int) = ((a : Nat) : Int) ∧ kpath bl i = some (a,runK kn b.1):=by
  intro x hx
  obtain ⟨i,a,e,hp⟩:=hI
  obtain rfl : n = a:=by omega
  have g:=h.blk n b hb
  have kb:=known_blk (kpath_known h hp) g
  refine ⟨i + 1,x,rfl,?_⟩
  show (kpath bl i).bind _ = _
  rw [hp]
  show (bl[n]?).bind _ = _
  rw [hb]
  show (match gone (runK kn b.1) b.2 with | [x] => some (x,runK kn b.1) | _ => Option.none) = _
  rw [gone_one kb.2.2.ok kb.2.1 g.tm hx]
theorem plain_found {beg : Beg} (hF : FolOk (tysL 0) bl beg) (hD : ∀ m,DoneAt bl beg m) (hI : ∀ m k,bget beg m = some k → ∃ i a,m = ((a : Nat) : Int) ∧ kpath bl i = some (a,k)) : PlainOn (foundB (tysL 0) bl beg) fun n => ∃ kn,bget beg (n : Int) = some kn:=by
  refine ⟨⟨_,hF.zero⟩,?_⟩
  rintro n ⟨kn,hkn⟩
  obtain ⟨m,e,hlt⟩:=hF.rng _ _ hkn
  obtain rfl : n = m:=by omega
  obtain ⟨i,a,e,hp⟩:=hI _ _ hkn
  obtain rfl : n = a:=by omega
  have hb:=List.getElem?_eq_getElem hlt
  generalize bl[n] = k at hb
  have g:=h.blk n k hb
  have kb:=known_blk (kpath_known h hp) g
  have en : newB (tysL 0) beg n k = (putB (tysL 0) kn k.1,putT (runK kn k.1) k.2):=by unfold newB; rw [hkn]
  refine ⟨newB (tysL 0) beg n k,by rw [found_at,hb]; rfl,?_,?_⟩
  · rw [en]
    exact ⟨kb.1,put_plain kb.2.2.ok kb.2.1 g.tm⟩
  · rw [en]
    intro y hy
    have hy : y ∈ wayOf (putB (tysL 0) kn k.1,putT (runK kn k.1) k.2):=hy
    have hg : y ∈ gone (runK kn k.1) k.2:=by
      unfold wayOf at hy
      split at hy
      · rename_i z ez
        rw [List.mem_singleton] at hy
        subst hy
        have ez : putT (runK kn k.1) k.2 = .goto y:=ez
        unfold putT at ez
        unfold gone
        cases et : ktgt (runK kn k.1) k.2 with
        | some t => rw [et] at ez; cases ez; exact .head _
        | none =>
          rw [et] at ez
          dsimp only at ez ⊢
          generalize k.2 = m at ez
          cases m with
          | goto w => cases ez; simp [Trm.succ,Trm.told,dedup]
          | _ => cases ez
      · cases hy
    obtain ⟨k',q1,_⟩:=hD n kn k hkn hb y hg
    exact ⟨⟨k',q1⟩,(g.told y (gone_told hg)).1⟩
end
end
end Mine
end
section
set_option tactic.hygienic false
namespace Mine
noncomputable section
noncomputable def tysG : List Ty:=[.byte,.byte,.byte]
noncomputable def blG : List Blk:=[([.asg 0 (.use (.num 0))],.sw1 (.loc 1) 1 2),([.asg 2 (.use (.num 1))],.goto 3),([.asg 2 (.use (.num 2))],.goto 3),([.print (.loc 2),.print (.loc 0)],.ret)]
theorem blG_at {i : Nat} {b : Blk} (h : blG[i]? = some b) : (i = 0 ∧ b = ([.asg 0 (.use (.num 0))],.sw1 (.loc 1) 1 2)) ∨ (i = 1 ∧ b = ([.asg 2 (.use (.num 1))],.goto 3)) ∨ (i = 2 ∧ b = ([.asg 2 (.use (.num 2))],.goto 3)) ∨ (i = 3 ∧ b = ([.print (.loc 2),.print (.loc 0)],.ret)):=by
  match i with
  | 0 => cases h; exact .inl ⟨rfl,rfl⟩
  | 1 => cases h; exact .inr (.inl ⟨rfl,rfl⟩)
  | 2 => cases h; exact .inr (.inr (.inl ⟨rfl,rfl⟩))
  | 3 => cases h; exact .inr (.inr (.inr ⟨rfl,rfl⟩))
  | i + 4 => cases h
theorem small012 {i : Int} (h : i = 0 ∨ i = 1 ∨ i = 2) : small i:=by rcases h with rfl | rfl | rfl <;> exact ⟨by decide,by decide⟩
theorem blG_ok : BlOk tysG blG:=by
  intro i b h
  rcases blG_at h with ⟨rfl,rfl⟩ | ⟨rfl,rfl⟩ | ⟨rfl,rfl⟩ | ⟨rfl,rfl⟩
  · refine ⟨fun s hs => ?_,⟨rfl,trivial⟩,fun x hx => ?_⟩
    · rw [List.mem_singleton] at hs; subst hs; exact ⟨.byte,rfl,.use ⟨rfl,small012 (.inl rfl)⟩⟩
    · simp only [Trm.told,List.mem_cons,List.not_mem_nil,or_false] at hx
      show x < 4; omega
  · refine ⟨fun s hs => ?_,trivial,fun x hx => ?_⟩
    · rw [List.mem_singleton] at hs; subst hs; exact ⟨.byte,rfl,.use ⟨rfl,small012 (.inr (.inl rfl))⟩⟩
    · simp only [Trm.told,List.mem_cons,List.not_mem_nil,or_false] at hx
      show x < 4; omega
  · refine ⟨fun s hs => ?_,trivial,fun x hx => ?_⟩
    · rw [List.mem_singleton] at hs; subst hs; exact ⟨.byte,rfl,.use ⟨rfl,small012 (.inr (.inr rfl))⟩⟩
    · simp only [Trm.told,List.mem_cons,List.not_mem_nil,or_false] at hx
      show x < 4; omega
  · refine ⟨fun s hs => ?_,trivial,fun x hx => nomatch hx⟩
    rcases List.mem_cons.mp hs with rfl | hs
    · exact ⟨.byte,rfl,trivial⟩
    · rw [List.mem_singleton] at hs; subst hs; exact ⟨.byte,rfl,trivial⟩
noncomputable def InvG (n : Int) (kn : Kn) : Prop:=kget kn 1 = Option.none ∧ (1 ≤ n → kget kn 0 = some (.n 0))
theorem invG_zero : InvG 0 []:=⟨rfl,fun h => absurd h (by decide)⟩
theorem invG_run {n : Nat} {kn : Kn} {b : Blk} (hI : InvG n kn) (hb : blG[n]? = some b) : kget (runK kn b.1) 1 = Option.none ∧ (n ≤ 2 → kget (runK kn b.1) 0 = some (.n 0)):=by
  have e : ∀ (k l : Int) (o : Option Vl),kget (kset kn l o) k = if k = l then o else kget kn k:=fun k l o => kget_kset
  rcases blG_at hb with ⟨rfl,rfl⟩ | ⟨rfl,rfl⟩ | ⟨rfl,rfl⟩ | ⟨rfl,rfl⟩
  · refine ⟨(e 1 0 (some (.n 0))).trans ?_,fun Z => (e 0 0 (some (.n 0))).trans rfl⟩
    exact hI.1
  · exact ⟨(e 1 2 (some (.n 1))).trans hI.1,fun Z => (e 0 2 (some (.n 1))).trans (hI.2 (by decide))⟩
  · exact ⟨(e 1 2 (some (.n 2))).trans hI.1,fun Z => (e 0 2 (some (.n 2))).trans (hI.2 (by decide))⟩
  · exact ⟨hI.1,fun h => absurd h (by decide)⟩
theorem invG_step {n : Nat} {kn : Kn} {b : Blk} (hI : InvG n kn) (hb : blG[n]? = some b) : ∀ x ∈ gone (runK kn b.1) b.2,InvG (x : Int) (runK kn b.1):=by
  intro x hx
  have h:=invG_run hI hb
  refine ⟨h.1,fun Z => h.2 ?_⟩
  have:=gone_told hx
  rcases blG_at hb with ⟨rfl,rfl⟩ | ⟨rfl,rfl⟩ | ⟨rfl,rfl⟩ | ⟨rfl,rfl⟩
  · decide
  · decide
  · decide
  · cases this
theorem filter_get {kn : Kn} {p : Int × Vl → Bool} {l : Int} {v : Vl} (h1 : kget kn l = some v) (h2 : p (l,v) = true) : kget (kn.filter p) l = some v:=by
  induction kn with
  | nil => cases h1
  | cons q r ih =>
    rw [kget_cons] at h1
    by_cases e : q.1 = l
    · rw [if_pos e] at h1
      cases h1
      have : q = (l,q.2):=by rw [← e]
      rw [List.filter_cons,if_pos (by rw [this]; exact h2),kget_cons,if_pos e]
    · rw [if_neg e] at h1
      rw [List.filter_cons]
      split
      · rw [kget_cons,if_neg e]; exact ih h1
      · exact ih h1
theorem invG_meet {x : Int} {here kn : Kn} (w1 : KnWf tysG here) (w2 : KnWf tysG kn) (h1 : InvG x here) (h2 : InvG x kn) : InvG x (here.filter (keepOf kn)):=by
  refine ⟨?_,fun hx => ?_⟩
  · cases e : kget (here.filter (keepOf kn)) 1 with
    | none => rfl
    | some v =>
      have:=(keep_less w1 w2 e).2
      rw [h1.1] at this; cases this
  · refine filter_get (h1.2 hx) ?_
    unfold keepOf
    simp only [h2.2 hx]
    rfl
theorem found_G {beg : Beg} (hF : FolOk tysG blG beg) (hD : ∀ m,DoneAt blG beg m) (hI : ∀ m k,bget beg m = some k → InvG m k) : (foundB tysG blG beg)[3]? = some ([.print (.loc 2),.print (.num 0)],.ret):=by
  have e : ∀ (kn : Kn) (k l : Int) (o : Option Vl),kget (kset kn l o) k = if k = l then o else kget kn k:=fun kn k l o => kget_kset
  have g0 : gone (runK [] [.asg 0 (.use (.num 0))]) (.sw1 (.loc 1) 1 2) = [1,2]:=rfl
  obtain ⟨k1,a1,_⟩:=hD 0 [] _ hF.zero rfl 1 (by rw [g0]; exact .head _)
  obtain ⟨k2,a2,_⟩:=hD 0 [] _ hF.zero rfl 2 (by rw [g0]; exact .tail _ (.head _))
  obtain ⟨k3,a3,b1⟩:=hD 1 k1 _ a1 rfl 3 (.head _)
  obtain ⟨k3',a3',b2⟩:=hD 2 k2 _ a2 rfl 3 (.head _)
  obtain rfl : k3 = k3':=Option.some.inj (a3.symm.trans a3')
  have n2 : kget k3 2 = Option.none:=by
    cases h : kget k3 2 with
    | none => rfl
    | some v =>
      have c1:=b1 _ _ h
      have c2:=b2 _ _ h
      have c1 : kget (kset k1 2 (some (.n 1))) 2 = some v:=c1
      have c2 : kget (kset k2 2 (some (.n 2))) 2 = some v:=c2
      rw [e,if_pos rfl] at c1 c2
      rw [← c1] at c2
      cases c2
  have n0 : kget k3 0 = some (.n 0):=(hI _ _ a3).2 (by decide)
  rw [found_at]
  show some (newB tysG beg 3 _) = _
  have a3 : bget beg ((3 : Nat) : Int) = some k3:=a3
  unfold newB
  rw [a3]
  have p2 : putO k3 (.loc 2) = .loc 2:=by
    show (match kget k3 ((2 : Nat) : Int) with | some (.n i) => Opd.num i | some (.b x) => Opd.bit x | _ => Opd.loc 2) = _
    rw [show ((2 : Nat) : Int) = 2 from rfl,n2]
  have p0 : putO k3 (.loc 0) = .num 0:=by
    show (match kget k3 ((0 : Nat) : Int) with | some (.n i) => Opd.num i | some (.b x) => Opd.bit x | _ => Opd.loc 0) = _
    rw [show ((0 : Nat) : Int) = 0 from rfl,n0]
  show some ([Stm.print (putO k3 (.loc 2)),Stm.print (putO k3 (.loc 0))],putT k3 .ret) = _
  rw [p2,p0]; rfl
noncomputable def outG (j : Int) : V:=.tup [.tup [.str "done",.int 0],.list [.int j,.int 0]]
theorem run_G {beg : Beg} (hF : FolOk tysG blG beg) (hD : ∀ m,DoneAt blG beg m) (x : Bool) : runG (foundB tysG blG beg) 5 0 (argsK [.n (if x then 9 else 0)],[]) = some (outG (if x then 2 else 1)):=
  run_found hD hF.zero (fun Z Z h => nomatch h) (by cases x <;> rfl)
end
end Mine
end
section
set_option tactic.hygienic false
namespace Mine
noncomputable section
theorem wDropPostT {c : Cx} {t : Sem Value} {ρ : Vars} {σ : Sto} {Q : V → Sto → Prop} (h : WT c t ρ σ fun d σ' => ∃ p σ₂,σ' = p :: σ₂ ∧ Q d σ₂) : WT c t ρ σ Q:=fun τ s R X hR =>
  h τ s R X fun v d σ' s' q X' => by
    obtain ⟨p,σ₂,rfl,q⟩:=q
    exact hR v d σ₂ s' q (St.drop (σ₁:=[]) X')
theorem CmTo.neSame {c : Cx} {σ : Sto} {d : V} {x : PyData} (h : d.py = some x) (hs : SeqAt.shaped x = true) (e : PyData.eqv x x = true) : CmTo c σ .NotEq d d (.bool false):=
  ⟨fun c' hs' ρ Q q => oNeR (Rd.data h) (Rd.data h) hs hs (by rw [e]; exact q)⟩
theorem CmTo.eqSame {c : Cx} {σ : Sto} {d : V} {x : PyData} (h : d.py = some x) (hs : SeqAt.shaped x = true) (e : PyData.eqv x x = true) : CmTo c σ .Eq d d (.bool true):=
  ⟨fun c' hs' ρ Q q => oEqR (Rd.data h) (Rd.data h) hs hs (by rw [e]; exact q)⟩
theorem Binds.of0 {K : Frag} {params : Arguments} {body : List Stmt} {scope : Scope} {dV : Value} {ps : List Str} (h : ∀ (name qual : Str) (kV doc pm : Value) (an : Option Addr) (cdv ct : Value),bindArgs (fnOf name qual params body scope dV kV doc pm an cdv ct) ⟨[],[]⟩ = pure (ps.zip [])) : Binds K params body scope dV ps 0:=by
  intro name qual kV doc pm an cdv ct s vs _ hl
  exact List.eq_nil_of_length_eq_zero hl ▸ BindsTo.of_eq (h name qual kV doc pm an cdv ct)
section
variable {t : Tab} {c : Cx} {σ : Sto}
noncomputable def rowG : V:=.tup [byteV,.bool true,.none]
noncomputable def mulE : Expr:=callArg 2 ((bodyOf (stmtAt 49))[1]?.getD (.Pass ⟨0,0,0,0⟩))
theorem x_mul {ρ : Vars} (hb : Loads ρ "byte" byteV) : ExTo c ρ σ mulE (.list [rowG,rowG,rowG]) σ:=⟨fun c' hs Q q => by
  show WT c' (eval (.BinOp (.List [.Tuple [_,_,_] _ _] _) _ _ _) c'.env) ρ σ Q
  refine wDropPostT (wBin (wListM (lCons (wTuple (lCons (wName hb (lCons (wBool (lCons (wNone (lNil ⟨(by decide : 3 ≤ sizeLine),lNil ⟨(by decide : 1 ≤ sizeLine),fun N => ?_⟩⟩)) rfl)) rfl)) rfl)) rfl)))
  exact wInt (oMulListM (ds:=[rowG]) (k:=3) (.head _) (by decide) (by decide) (by decide) ⟨_,_,rfl,q⟩)⟩
noncomputable abbrev mgV (t : Tab) (D : Addr) (o1 o2 o3 o4 o5 : Option V) : Vars:=[("byte",.own (some byteV)),("body",.own (some (bodR t "g" 1 [rowG,rowG,rowG] D))),("goes",.own o1),("x",.own o2),("asks",.own o3),("number",.own o4),("found",.own o5),("Body",.ro (.raw (.ref t.Body))),("with_constants",.ro (.raw (.ref t.with_constants)))]
noncomputable def retL : Stmt → Expr
  | .Return (some (.Compare a _ _ _)) _ => a
  | _ => .Constant .none 0 ⟨0,0,0,0⟩
noncomputable def runsE : Expr:=retL ((bodyOf (stmtAt 49))[9]?.getD (.Pass ⟨0,0,0,0⟩))
theorem args1_ok {i : Int} (h : small i) : KnOk tysG (argsK [.n i]):=fun l v hv => by
  have hv : kget [((1 : Int),Vl.n i)] l = some v:=hv
  rw [kget_cons] at hv
  split at hv
  · rename_i e
    cases hv
    exact ⟨1,.byte,e.symm,rfl,h⟩
  · cases hv
theorem x_runs {ρ : Vars} {fd : List Blk} (hcomp : c.comp = Option.none) (hsc : c.env.scope = scopeOf (stmtAt 49)) (hf : (("found" : Str),Slot.own (some (bodV t "g" 1 tysG fd))) ∈ ρ) (hok : BlOk tysG fd) (hl : fd.length = 4) (hst : ∀ b ∈ fd,b.1.length ≤ 100) (hr : ∀ x : Bool,runG fd 5 0 (argsK [.n (if x then 9 else 0)],[]) = some (outG (if x then 2 else 1))) (H : Has t c) (hn : 4 ≤ c.n) :
    ExTo c ρ σ runsE (.list [.list [.int 1,.int 0],.list [.int 2,.int 0]]) σ:=⟨fun c' hs Q q => by
  have H':=H.like hs.like
  have hcomp' : c'.comp = Option.none:=hs.comp.trans hcomp
  have hsc' : c'.env.scope = scopeOf (stmtAt 49):=by rw [hs.env]; exact hsc
  have hn' : 4 ≤ c'.n:=by rw [hs.n]; exact hn
  show WT c' (eval (.ListComp _ [⟨_,_,[],0⟩] _ _) c'.env) ρ σ Q
  refine wFreezeL (wListComp (scopeOf (stmtAt 49)) ["one"] [("found",bodV t "g" 1 tysG fd)] [("_law_run",.raw (.ref t.l_run))] hcomp' hsc' (CompOk.of (fv:=["found"]) (gn:=["_law_run"]) (by decide +kernel)) (fvCons (.inl hf) fvNil) (gcons (gF H'.l_run.1) gnil) (fun Z => rfl) (wtAt (O:={}) (d':=.list [.int 0,.int 9]) (σ':=σ) (kc1 (AtV.rf (d:=.list [.int 0,.int 9]) (σ:=σ))) (itrAnd rfl ?_)))
  intro c2 hl2 hn2 D2
  have H2:=H'.like hl2
  have k1 : Callable c2 (.ref t.l_run):=callable_K H2.l_run.2.keep
  refine CGo.run (fun x : Bool => V.int (if x then 9 else 0)) (fun x : Bool => V.list [.int (if x then 2 else 1),.int 0]) (fun (xs : List Bool) (ρ : Vars) (σ' : Sto) => σ' = σ ∧ ∃ o1,ρ = ([("one",Slot.own o1),("found",Slot.ro (bodV t "g" 1 tysG fd)),("_law_run",Slot.ro (.raw (.ref t.l_run)))] : Vars)) ?_ [false,true] [] _ σ (by decide) ⟨rfl,_,rfl⟩ ?_
  · rintro x xs ρ σ' acc ⟨rfl,o1,rfl⟩ ps noc
    have sm : small (if x then 9 else 0):=by cases x <;> exact ⟨by decide,by decide⟩
    have rn:=s_run (c:=c2.pins ps) (t:=t) (σ:=(D2,.list acc) :: σ') (nm := "g") (na:=1) (vs:=[.n (if x then 9 else 0)]) hok (by omega) (by omega) hst (Nat.le_of_ble_eq_true rfl) (args1_ok sm) (by rw [hl]; exact hr x) H2 (by show 4 ≤ c2.n; omega)
    exact uName .hd (wtAt (c:=c2.pins ps) (O:={ calls:=[(521012034,outG (if x then 2 else 1),Option.none)] }) (d':=.list [.int (if x then 2 else 1),.int 0]) (σ':=(D2,.list acc) :: σ') (kc3 k1 rn (AtV.rf (d:=.list [.int (if x then 2 else 1),.int 0]) (σ:=(D2,.list acc) :: σ'))) ⟨σ',rfl,rfl,rfl,_,rfl⟩)
  · rintro ρ σ' ⟨rfl,o1,rfl⟩
    exact ⟨D2,[],σ',_,rfl,.inl rfl,q⟩⟩
theorem s_meeting (H : Has t c) (hn : 15 ≤ c.n) : FnTo c σ (.ref t.l_meeting_right) [] (.bool true) σ:=by
  refine fnTo (ps:=[]) (ls:=["byte", "body", "goes", "x", "asks", "number", "found"]) (gl:=[("Body",.raw (.ref t.Body)),("with_constants",.raw (.ref t.with_constants))]) H.l_meeting_right.2 (ule hn) (Binds.of0 fun Z Z Z Z Z Z Z Z => rfl) rfl (SigOk.of (gn:=["Body", "with_constants"]) (by decide +kernel)) (gcons (gF H.Body.gv) (gcons (gF H.with_constants.1) gnil)) ?_
  intro c' hlk hn' hcomp hsc Q q
  have H':=H.like hlk
  have x1 : ∀ D : Addr,XTo c' (mgV t D .none .none .none .none .none) ((D,.list []) :: σ) ((bodyOf (stmtAt 49)).drop 2) (Ends Q):=fun D => ⟨fun c2 hs2 => by
    have H2 : Has t c2:=H'.like hs2.like
    have hsc2 : c2.env.scope = scopeOf (stmtAt 49):=by rw [hs2.env]; exact hsc
    have x2 : XTo c2 (mgV t D (some (.tup [.str "goto",.int 3])) (some (placeV 2)) (some (Trm.sw1 (.loc 1) 1 2).v) (some (.int 2)) .none) ((D,.list (blG.map blkV)) :: σ) ((bodyOf (stmtAt 49)).drop 7) (Ends Q):=⟨fun c3 hs3 => by
      have H3 : Has t c3:=H2.like hs3.like
      have hn3 : 14 ≤ c3.n:=by have:=hs3.n; have:=hs2.n; omega
      have hsc3 : c3.env.scope = scopeOf (stmtAt 49):=by rw [hs3.env]; exact hsc2
      have hcomp3 : c3.comp = Option.none:=(hs3.comp.trans hs2.comp).trans hcomp
      have k1 : Callable c3 (.ref t.with_constants):=callable_K H3.with_constants.2.keep
      refine xCons (xSet (noComp_swaps rfl _ _ _) (wCall (.tl (.tl (.tl (.tl (.tl (.tl (.tl (.tl .ro)))))))) k1 rfl (lCons (wFreezeObjL (wName (.tl .own) ⟨t.Body,D, "blocks",[("name",.str "g"),("arg_count",.int 1),("locals",_)],[("spots",.dict [])],[],σ,_,rfl,.inl rfl,lNil ?_⟩)) rfl)))
      refine (s_with (c:=c3) (t:=t) (σ:=σ) (nm := "g") (na:=1) blG_ok (by decide) (by decide) H3 (I:=InvG) (by decide) (by decide) hn3 invG_zero (fun n kn b Z h => invG_step h) (fun x here kn w1 w2 => invG_meet w1 w2)).run c3 Cx.Same.refl _ _ fun beg hw => ?_
      refine ⟨_,putV_puts (ρ':=mgV t D (some (.tup [.str "goto",.int 3])) (some (placeV 2)) (some (Trm.sw1 (.loc 1) 1 2).v) (some (.int 2)) (some (bodV t "g" 1 tysG (foundB tysG blG beg)))) rfl,thenNext ?_⟩
      have fg:=found_G hw.fol hw.done hw.inv
      have fl : (foundB tysG blG beg).length = 4:=found_len
      have i1:=ItTo.lst (c:=c3) (σ:=σ) (ds:=(foundB tysG blG beg).map blkV) (i:=3) (d:=blkV ([.print (.loc 2),.print (.num 0)],.ret)) (by rw [List.getElem?_map,fg]; rfl) (by decide)
      have i2:=ItTo.lst (c:=c3) (σ:=σ) (ds:=[.list [(Stm.print (.loc 2)).v,(Stm.print (.num 0)).v],Trm.ret.v]) (i:=0) (d:=.list [(Stm.print (.loc 2)).v,(Stm.print (.num 0)).v]) rfl (by decide)
      have c1:=CmTo.neSame (c:=c3) (σ:=σ) (d:=.list [(Stm.print (.loc 2)).v,(Stm.print (.num 0)).v]) (x:=_) rfl (by decide +kernel) (by decide +kernel)
      have c2:=CmTo.eqSame (c:=c3) (σ:=σ) (d:=.list [.list [.int 1,.int 0],.list [.int 2,.int 0]]) (x:=_) rfl (by decide +kernel) (by decide +kernel)
      have rr:=x_runs (c:=c3) (t:=t) (σ:=σ) (ρ:=mgV t D (some (.tup [.str "goto",.int 3])) (some (placeV 2)) (some (Trm.sw1 (.loc 1) 1 2).v) (some (.int 2)) (some (bodV t "g" 1 tysG (foundB tysG blG beg)))) (fd:=foundB tysG blG beg) hcomp3 hsc3 (.tail _ (.tail _ (.tail _ (.tail _ (.tail _ (.tail _ (.head _))))))) (found_ok blG_ok hw.fol) fl (found_lens (N:=100) (by decide)) (fun x => run_G hw.fol hw.done x) H3 (by exact ule (by assumption))
      refine xv_sound hsc3 60 (O:={ ops:=[(519007022,blkV ([.print (.loc 2),.print (.num 0)],.ret)),(519007025,.list [(Stm.print (.loc 2)).v,(Stm.print (.num 0)).v]),(519007084,.bool false),(521011076,.bool true)],exprs:=[(521011056,.list [.list [.int 1,.int 0],.list [.int 2,.int 0]],none)] }) ?_ Cx.Same.refl
      exact kc7 H3.g_Body_blocks i1 i2 c1 rr c2 q⟩
    refine xv_sound hsc2 60 (O:={ pos:=[(514004082,0),(516008085,0),(517004093,0)],stops:=[518004032] }) ?_ Cx.Same.refl
    exact kc17 H2.g_Body_blocks (ze (.ref D)) (ze (.ref D)) (by decide : 0 ≤ sizeLine) H2.g_Body_blocks (ze (.ref D)) (ze (.ref D)) (by decide : 1 ≤ sizeLine) H2.g_Body_blocks (ze (.ref D)) (ze (.ref D)) (by decide : 2 ≤ sizeLine) H2.g_Body_blocks (ze (.ref D)) (ze (.ref D)) (by decide : 3 ≤ sizeLine) x2⟩
  have k1 : Callable c' (.ref t.Body):=callable_K H'.Body.keep
  exact ⟨{ exprs:=[(511024048,.list [rowG,rowG,rowG],none)],news:=[(511011049,⟨Addr,fun Z => True,fun D => (bodR t "g" 1 [rowG,rowG,rowG] D,(D,.list []) :: σ)⟩)],stops:=[512004036] },kc4 k1 (x_mul (c:=c') (σ:=σ) (ρ:=[("byte",.own (some byteV)),("body",.own .none),("goes",.own .none),("x",.own .none),("asks",.own .none),("number",.own .none),("found",.own .none),("Body",.ro (.raw (.ref t.Body))),("with_constants",.ro (.raw (.ref t.with_constants)))]) .own) (s_Body3 (c:=c') (t:=t) (σ:=σ) (nm := "g") (na:=1) (L:=[rowG,rowG,rowG]) (Nat.le_of_ble_eq_true rfl) H' (nle hn' hn)) fun D (_ : True) => x1 D⟩
end
end
end Mine
end
section
set_option tactic.hygienic false
namespace Mine
noncomputable section
mutual
noncomputable def V.okk : Nat → V → Bool
  | _,.none => true
  | _,.bool _ => true
  | _,.int _ => true
  | _,.str s => PyData.strOk s
  | k + 1,.tup xs => V.okks k xs
  | k + 1,.list xs => V.okks k xs
  | _,_ => false
noncomputable def V.okks : Nat → List V → Bool
  | _,[] => true
  | k,x :: xs => V.okk k x && V.okks k xs
end
structure PyOk (k : Nat) (x : PyData) : Prop where
  lay : x.canLay0 = true
  deep : x.depth ≤ k
  same : x.eqv x = true
mutual
theorem V.okk_py : ∀ {k : Nat} {d : V},V.okk k d = true → ∃ x,d.py = some x ∧ PyOk k x
  | _,.none,_ => ⟨.none,rfl,rfl,Nat.zero_le _,rfl⟩
  | _,.bool b,_ => ⟨.bool b,rfl,rfl,Nat.zero_le _,by cases b <;> rfl⟩
  | _,.int i,_ => ⟨.int i,rfl,rfl,Nat.zero_le _,by simp [PyData.eqv]⟩
  | _,.str s,h => ⟨.str s,rfl,by simpa [PyData.canLay0,V.okk] using h,Nat.zero_le _,by simp [PyData.eqv]⟩
  | k + 1,.tup xs,h => by
    obtain ⟨ys,h1,h2,h3,h4⟩:=V.okks_py (k:=k) (ds:=xs) (by simpa [V.okk] using h)
    exact ⟨.tuple ys,by show (V.pys xs).map _ = _; rw [h1]; rfl,by simpa [PyData.canLay0] using h2,by show PyData.depthAll ys + 1 ≤ _; exact Nat.lt_succ_of_le (by assumption),by simpa [PyData.eqv] using h4⟩
  | k + 1,.list xs,h => by
    obtain ⟨ys,h1,h2,h3,h4⟩:=V.okks_py (k:=k) (ds:=xs) (by simpa [V.okk] using h)
    exact ⟨.list ys,by show (V.pys xs).map _ = _; rw [h1]; rfl,by simpa [PyData.canLay0] using h2,by show PyData.depthAll ys + 1 ≤ _; exact Nat.lt_succ_of_le (by assumption),by simpa [PyData.eqv] using h4⟩
  | 0,.tup xs,h => by simp [V.okk] at h
  | 0,.list xs,h => by simp [V.okk] at h
  | _,.dict _,h => by simp [V.okk] at h
  | _,.sdict _,h => by simp [V.okk] at h
  | _,.obj _ _,h => by simp [V.okk] at h
  | _,.raw _,h => by simp [V.okk] at h
  | _,.rng _ _,h => by simp [V.okk] at h
  | _,.known _,h => by simp [V.okk] at h
theorem V.okks_py : ∀ {k : Nat} {ds : List V},V.okks k ds = true → ∃ xs,V.pys ds = some xs ∧ PyData.canLayAll0 xs = true ∧ PyData.depthAll xs ≤ k ∧ PyData.eqvAll xs xs = true
  | _,[],_ => ⟨[],rfl,rfl,Nat.zero_le _,rfl⟩
  | k,x :: xs,h => by
    have h : (V.okk k x && V.okks k xs) = true:=by simpa [V.okks] using h
    rw [Bool.and_eq_true] at h
    obtain ⟨y,g1,g2⟩:=V.okk_py h.1
    obtain ⟨ys,f1,f2,f3,f4⟩:=V.okks_py h.2
    refine ⟨y :: ys,?_,?_,?_,?_⟩
    · show (match V.py x,V.pys xs with | some a,some b => some (a :: b) | _,_ => Option.none) = _
      rw [g1,f1]
    · simp only [PyData.canLayAll0,g2.lay,f2,Bool.and_self]
    · show max (PyData.depth y) (PyData.depthAll ys) ≤ k
      have:=g2.deep
      omega
    · simp only [PyData.eqvAll,g2.same,f4,Bool.and_self]
end
theorem okks_of {k : Nat} : ∀ {ds : List V},(∀ d ∈ ds,V.okk k d = true) → V.okks k ds = true
  | [],_ => by simp only [V.okks]
  | d :: ds,h => by
    simp only [V.okks,Bool.and_eq_true]
    exact ⟨h d (.head _),okks_of fun x hx => h x (.tail _ hx)⟩
theorem CmTo.neOk {c : Cx} {σ : Sto} {d : V} (h : V.okk 60 d = true) : CmTo c σ .NotEq d d (.bool false):=by
  obtain ⟨x,h1,h2⟩:=V.okk_py h
  exact CmTo.neSame h1 (by unfold SeqAt.shaped; rw [h2.lay]; simpa using Nat.le_trans h2.deep (by decide)) h2.same
theorem ok_vl {k : Nat} (v : Vl) : V.okk (k + 1) v.v = true:=by cases v <;> simp [Vl.v,V.okk,V.okks]
theorem ok_opd {k : Nat} (o : Opd) : V.okk (k + 4) o.v = true:=by
  cases o with
  | num n => simp [Opd.v,V.okk,V.okks,byteV]; decide +kernel
  | bit b => simp [Opd.v,V.okk,V.okks,bitV]; decide +kernel
  | loc l => simp [Opd.v,V.okk,V.okks,placeV]; decide +kernel
  | part l b => simp [Opd.v,V.okk,V.okks,partV]; decide +kernel
theorem okT {k : Nat} {ds : List V} (h : V.okks k ds = true) : V.okk (k + 1) (.tup ds) = true:=by simpa [V.okk] using h
theorem okL {k : Nat} {ds : List V} (h : V.okks k ds = true) : V.okk (k + 1) (.list ds) = true:=by simpa [V.okk] using h
theorem okC {k : Nat} {d : V} {ds : List V} (h1 : V.okk k d = true) (h2 : V.okks k ds = true) : V.okks k (d :: ds) = true:=by simp [V.okks,h1,h2]
theorem okN {k : Nat} : V.okks k [] = true:=by simp [V.okks]
theorem okS {k : Nat} {s : Str} (h : PyData.strOk s = true) : V.okk k (.str s) = true:=by cases k <;> simpa [V.okk] using h
theorem ok_byte {k : Nat} : V.okk (k + 1) byteV = true:=okT (okC (okS (by decide +kernel)) (okC (okS (by decide +kernel)) okN))
theorem okI {k : Nat} {i : Int} : V.okk k (.int i) = true:=by cases k <;> simp [V.okk]
theorem okB {k : Nat} {b : Bool} : V.okk k (.bool b) = true:=by cases k <;> simp [V.okk]
theorem ok_ar {o : Ar} : PyData.strOk o.str = true:=by cases o <;> decide +kernel
theorem ok_cm {o : Cm} : PyData.strOk o.str = true:=by cases o <;> decide +kernel
theorem ok_bo {o : Bo} : PyData.strOk o.str = true:=by cases o <;> first | exact ok_ar | exact ok_cm
theorem ok_rv {k : Nat} (r : Rv) : V.okk (k + 6) r.v = true:=by
  have o5 : ∀ o : Opd,V.okk (k + 5) o.v = true:=fun o => ok_opd (k:=k + 1) o
  have o4 : ∀ o : Opd,V.okk (k + 4) o.v = true:=fun o => ok_opd (k:=k) o
  cases r with
  | use o => exact okT (okC (okS (by decide +kernel)) (okC (o5 o) okN))
  | tuple a b => exact okT (okC (okS (by decide +kernel)) (okC (okT (okC (o4 a) (okC (o4 b) okN))) okN))
  | binary o a b => exact okT (okC (okS (by decide +kernel)) (okC (okS ok_bo) (okC (o5 a) (okC (o5 b) okN))))
  | checked o a b => exact okT (okC (okS (by decide +kernel)) (okC (okS ok_ar) (okC (o5 a) (okC (o5 b) okN))))
  | inv a => exact okT (okC (okS (by decide +kernel)) (okC (okS (by decide +kernel)) (okC (o5 a) okN)))
  | neg a => exact okT (okC (okS (by decide +kernel)) (okC (okS (by decide +kernel)) (okC (o5 a) okN)))
  | cast a => exact okT (okC (okS (by decide +kernel)) (okC (o5 a) (okC ok_byte okN)))
theorem ok_stm {k : Nat} (s : Stm) : V.okk (k + 7) s.v = true:=by
  cases s with
  | asg l r => exact okT (okC (okS (by decide +kernel)) (okC (okT (okC okI (okC (okT okN) okN))) (okC (ok_rv r) okN)))
  | print o => exact okT (okC (okS (by decide +kernel)) (okC (ok_opd (k:=k + 2) o) okN))
  | nop => exact okT (okC (okS (by decide +kernel)) okN)
theorem ok_trm {k : Nat} (m : Trm) : V.okk (k + 7) m.v = true:=by
  have o6 : ∀ o : Opd,V.okk (k + 6) o.v = true:=fun o => ok_opd (k:=k + 2) o
  cases m with
  | ret => exact okT (okC (okS (by decide +kernel)) okN)
  | panic => exact okT (okC (okS (by decide +kernel)) (okC (okS (by decide +kernel)) okN))
  | goto b => exact okT (okC (okS (by decide +kernel)) (okC okI okN))
  | swB o x d => exact okT (okC (okS (by decide +kernel)) (okC (o6 o) (okC (okT (okC (okT (okC okB (okC okI okN))) okN)) (okC okI okN))))
  | sw1 o x d => exact okT (okC (okS (by decide +kernel)) (okC (o6 o) (okC (okT (okC (okT (okC okI (okC okI okN))) okN)) (okC okI okN))))
  | swN o x y d => exact okT (okC (okS (by decide +kernel)) (okC (o6 o) (okC (okT (okC (okT (okC okI (okC okI okN))) (okC (okT (okC okI (okC okI okN))) okN))) (okC okI okN))))
  | asrt o x => exact okT (okC (okS (by decide +kernel)) (okC (o6 o) (okC okB (okC (okS (by decide +kernel)) (okC okI okN)))))
noncomputable def befV (b : Blk) : V:=.tup [.list (b.1.map Stm.v),b.2.v]
theorem ok_bef (bl : List Blk) : V.okk 60 (.list (bl.map befV)) = true:=by
  refine okL (k:=59) (okks_of fun d hd => ?_)
  obtain ⟨b,_,rfl⟩:=List.mem_map.mp hd
  refine okT (k:=58) (okC (okL (k:=57) (okks_of fun d hd => ?_)) (okC (ok_trm (k:=51) b.2) okN))
  obtain ⟨s,_,rfl⟩:=List.mem_map.mp hd
  exact ok_stm (k:=50) s
theorem ok_step {e : Run} {m : Trm} {v : V} (h : stepG e m = some (.inl v)) : V.okk 60 v = true:=by
  have go : ∀ {d : V},V.okk 59 d = true → V.okk 60 (.tup [d,printsV e]) = true:=fun {d} h1 => okT (k:=59) (okC h1 (okC (okL (k:=58) (okks_of fun d hd => by
    obtain ⟨v,_,rfl⟩:=List.mem_map.mp hd
    exact ok_vl (k:=57) v)) okN))
  have nx : ∀ {o : Option V},(o.bind fun v => match v.int? with | some k => some (.inr k.toNat) | Option.none => some (.inl (.tup [.tup [.str "panic",.str "goes over"],printsV e]))) = some (Sum.inl (β:=Nat) v) → V.okk 60 v = true:=fun {o} h => by
    obtain ⟨w,_,h⟩:=Option.bind_eq_some_iff.mp h
    split at h
    · cases h
    · cases h
      exact go (okT (k:=58) (okC (okS (by decide +kernel)) (okC (okS (by decide +kernel)) okN)))
  cases m with
  | ret =>
    obtain ⟨w,_,h⟩:=Option.map_eq_some_iff.mp h
    cases h
    exact go (okT (k:=58) (okC (okS (by decide +kernel)) (okC (ok_vl (k:=57) w) okN)))
  | panic =>
    cases h
    exact go (ok_trm (k:=52) .panic)
  | goto b => exact nx (o:=nextT e.1 (.goto b)) h
  | swB o x d => exact nx (o:=nextT e.1 (.swB o x d)) h
  | sw1 o x d => exact nx (o:=nextT e.1 (.sw1 o x d)) h
  | swN o x y d => exact nx (o:=nextT e.1 (.swN o x y d)) h
  | asrt o x => exact nx (o:=nextT e.1 (.asrt o x)) h
theorem ok_run {bl : List Blk} {v : V} : ∀ {f b : Nat} {e : Run},runG bl f b e = some v → V.okk 60 v = true
  | 0,_,_,h => by cases h; simp [V.okk]
  | f + 1,b,e,h => by
    obtain ⟨k,_,h⟩:=Option.bind_eq_some_iff.mp h
    obtain ⟨e1,_,h⟩:=Option.bind_eq_some_iff.mp h
    obtain ⟨r,g3,h⟩:=Option.bind_eq_some_iff.mp h
    cases r with
    | inl w => cases h; exact ok_step g3
    | inr b' => exact ok_run (f:=f) h
end
end Mine
end
section
set_option tactic.hygienic false
namespace Mine
noncomputable section
section
variable {t : Tab} {c : Cx} {σ : Sto}
theorem s_poolG {is : List Int} (H : Has t c) (hn : 1 ≤ c.n) : FnGe c σ (.ref t.l_pool) [.list (is.map V.int),.list []] ⟨Int × Int × Addr,fun i => SrcOk i.1 i.2.1,fun i => (.raw (.ref i.2.2),srcM i.2.2 (i.1,i.2.1) :: σ)⟩:=
  ⟨fun c' hs ρ Q q => wcLoose ((s_pool (H.like hs.like) (by rw [hs.n]; exact hn)).run c' Cx.Same.refl ρ _ fun i hi => ⟨i.2.2,[],σ,_,rfl,q i hi⟩)⟩
noncomputable abbrev lwV (t : Tab) (sc : V) (o1 o2 o3 o4 o5 o6 o7 : Option V) : Vars:=[("script",.own (some sc)),("source",.own o1),("arguments",.own o2),("body",.own o3),("before",.own o4),("found",.own o5),("turn",.own o6),("told",.own o7),("_law_pool",.ro (.raw (.ref t.l_pool))),("_law_take",.ro (.raw (.ref t.l_take))),("_law_body",.ro (.raw (.ref t.l_body))),("with_constants",.ro (.raw (.ref t.with_constants))),("range",.ro (.raw (.type "range"))),("_law_run",.ro (.raw (.ref t.l_run))),("_law_is_plain",.ro (.raw (.ref t.l_is_plain))),("_law_meeting_right",.ro (.raw (.ref t.l_meeting_right)))]
theorem bef_go {c2 : Cx} {D2 : Addr} {bl : List Blk} {target elt : Expr} {K : List V → Sto → Prop} {p1 p2 p3 p4 p5 p6 p7 p8 : Pos} {k1 k2 : Nat} (h1 : target = .Tuple [.Name "statements" p1,.Name "terminator" p2] k1 p3) (h2 : elt = .Tuple [.Call (.Name "list" p4) [.Name "statements" p5] [] p6,.Name "terminator" p7] k2 p8) (hbl : bl.length ≤ 100) (hst : ∀ b ∈ bl,b.1.length ≤ 100) (q : K (bl.map befV) σ) :
    CGo c2 D2 target [] elt K (bl.map blkV) [] [("statements",.own .none),("terminator",.own .none),("list",.ro (.raw (.type "list")))] σ:=by
  subst h1 h2
  have k4 : ∀ {c : Cx},Callable c (.type "list"):=callable_T
  refine CGo.run blkV befV (fun (xs : List Blk) (ρ : Vars) (σ' : Sto) => (∀ b ∈ xs,b ∈ bl) ∧ σ' = σ ∧ ∃ o1 o2,ρ = ([("statements",Slot.own o1),("terminator",Slot.own o2),("list",Slot.ro (.raw (.type "list")))] : Vars)) ?_ bl [] _ σ ?_ ⟨fun b h => h,rfl,_,_,rfl⟩ ?_
  · rintro x xs ρ σ' acc ⟨hm,rfl,o1,o2,rfl⟩ ps noc
    have hx:=hst x (hm x (.head _))
    refine uUnpack apart2 (.inr rfl) (.cons .hd (.cons (.tl .hd) .nil)) ?_
    exact wTuple (lCons (wCall (.tl (.tl .ro)) k4 rfl (lCons (wName .own (lNil (bListL LRd.data (by rw [List.length_map]; exact Nat.le_trans hx (by decide)) (lCons (wName (.tl .own) (lNil ⟨(by decide : 2 ≤ sizeLine),σ',rfl,rfl,fun b hb => hm b (.tail _ hb),rfl,_,_,rfl⟩)) rfl)))) rfl)) rfl)
  · show 0 + bl.length < _; rw [Nat.zero_add]; exact Nat.lt_of_le_of_lt hbl (by decide)
  · rintro ρ σ' ⟨_,rfl,o1,o2,rfl⟩
    exact q
noncomputable def befE : Expr:=match (bodyOf (stmtAt 50))[5]?.getD (.Pass ⟨0,0,0,0⟩) with
  | Stmt.If t _ _ _ => cmpL t
  | _ => .Constant .none 0 ⟨0,0,0,0⟩
theorem x_before {S : Addr} {sc : V} {o4 o5 o6 o7 : Option V} {n : Nat} {bl : List Blk} (hbl : bl.length ≤ 100) (hst : ∀ b ∈ bl,b.1.length ≤ 100) (hcomp : c.comp = Option.none) (hsc : c.env.scope = scopeOf (stmtAt 50)) (H : Has t c) : ExTo c (lwV t sc (some (.raw (.ref S))) (some (.int n)) (some (bodV t "f" n (tysL n) bl)) o4 o5 o6 o7) σ befE (.list (bl.map befV)) σ:=⟨fun c' hs Q q => by
  have H':=H.like hs.like
  have hcomp' : c'.comp = Option.none:=hs.comp.trans hcomp
  have hsc' : c'.env.scope = scopeOf (stmtAt 50):=by rw [hs.env]; exact hsc
  show WT c' (eval (.ListComp _ [⟨_,_,[],0⟩] _ _) c'.env) _ σ Q
  refine wFreezeL (wListComp (scopeOf (stmtAt 50)) ["statements", "terminator"] [] [("list",.raw (.type "list"))] hcomp' hsc' (CompOk.of (fv:=[]) (gn:=["list"]) (by decide +kernel)) fvNil (gcons (gF H'.b_list) gnil) (fun Z => rfl) (wtAt (O:={}) (d':=.list (bl.map blkV)) (σ':=σ) (kc2 H'.g_Body_blocks (AtV.rf (d:=.list (bl.map blkV)) (σ:=σ))) (itrAnd rfl ?_)))
  intro c2 hl2 hn2 D2
  exact bef_go rfl rfl hbl hst ⟨D2,[],σ,_,rfl,.inl rfl,q⟩⟩
theorem blks_ok {n many : Nat} : ∀ {bs : List Nat} {s : Src},SOk s → (∀ b ∈ bs,b < many) → SOk (blksR n many bs s).2
  | [],s,hs,_ => hs
  | b :: bs,s,hs,hb => blks_ok (bs:=bs) (blk_ok hs (hb b (.head _))) fun x hx => hb x (.tail _ hx)
theorem body_ok {n : Nat} {s : Src} (hs : SOk s) : SOk (bodyR n s).2:=blks_ok (take_ok hs (by decide)).2 fun b hb => List.mem_range.mp hb
noncomputable def toldL : List Int:=[0,1,99,128,255]
noncomputable def drawL : List Nat → Src → List (Nat × Int) × Src
  | [],s => ([],s)
  | i :: is,s => ((i,(pickR toldL 0 s).1) :: (drawL is (pickR toldL 0 s).2).1,(drawL is (pickR toldL 0 s).2).2)
theorem drawL_fst : ∀ {is : List Nat} {s : Src},(drawL is s).1.map (fun p => natV p.1) = is.map natV
  | [],_ => rfl
  | i :: is,s => congrArg (natV i :: ·) drawL_fst
theorem draw_ok : ∀ {is : List Nat} {s : Src},SOk s → SOk (drawL is s).2 ∧ (drawL is s).1.length = is.length ∧ ∀ p ∈ (drawL is s).1,small p.2
  | [],s,h => ⟨h,rfl,fun p hp => nomatch hp⟩
  | i :: is,s,h => by
    have pk:=pick_ok (l:=toldL) (d:=0) h (by decide)
    obtain ⟨h1,h2,h3⟩:=draw_ok (is:=is) pk.2
    refine ⟨h1,congrArg (· + 1) h2,fun p hp => ?_⟩
    rcases List.mem_cons.mp hp with rfl | hp
    · have pk:=pk.1
      show small (pickR toldL 0 s).1
      generalize (pickR toldL 0 s).1 = x at pk
      simp only [toldL,List.mem_cons,List.not_mem_nil,or_false] at pk
      rcases pk with rfl | rfl | rfl | rfl | rfl <;> exact ⟨by decide,by decide⟩
    · exact h3 p hp
noncomputable def Inv0 (n : Nat) (bl : List Blk) (x : Int) (kn : Kn) : Prop:=n = 0 → ∃ i a,x = ((a : Nat) : Int) ∧ kpath bl i = some (a,kn)
theorem s_withL {n : Nat} {bl : List Blk} (g : GenOk n bl) (n2 : n ≤ 2) (H : Has t c) (hn : 14 ≤ c.n) : FnGe c σ (.ref t.with_constants) [bodV t "f" n (tysL n) bl] ⟨Beg,WcOk (tysL n) bl (Inv0 n bl),fun beg => (bodV t "f" n (tysL n) (foundB (tysL n) bl beg),σ)⟩:=by
  refine s_with g.bl (fun b hb => ?_) (rows_le n2) H g.pos (Nat.le_trans g.len (by decide)) hn ?_ ?_ ?_
  · obtain ⟨i,hi⟩:=List.getElem?_of_mem hb
    exact Nat.le_trans (g.blk i b hi).len (by decide)
  · exact fun Z => ⟨0,0,rfl,rfl⟩
  · intro m kn b _ hI hb x hx h0
    subst h0
    exact inv0_step g (hI rfl) hb x hx
  · intro x here kn w1 w2 h1 h2 h0
    subst h0
    obtain ⟨i,a,e1,p1⟩:=h1 rfl
    obtain ⟨j,b,e2,p2⟩:=h2 rfl
    obtain rfl : a = b:=Int.ofNat.inj (e1.symm.trans e2)
    obtain rfl:=kpath_uniq g p1 p2
    rw [keep_self w1]
    exact ⟨i,a,e1,p1⟩
noncomputable abbrev loV (t : Tab) (sc : V) (S : Addr) (n : Nat) (bl : List Blk) (beg : Beg) (o6 o7 : Option V) : Vars:=lwV t sc (some (.raw (.ref S))) (some (.int n)) (some (bodV t "f" n (tysL n) bl)) (some (.list (bl.map befV))) (some (bodV t "f" n (tysL n) (foundB (tysL n) bl beg))) o6 o7
section
variable {S D2 : Addr}
noncomputable abbrev drV (t : Tab) (S : Addr) (o : Option V) : Vars:=[("local",.own o),("source",.ro (.raw (.ref S))),("_law_one",.ro (.raw (.ref t.l_one)))]
theorem x_draw1 {s : Src} {o : Option V} {acc : List V} {Q : V → Sto → Prop} {p2 p3 p4 p5 p6 p7 p8 p9 p10 : Pos} {j1 j2 j3 j4 j5 : Nat} (hs : SOk s) (H : Has t c) (hc : 2 ≤ c.n) (q : Q (.int (pickR toldL 0 s).1) ((D2,.list acc) :: srcM S (pickR toldL 0 s).2 :: σ)) :
    WT c (eval (.Call (.Name "_law_one" p2) [.Name "source" p3,.List [.Constant (.int 0) j1 p4,.Constant (.int 1) j2 p5,.Constant (.int 99) j3 p6,.Constant (.int 128) j4 p7,.Constant (.int 255) j5 p8] p9] [] p10) c.env) (drV t S o) ((D2,.list acc) :: srcM S s :: σ) Q:=
  wCall (.tl (.tl .ro)) (callable_K H.l_one.2.keep) rfl (lCons (wName (.tl .ro) (lCons (wList (lCons (wInt (lCons (wInt (lCons (wInt (lCons (wInt (lCons (wInt (lNil ⟨(by decide : 5 ≤ sizeLine),lNil ((s_pick (c:=c) (t:=t) (σ₁:=[(D2,.list acc)]) (σ₂:=σ) (S:=S) (f:=V.int) (l:=toldL) (d:=0) hs (by decide) (by decide) H hc).run _ Cx.Same.refl _ _ q)⟩)) rfl)) rfl)) rfl)) rfl)) rfl)) rfl)) rfl)
theorem dr_go {target elt : Expr} {p1 : Pos} {K : List V → Sto → Prop} (h1 : target = .Name "local" p1) (he : ∀ ps {s o acc} {Q : V → Sto → Prop},SOk s → Q (.int (pickR toldL 0 s).1) ((D2,.list acc) :: srcM S (pickR toldL 0 s).2 :: σ) → WT (c.pins ps) (eval elt c.env) (drV t S o) ((D2,.list acc) :: srcM S s :: σ) Q) :
    ∀ {is : List Nat} {s : Src} {o : Option V} {acc : List V},SOk s → acc.length + is.length ≤ 100 → K (acc ++ (drawL is s).1.map fun p => V.int p.2) (srcM S (drawL is s).2 :: σ) → CGo c D2 target [] elt K (is.map natV) acc (drV t S o) (srcM S s :: σ)
  | [],s,o,acc,hs,hl,q => by
    have q : K (acc ++ []) (srcM S s :: σ):=q
    rw [List.append_nil] at q
    exact q
  | i :: is,s,o,acc,hs,hl,q => fun ps noc => by
    subst h1
    refine uName .hd (tNone' (ifTr (he ps hs ⟨_,rfl,Nat.lt_of_le_of_lt (Nat.le_trans (Nat.le_add_right _ _) hl) (by decide),dr_go rfl he (pick_ok (l:=toldL) (d:=0) hs (by decide)).2 (len_snoc hl) ?_⟩)))
    rw [List.append_assoc]
    exact q
end
inductive TwoRuns (c : Cx) (t : Tab) (n : Nat) (bl bl' : List Blk) (σ : Sto) (w : V) : Prop
  | mk (v : V) (r1 : FnTo c σ (.ref t.l_run) [bodV t "f" n (tysL n) bl',w] v σ) (r2 : FnTo c σ (.ref t.l_run) [bodV t "f" n (tysL n) bl,w] v σ) (ok : V.okk 60 v = true) : TwoRuns c t n bl bl' σ w
section
variable {S : Addr} {sc : V} {n : Nat} {bl : List Blk} {beg : Beg} (g : GenOk n bl) (hst : ∀ b ∈ bl,b.1.length ≤ 100) (hw : WcOk (tysL n) bl (Inv0 n bl) beg) (n2 : n ≤ 2) (hcomp : c.comp = Option.none) (hsc : c.env.scope = scopeOf (stmtAt 50)) (H : Has t c) (hn : 20 ≤ c.n)
include g hst hw n2 H hn
theorem two_runs {vs : List Vl} (tl : Told n vs) : TwoRuns c t n bl (foundB (tysL n) bl beg) σ (.list (vs.map Vl.v)):=by
  obtain ⟨v,hv⟩:=run_some g tl (bl.length + 1)
  have hv2 : runG (foundB (tysL n) bl beg) ((foundB (tysL n) bl beg).length + 1) 0 (argsK vs,[]) = some v:=by
    rw [found_len]
    exact run_found hw.done hw.fol.zero (fun Z Z h => nomatch h) hv
  have hl : vs.length ≤ 100:=tl.len ▸ Nat.le_trans n2 (by decide)
  have lb:=Nat.le_trans g.len (by decide : _ ≤ 50)
  exact ⟨v,s_run (found_ok g.bl hw.fol) (by rw [found_len]; exact g.pos) (by rw [found_len]; exact lb) (found_lens hst) hl (args_ok tl).1 hv2 H (ule hn),s_run g.bl g.pos lb hst hl (args_ok tl).1 hv H (ule hn),ok_run hv⟩
include hcomp hsc
theorem turn3 {s : Src} {o6 o7 : Option V} {Q : Fl → Vars → Sto → Prop} (hs : SOk s) (q : ∀ s o7,SOk s → Q .next (loV t sc S n bl beg o6 o7) (srcM S s :: σ)) : WX c (execs (forB ((bodyOf (stmtAt 50))[6]?.getD (.Pass ⟨0,0,0,0⟩))) c.env) (loV t sc S n bl beg o6 o7) (srcM S s :: σ) Q:=by
  refine xCons (xSetComp (scopeOf (stmtAt 50)) ["local"] [("source",.raw (.ref S))] [("_law_one",.raw (.ref t.l_one))] ((swapsWith_env hsc).trans (by rfl)) hcomp hsc (CompOk.of (fv:=["source"]) (gn:=["_law_one"]) (by decide +kernel)) (fvCons (.inl (.tail _ (.head _))) fvNil) (gcons (gF H.l_one.1) gnil) (fun Z => rfl) (wtAt (c:=c) (O:={ calls:=[(531068084,.rng 0 n,none)] }) (d':=.rng 0 n) (σ':=srcM S s :: σ) (kc3 (callable_T (c:=c) (T := "range")) (s_range1 (c:=c) (σ:=srcM S s :: σ) (n:=n)) (AtV.rf (d:=.rng 0 n) (σ:=srcM S s :: σ))) (itrAnd (rng0 (k:=n) rfl (Nat.le_trans n2 (by decide))) ?_)))
  intro c2 hl2 hn2 D2
  refine dr_go rfl (fun ps {s o acc Q} hs q => x_draw1 (c:=c2.pins ps) hs (show Has t c2 from H.like hl2) (show 2 ≤ c2.n from hn2 ▸ ule hn) q) hs (by rw [List.length_range]; exact Nat.le_trans (Nat.le_of_eq (Nat.zero_add _)) (Nat.le_trans n2 (by decide))) ⟨_,putV_puts (ρ':=loV t sc S n bl beg o6 (some (.raw (.ref D2)))) rfl,thenNext (xFreezeL (σ₁:=[]) (.tl (.tl (.tl (.tl (.tl (.tl (.tl .hd))))))) ?_)⟩
  obtain ⟨d1,d2,d3⟩:=draw_ok (is:=List.range n) hs
  rw [List.length_range] at d2
  rw [List.nil_append]
  generalize drawL (List.range n) s = dr at d1 d2 d3
  have ev : (dr.1.map fun p => V.int p.2) = (dr.1.map fun p => Vl.n p.2).map Vl.v:=by rw [List.map_map]; rfl
  rw [ev]
  have tl : Told n (dr.1.map fun p => Vl.n p.2):=⟨by rw [List.length_map]; exact d2,fun v hv => by
    obtain ⟨p,hp,rfl⟩:=List.mem_map.mp hv
    exact ⟨p.2,rfl,d3 p hp⟩⟩
  obtain ⟨v,r1,r2,ok⟩:=two_runs (c:=c) (σ:=srcM S dr.2 :: σ) g hst hw n2 H hn tl
  exact xv_sound hsc 60 (O:={ calls:=[(532011032,v,none),(532036056,v,none)],ops:=[(532011056,.bool false)] }) (kc6 (callable_K (c:=c) H.l_run.2.keep) r1 (callable_K (c:=c) H.l_run.2.keep) r2 (CmTo.neOk (c:=c) (σ:=srcM S dr.2 :: σ) ok) (q dr.2 (some (.list ((dr.1.map fun p => Vl.n p.2).map Vl.v))) d1)) Cx.Same.refl
end
section
variable {S : Addr} {sc : V} {n : Nat} {bl : List Blk} {beg : Beg} {Q : V → Sto → Prop}
theorem loop3 {K : Fl → Vars → Sto → Prop} {pos : Pos} (g : GenOk n bl) (hst : ∀ b ∈ bl,b.1.length ≤ 100) (hw : WcOk (tysL n) bl (Inv0 n bl) beg) (n2 : n ≤ 2) (hcomp : c.comp = Option.none) (hsc : c.env.scope = scopeOf (stmtAt 50)) (H : Has t c) (hn : 20 ≤ c.n) (q : ∀ s o6 o7,K .next (loV t sc S n bl beg o6 o7) (srcM S s :: σ)) :
    ∀ {xs : List Nat} {s : Src} {o6 o7 : Option V},SOk s → WFor c (.Name "turn" pos) (forB ((bodyOf (stmtAt 50))[6]?.getD (.Pass ⟨0,0,0,0⟩))) K (xs.map natV) (loV t sc S n bl beg o6 o7) (srcM S s :: σ)
  | [],s,o6,o7,_ => q s o6 o7
  | x :: xs,s,o6,o7,hs => fun ps noc => uName (.tl (.tl (.tl (.tl (.tl (.tl .hd)))))) (turn3 (c:=c.pins ps) g hst hw n2 hcomp hsc H hn hs fun s o7 hs => loop3 (pos:=pos) g hst hw n2 hcomp hsc H hn q (xs:=xs) hs)
theorem end3 {s : Src} {o6 o7 : Option V} (g : GenOk n bl) (hbl : bl.length ≤ 100) (hw : WcOk (tysL n) bl (Inv0 n bl) beg) (n2 : n ≤ 2) (hsc : c.env.scope = scopeOf (stmtAt 50)) (H : Has t c) (hn : 20 ≤ c.n) (q : ∀ σ,Q (.bool true) σ) : WX c (execs ((bodyOf (stmtAt 50)).drop 7) c.env) (loV t sc S n bl beg o6 o7) (srcM S s :: σ) (Ends Q):=by
  have k4:=callable_K (c:=c) H.l_meeting_right.2.keep
  have mr:=s_meeting (c:=c) (t:=t) (σ:=srcM S s :: σ) H (ule hn)
  have q:=q (srcM S s :: σ)
  match n,n2 with
  | 0,_ => exact xv_sound hsc 60 (O:={ calls:=[(534029049,.bool true,none),(534055075,.bool true,none)] }) (kc5 (callable_K (c:=c) H.l_is_plain.2.keep) (s_plain (c:=c) (t:=t) (σ:=srcM S s :: σ) (nm := "f") (na:=0) (tys:=tysL 0) (plain_found g hw.fol hw.done fun m k h => hw.inv m k h rfl) (by rw [found_len]; exact hbl) H (ule hn)) k4 mr q) Cx.Same.refl
  | 1,_ => exact xv_sound hsc 60 (O:={ calls:=[(534055075,.bool true,none)] }) (kc3 k4 mr q) Cx.Same.refl
  | 2,_ => exact xv_sound hsc 60 (O:={ calls:=[(534055075,.bool true,none)] }) (kc3 k4 mr q) Cx.Same.refl
theorem x_turns3 {s : Src} (g : GenOk n bl) (hs : SOk s) (hbl : bl.length ≤ 100) (hst : ∀ b ∈ bl,b.1.length ≤ 100) (hw : WcOk (tysL n) bl (Inv0 n bl) beg) (n2 : n ≤ 2) (hcomp : c.comp = Option.none) (hsc : c.env.scope = scopeOf (stmtAt 50)) (H : Has t c) (hn : 20 ≤ c.n) (q : ∀ σ,Q (.bool true) σ) :
    WX c (execs ((bodyOf (stmtAt 50)).drop 6) c.env) (loV t sc S n bl beg .none .none) (srcM S s :: σ) (Ends Q):=
  xCons (xFor (fun Z => rfl) (wtAt (c:=c) (O:={ calls:=[(530016024,.rng 0 3,none)] }) (d':=.rng 0 3) (σ':=srcM S s :: σ) (kc3 (callable_T (c:=c) (T := "range")) (s_range1 (c:=c) (σ:=srcM S s :: σ) (n:=3)) (AtV.rf (d:=.rng 0 3) (σ:=srcM S s :: σ))) (elemsAnd (rng0 (k:=3) rfl (by decide))
    (loop3 g hst hw n2 hcomp hsc H hn (fun s o6 o7 => thenNext (end3 g hbl hw n2 hsc H hn q)) hs))))
end
theorem x_law {S : Addr} {sc : V} {n : Nat} {bl : List Blk} {s : Src} {Q : V → Sto → Prop} (g : GenOk n bl) (hs : SOk s) (n2 : n ≤ 2) (hcomp : c.comp = Option.none) (hsc : c.env.scope = scopeOf (stmtAt 50)) (H : Has t c) (hn : 20 ≤ c.n) (q : ∀ σ,Q (.bool true) σ) :
    WX c (execs ((bodyOf (stmtAt 50)).drop 3) c.env) (lwV t sc (some (.raw (.ref S))) (some (.int n)) (some (bodV t "f" n (tysL n) bl)) .none .none .none .none) (srcM S s :: σ) (Ends Q):=by
  have hbl : bl.length ≤ 100:=Nat.le_trans g.len (by decide)
  have hst : ∀ b ∈ bl,b.1.length ≤ 100:=fun b hb => by
    obtain ⟨i,hi⟩:=List.getElem?_of_mem hb
    exact Nat.le_trans (g.blk i b hi).len (by decide)
  refine xCons (xSetComp (scopeOf (stmtAt 50)) ["statements", "terminator"] [] [("list",.raw (.type "list"))] ((swapsWith_env hsc).trans (by rfl)) hcomp hsc (CompOk.of (fv:=[]) (gn:=["list"]) (by decide +kernel)) fvNil (gcons (gF H.b_list) gnil) (fun Z => rfl) (wtAt (O:={}) (d':=.list (bl.map blkV)) (σ':=srcM S s :: σ) (kc2 H.g_Body_blocks (AtV.rf (d:=.list (bl.map blkV)) (σ:=srcM S s :: σ))) (itrAnd rfl ?_)))
  intro c2 hl2 hn2 D2
  refine bef_go rfl rfl hbl hst ⟨_,putV_puts (ρ':=lwV t sc (some (.raw (.ref S))) (some (.int n)) (some (bodV t "f" n (tysL n) bl)) (some (.raw (.ref D2))) .none .none .none) rfl,thenNext (xFreezeL (σ₁:=[]) (.tl (.tl (.tl (.tl .hd)))) ?_)⟩
  have x3 : ∀ beg,WcOk (tysL n) bl (Inv0 n bl) beg → XTo c (lwV t sc (some (.raw (.ref S))) (some (.int n)) (some (bodV t "f" n (tysL n) bl)) (some (.list (bl.map befV))) (some (bodV t "f" n (tysL n) (foundB (tysL n) bl beg))) .none .none) (srcM S s :: σ) ((bodyOf (stmtAt 50)).drop 6) (Ends Q):=fun beg hw => ⟨fun c3 hs3 => by
    exact x_turns3 g hs hbl hst hw n2 (hs3.comp.trans hcomp) (by rw [hs3.env]; exact hsc) (H.like hs3.like) (hs3.n ▸ hn) q⟩
  have k1 : Callable c (.ref t.with_constants):=callable_K H.with_constants.2.keep
  have xb : ∀ beg,ExTo c (lwV t sc (some (.raw (.ref S))) (some (.int n)) (some (bodV t "f" n (tysL n) bl)) (some (.list (bl.map befV))) (some (bodV t "f" n (tysL n) (foundB (tysL n) bl beg))) .none .none) (srcM S s :: σ) befE (.list (bl.map befV)) (srcM S s :: σ):=fun beg => x_before hbl hst hcomp hsc H
  refine xv_sound hsc 60 (O:={ news:=[(527012032,⟨Beg,WcOk (tysL n) bl (Inv0 n bl),fun beg => (bodV t "f" n (tysL n) (foundB (tysL n) bl beg),srcM S s :: σ)⟩)],exprs:=[(528007081,.list (bl.map befV),none)],ops:=[(528007091,.bool false)],stops:=[530004024] }) ?_ Cx.Same.refl
  exact kc3 k1 (s_withL (σ:=srcM S s :: σ) g n2 H (ule hn)) fun beg hw => And.intro (xb beg) (And.intro (CmTo.neOk (c:=c) (σ:=srcM S s :: σ) (ok_bef bl)) (x3 beg hw))
theorem w_law {is : List Int} {Q : V → Sto → Prop} (hcomp : c.comp = Option.none) (hsc : c.env.scope = scopeOf (stmtAt 50)) (H : Has t c) (hn : 20 ≤ c.n) (q : ∀ σ,Q (.bool true) σ) : WX c (execs (bodyOf (stmtAt 50)) c.env) (lwV t (.list (is.map V.int)) .none .none .none .none .none .none .none) σ (Ends Q):=by
  have x1 : ∀ (i : Int × Int × Addr),SrcOk i.1 i.2.1 → XTo c (lwV t (.list (is.map V.int)) (some (.raw (.ref i.2.2))) .none .none .none .none .none .none) (srcM i.2.2 (i.1,i.2.1) :: σ) ((bodyOf (stmtAt 50)).drop 1) (Ends Q):=fun ⟨a,b,S⟩ hi => ⟨fun c2 hs2 => by
    have H2 : Has t c2:=H.like hs2.like
    have hn2 : 20 ≤ c2.n:=by have:=hs2.n; rw [this]; exact ule hn
    have hsc2 : c2.env.scope = scopeOf (stmtAt 50):=by rw [hs2.env]; exact hsc
    have hcomp2 : c2.comp = Option.none:=hs2.comp.trans hcomp
    have hs : SOk (a,b):=hi
    generalize ((a,b) : Src) = s at hs
    obtain ⟨⟨h0,h1⟩,hs1⟩:=take_ok (top:=3) hs (by decide)
    obtain ⟨n,hn0⟩ : ∃ n : Nat,(takeR 3 s).1 = (n : Int):=⟨(takeR 3 s).1.toNat,by exact (Int.toNat_of_nonneg (by assumption)).symm⟩
    have n2 : n ≤ 2:=Nat.le_of_lt_succ (Int.ofNat_lt.mp (hn0 ▸ h1))
    have k1 : Callable c2 (.ref t.l_take):=callable_K H2.l_take.2.keep
    have k2 : Callable c2 (.ref t.l_body):=callable_K H2.l_body.2.keep
    have tk:=s_take (c:=c2) (t:=t) (σ₁:=[]) (σ₂:=σ) (S:=S) (top:=3) hs (by decide) (by decide) H2 (by exact ule (by assumption))
    rw [hn0] at tk
    generalize (takeR 3 s).2 = s1 at hs1 tk
    have bd:=s_body (c:=c2) (t:=t) (σ₁:=[]) (σ₂:=σ) (S:=S) (n:=n) hs1 n2 H2 (by exact ule (by assumption))
    have gk:=body_gen (n:=n) hs1
    have hs3 : SOk (bodyR n s1).2:=body_ok hs1
    generalize bodyR n s1 = B at bd gk hs3
    obtain ⟨bl,s2⟩:=B
    have gk : GenOk n bl:=gk
    have hs3 : SOk s2:=hs3
    have bd : FnTo c2 (srcM S s1 :: σ) (.ref t.l_body) [.raw (.ref S),.int n] (bodV t "f" n (tysL n) bl) (srcM S s2 :: σ):=bd
    have x2 : XTo c2 (lwV t (.list (is.map V.int)) (some (.raw (.ref S))) (some (.int n)) (some (bodV t "f" n (tysL n) bl)) .none .none .none .none) (srcM S s2 :: σ) ((bodyOf (stmtAt 50)).drop 3) (Ends Q):=⟨fun c3 hs4 => by
      have H3 : Has t c3:=H2.like hs4.like
      have hn3 : 20 ≤ c3.n:=hs4.n ▸ hn2
      have hsc3 : c3.env.scope = scopeOf (stmtAt 50):=by rw [hs4.env]; exact hsc2
      have hcomp3 : c3.comp = Option.none:=hs4.comp.trans hcomp2
      exact x_law gk hs3 n2 hcomp3 hsc3 H3 hn3 q⟩
    refine xv_sound hsc2 60 (O:={ calls:=[(524016036,.int n,some (srcM S s1 :: σ)),(525011039,bodV t "f" n (tysL n) bl,some (srcM S s2 :: σ))],stops:=[526004087] }) ?_ Cx.Same.refl
    exact kc5 k1 tk k2 bd x2⟩
  have k1 : Callable c (.ref t.l_pool):=callable_K H.l_pool.2.keep
  refine xv_sound hsc 60 (O:={ news:=[(523013034,⟨Int × Int × Addr,fun i => SrcOk i.1 i.2.1,fun i => (.raw (.ref i.2.2),srcM i.2.2 (i.1,i.2.1) :: σ)⟩)],stops:=[524004036] }) ?_ Cx.Same.refl
  exact kc3 k1 (s_poolG (c:=c) (t:=t) (σ:=σ) (is:=is) H (ule hn)) x1
end
end
end Mine
end
section
set_option tactic.hygienic false
namespace Mine
noncomputable section
noncomputable def lawLs : List Str:=["source", "arguments", "body", "before", "found", "turn", "told"]
noncomputable def lawGs (t : Tab) : List (Str × V):=[("_law_pool",.raw (.ref t.l_pool)),("_law_take",.raw (.ref t.l_take)),("_law_body",.raw (.ref t.l_body)),("with_constants",.raw (.ref t.with_constants)),("range",.raw (.type "range")),("_law_run",.raw (.ref t.l_run)),("_law_is_plain",.raw (.ref t.l_is_plain)),("_law_meeting_right",.raw (.ref t.l_meeting_right))]
theorem law_start {c : Cx} {t : Tab} {s : Shared} {cells : Led} {cm : Str → Option Value} {v : Value} {d : V} {L : Addr} (ok : c.Ok) (hgen : s.gens = c.gens) (hos : s.os = c.os) (hc : c.comp = Option.none) (hr : c.rest = []) (hL : c.fenv.locals = L) (hs : c.env.scope = scopeOf (stmtAt 50)) (hcl : c.env.cells = cellsFrom (L + 1) (scopeOf (stmtAt 50)).names [])
    (F : Fr c.h₀ L s.heap (bindL c.env.kindOf [("script",v)] fun Z => Option.none)) (N : News c.h₀ L s.heap cells) (Y : CellsAre cm c.env.cells cells) (hv : ∀ fz,c.VR fz v d) (H : Has t c) : St c (startVars ["script"] lawLs (lawGs t) [d]) [] [] s:=by
  have sg : SigOk (scopeOf (stmtAt 50)) ["script"] lawLs ((lawGs t).map (·.1)):=by
    show SigOk _ _ _ ["_law_pool", "_law_take", "_law_body", "with_constants", "range", "_law_run", "_law_is_plain", "_law_meeting_right"]
    exact SigOk.of (by decide +kernel)
  have hg : ∀ p ∈ lawGs t,∃ v,GV c.K p.1 v ∧ ∀ fz,c.VR fz v p.2:=gcons (gF H.l_pool.1) (gcons (gF H.l_take.1) (gcons (gF H.l_body.1) (gcons (gF H.with_constants.1) (gcons (gF H.b_range) (gcons (gF H.l_run.1) (gcons (gF H.l_is_plain.1) (gcons (gF H.l_meeting_right.1) gnil)))))))
  have kind : ∀ x,c.env.kindOf x = (scopeOf (stmtAt 50)).names.lookup x:=fun x => by rw [← hs]; rfl
  have hown : ∀ x,nameOk (scopeOf (stmtAt 50)) x = true → Own c cells x:=fun x hx => by
    refine ⟨nmDebug hx,?_⟩
    rcases nmKind hx with hk | hk
    · exact .inl ((kind x).trans hk)
    · obtain ⟨a,ha⟩:=Option.isSome_iff_exists.mp (cellsFrom_some (scopeOf (stmtAt 50)).names (L + 1) [] (.inl hk))
      rw [← hcl] at ha
      obtain ⟨o,ho',hd'⟩:=cellsAre_look Y ha
      exact .inr ⟨hc,(kind x).trans hk,a,o,_,ha,ho',hd'⟩
  have ksc : c.env.kindOf "script" = some .local:=(kind "script").trans (by decide +kernel)
  have rel : Rel c (startVars ["script"] lawLs (lawGs t) [d]) [] [] (bindL c.env.kindOf [("script",v)] fun Z => Option.none) [] cells []:={
    sto:=.nil
    own:=fun x d' h => by
      simp only [startVars,List.mem_append,List.mem_map] at h
      rcases h with ⟨p,hp,e'⟩ | ⟨y,hy,e'⟩ | ⟨p,hp,e'⟩
      · cases e'
        have hp : p ∈ [(("script" : Str),d)]:=hp
        rw [List.mem_singleton] at hp
        subst hp
        refine ⟨v,⟨nmDebug (sg.hp "script" (.head _)),?_⟩,hv _⟩
        show match c.env.kindOf "script" with | some .local => _ | some .cell => _ | some .free => _ | some .globalImplicit => _ | _ => _
        rw [ksc]
        exact bindL_at (k:=c.env.kindOf) ksc (by show (["script"] : List Str).Nodup; decide) (.head _)
      · cases e'
      · cases e'
    ro:=fun x d' h => by
      simp only [startVars,List.mem_append,List.mem_map] at h
      rcases h with ⟨p,hp,e'⟩ | ⟨y,hy,e'⟩ | ⟨p,hp,e'⟩
      · cases e'
      · cases e'
      · cases e'
        obtain ⟨v,h1,h2⟩:=hg p hp
        have hgk:=sg.hg p.1 (List.mem_map.mpr ⟨p,hp,rfl⟩)
        simp only [globOk,Bool.and_eq_true,Bool.not_eq_true',beq_iff_eq] at hgk
        refine ⟨v,⟨hgk.1,?_⟩,h2 []⟩
        have hk' : c.env.kindOf p.1 = some .globalImplicit:=(kind p.1).trans hgk.2
        show match c.env.kindOf p.1 with | some .local => _ | some .cell => _ | some .free => _ | some .globalImplicit => _ | _ => _
        rw [hk']
        exact h1
    mine:=fun x o h => by
      simp only [startVars,List.mem_append,List.mem_map] at h
      rcases h with ⟨p,hp,e'⟩ | ⟨y,hy,e'⟩ | ⟨p,hp,e'⟩
      · cases e'
        have hp : p ∈ [(("script" : Str),d)]:=hp
        rw [List.mem_singleton] at hp
        subst hp
        exact hown "script" (sg.hp _ (.head _))
      · cases e'; exact hown _ (sg.hl _ hy)
      · cases e'
    nodup:=sg.nodup
    tmp:=fun v d h => nomatch h }
  refine ⟨ok,hgen,hos,_,[],cells,[],rel,?_,?_,?_,fun q => by rw [hc] at q; cases q⟩
  · rw [hc,hL]; exact F
  · rw [hr,hL]
    simpa using N
  · rw [hr]
    have e1 : keys cells = (cellsFrom (L + 1) (scopeOf (stmtAt 50)).names []).map (·.2):=by rw [← hcl]; exact cellsAre_keys Y
    have e2 : keys ([] ++ (cells ++ ([] ++ ([] : Led)))) = keys cells:=by simp
    rw [e2,e1]
    exact cellsFrom_addrs _ _ _ (fun p hp => nomatch hp) List.nodup_nil
theorem ints_rel {c : Cx} {a : Addr} {vs : List Value} {is : List Int} {fz : Led} (h : c.base.IsList a vs.toArray) (hi : IntsAre vs is) : c.VR fz (.ref a) (.list (is.map V.int)):=by
  obtain ⟨o,h1,h2,n,h3⟩:=h
  refine .list (.inr h1) h2 h3 ?_
  clear h1 h2 h3
  induction hi with
  | nil => exact .nil
  | cons n t _ ih => exact .cons (.int n t) ih
theorem law_run {c : Cx} {t : Tab} {s : Shared} {is : List Int} {E : Value → Shared → Prop} {R : Flow → Shared → Prop} (hcomp : c.comp = Option.none) (hsc : c.env.scope = scopeOf (stmtAt 50)) (H : Has t c) (hn : 20 ≤ c.n) (X : St c (startVars ["script"] lawLs (lawGs t) [.list (is.map V.int)]) [] [] s)
    (hR : ∀ s',s'.gens = c.gens → s'.os = c.os → (∀ b o,c.h₀.get? b = some o → s'.heap.get? b = some o) → R (.ret (.bool true)) s') : wpAny c.M c.A (execs (bodyOf (stmtAt 50)) c.env) R E s:=by
  have w:=w_law (σ:=[]) (is:=is) (Q:=fun d Z => d = .bool true) hcomp hsc H hn (fun Z => rfl)
  refine nope (w [] s R X fun f fl ρ' σ' s' τ' q fr X' => ?_)
  cases fl with
  | ret d =>
    have q : d = .bool true:=q
    subst q
    cases fr with
    | ret v d =>
      obtain rfl:=sBool X' (.head _)
      obtain ⟨ok,g,os,m,raw,cl,fz,r,l⟩:=X'
      exact hR s' g os l.fr.keep
  | next => exact V.noConfusion (show V.none = V.bool true from q)
  | brk => exact False.elim q
  | cont => exact False.elim q
end
end Mine
end
section
set_option tactic.hygienic false
namespace Mine
noncomputable section
noncomputable def lawCx (p : Program) (w : World) (K : Frag) (p' : Program) (loose : List Str) (mean : ExcName → Option Value) (mg mb : Str → Option Value) (h : Heap) (e : Env) (os : OsState) : Cx where
  prog:=p
  w:=w
  K:=K
  p:=p'
  loose:=loose
  mean:=mean
  mg:=mg
  mb:=mb
  base:=h
  A₀:=callerA
  A:=callerA.deeper e
  h₀:=h
  outer:=[]
  fenv:=e
  env:=e
  rest:=[]
  comp:=Option.none
  n:=40
  gens:=#[]
  os:=os
theorem law_fin {p : Program} {w : World} {K : Frag} {p' : Program} {loose : List Str} {mean : ExcName → Option Value} {mg mb : Str → Option Value} {s₁ : Shared} {h₁ : Heap} {tk₁ : Nat} {qual : Str} {fa a : Addr} {cdv : Value} {o : Obj} {vs : List Value} {is : List Int} {cm m : Str → Option Value} {E : Value → Shared → Prop} {R : Flow → Shared → Prop} {t : Tab}
    (HK : K.In s₁.heap) (T : Top p' loose mean mg mb s₁.heap) (B : Below callerA s₁.heap [] s₁.heap) (hg : s₁.gens = #[])
    (F : Fr s₁.heap s₁.heap.objs.size h₁ m) (hm : m = bindL (envOfC qual (scopeOf (stmtAt 50)) s₁.heap.objs.size fa cdv).kindOf [("script",.ref a)] fun Z => Option.none)
    (N : News s₁.heap s₁.heap.objs.size h₁ [(s₁.heap.objs.size + 1,o)])
    (Y : CellsAre cm (cellsFrom (s₁.heap.objs.size + 1) (scopeOf (stmtAt 50)).names []) [(s₁.heap.objs.size + 1,o)])
    (hL : s₁.heap.IsList a vs.toArray) (hi : IntsAre vs is) (H : HasOf t p w K s₁.heap)
    (hR : ∀ s',s'.gens = #[] → s'.os = s₁.os → (∀ b o,s₁.heap.get? b = some o → s'.heap.get? b = some o) → R (.ret (.bool true)) s') :
    wpAny (model p w) (callerA.deeper (envOfC qual (scopeOf (stmtAt 50)) s₁.heap.objs.size fa cdv)) (execs (bodyOf (stmtAt 50)) (envOfC qual (scopeOf (stmtAt 50)) s₁.heap.objs.size fa cdv)) R E { heap:=h₁,gens:=s₁.gens,drawn:=s₁.drawn,toks:=tk₁,os:=s₁.os }:=by
  subst hm
  have ok : (lawCx p w K p' loose mean mg mb s₁.heap (envOfC qual (scopeOf (stmtAt 50)) s₁.heap.objs.size fa cdv) s₁.os).Ok:={
    kb:=HK,T:=T,B:=B
    fr:=Around.frames_deeper rfl
    ff:=rfl,fk:=(by decide +kernel : (scopeOf (stmtAt 50)).kind = .function),ek:=(by decide +kernel : (scopeOf (stmtAt 50)).kind = .function),eg:=rfl,eb:=rfl
    hd:=rfl
    depth:=by show callerA.depth + 1 + 2 * 40 ≤ 900; decide
    units:=by show callerA.units + 3 + 20 * 40 ≤ 9000; decide
    same:=fun Z => rfl
    cells:=cellsFrom_addrs _ _ _ (fun p hp => nomatch hp) List.nodup_nil }
  exact law_run (c:=lawCx p w K p' loose mean mg mb s₁.heap (envOfC qual (scopeOf (stmtAt 50)) s₁.heap.objs.size fa cdv) s₁.os) (t:=t) (is:=is) rfl rfl H (show 20 ≤ 40 by decide) (law_start ok hg rfl rfl rfl rfl rfl rfl F N Y (fun fz => ints_rel hL hi) H) hR
end
end Mine
end
section
set_option tactic.hygienic false
namespace Mine
noncomputable section
set_option genInjectivity false in
set_option genSizeOf false in
noncomputable def tabK (bd : Value) : Tab where
  is_signed:=62
  least:=69
  greatest:=76
  fits:=83
  wrapped:=90
  cast_int:=97
  exact:=111
  checked:=118
  compared:=132
  successors:=202
  copied:=207
  operands_of:=214
  with_operands:=221
  is_followed:=228
  lent_locals:=235
  reckoned_binary:=284
  with_constants:=407
  l_pool:=414
  l_take:=421
  l_one:=428
  l_body:=433
  l_begun:=440
  l_operand:=447
  l_truth:=454
  l_statement:=461
  l_end:=468
  l_read:=475
  l_worked:=482
  l_made:=487
  l_run:=492
  l_next:=497
  l_operands:=504
  l_is_plain:=509
  l_meeting_right:=514
  Facts:=273
  FactsI:=249
  f_at_place:=256
  f_at_operand:=263
  f_forget:=270
  Constants:=396
  ConstantsI:=298
  c_type_of:=305
  c_value_of:=310
  c_of_two:=317
  c_of_one:=324
  c_of_cast:=331
  c_step:=338
  c_behind:=345
  c_gone_on:=350
  c_known_target:=357
  c_meet:=362
  c_follow:=369
  c_put:=376
  c_put_rvalue:=381
  c_put_statement:=388
  c_put_terminator:=393
  Body:=193
  BodyI:=147
  bodyD:=bd
  bits:=55
  compd:=222
  plain:=223
noncomputable abbrev BitX:=Str × Tok × Int × Tok
noncomputable def bitE (w : World) (x : BitX) : DictEntry:=⟨PyData.keyHash w.params x.1,.str x.1 x.2.1,.int x.2.2.1 x.2.2.2⟩
noncomputable def bitL : List BitX:=[("i8",246,8,247),("i16",248,16,249),("i32",250,32,251),("i64",252,64,253),("u8",254,8,255),("u16",256,16,257),("u32",258,32,259),("u64",260,64,261),("usize",262,64,263)]
theorem bit_pairs {prog : Program} {w : World} : ∀ l : List BitX,Pairs (PySem.strKind prog w) (l.map (bitE w)) (l.map fun x => (x.1,Value.int x.2.2.1 x.2.2.2))
  | [] => .nil
  | x :: l => .cons (e:=bitE w x) (kv:=(x.1,Value.int x.2.2.1 x.2.2.2)) (beq_self_eq_true x.1 : (x.1 == x.1) = true) rfl (bit_pairs l)
theorem bit_rels {prog : Program} {w : World} {P : Addr → Obj → Prop} : ∀ l : List BitX,SRels prog w P (l.map fun x => (x.1,Value.int x.2.2.1 x.2.2.2)) (l.map fun x => (x.1,V.int x.2.2.1))
  | [] => .nil
  | x :: l => .cons (.int _ _) (bit_rels l)
theorem bits_of {w : World} {prog : Program} {P : Addr → Obj → Prop} (hP : P 55 { cls:=.type "dict",dict:=none,data:=.dict (bitL.map (bitE w)).toArray 9,slots:=#[] }) : VRel prog w P (.ref 55) bitsV:=by
  refine .sdict (kvs:=bitL.map fun x => (x.1,Value.int x.2.2.1 x.2.2.2)) hP (by decide) ⟨(bitL.map (bitE w)).toArray,9,⟨rfl,rfl,rfl⟩,rfl,?_,bit_pairs bitL,?_⟩ (bit_rels bitL)
  · intro e he
    obtain ⟨x,hx,rfl⟩:=List.mem_map.mp (List.mem_toArray.mp he)
    exact ⟨x.1,(beq_self_eq_true x.1 : (x.1 == x.1) = true),rfl⟩
  · decide +kernel
inductive Rows (w : World) (F : Frag) (bd : Value) : Prop
  | mk
    (is_signed : GV F "is_signed" (.ref (tabK bd).is_signed) ∧ Fn F (tabK bd).is_signed 6)
    (least : GV F "least" (.ref (tabK bd).least) ∧ Fn F (tabK bd).least 7)
    (greatest : GV F "greatest" (.ref (tabK bd).greatest) ∧ Fn F (tabK bd).greatest 8)
    (fits : GV F "fits" (.ref (tabK bd).fits) ∧ Fn F (tabK bd).fits 9)
    (wrapped : GV F "wrapped" (.ref (tabK bd).wrapped) ∧ Fn F (tabK bd).wrapped 10)
    (cast_int : GV F "cast_int" (.ref (tabK bd).cast_int) ∧ Fn F (tabK bd).cast_int 11)
    (exact : GV F "exact" (.ref (tabK bd).exact) ∧ Fn F (tabK bd).exact 13)
    (checked : GV F "checked" (.ref (tabK bd).checked) ∧ Fn F (tabK bd).checked 14)
    (compared : GV F "compared" (.ref (tabK bd).compared) ∧ Fn F (tabK bd).compared 16)
    (successors : GV F "successors" (.ref (tabK bd).successors) ∧ Fn F (tabK bd).successors 19)
    (copied : GV F "copied" (.ref (tabK bd).copied) ∧ Fn F (tabK bd).copied 20)
    (operands_of : GV F "operands_of" (.ref (tabK bd).operands_of) ∧ Fn F (tabK bd).operands_of 21)
    (with_operands : GV F "with_operands" (.ref (tabK bd).with_operands) ∧ Fn F (tabK bd).with_operands 22)
    (is_followed : GV F "is_followed" (.ref (tabK bd).is_followed) ∧ Fn F (tabK bd).is_followed 26)
    (lent_locals : GV F "lent_locals" (.ref (tabK bd).lent_locals) ∧ Fn F (tabK bd).lent_locals 27)
    (reckoned_binary : GV F "reckoned_binary" (.ref (tabK bd).reckoned_binary) ∧ Fn F (tabK bd).reckoned_binary 29)
    (with_constants : GV F "with_constants" (.ref (tabK bd).with_constants) ∧ Fn F (tabK bd).with_constants 31)
    (l_pool : GV F "_law_pool" (.ref (tabK bd).l_pool) ∧ Fn F (tabK bd).l_pool 33)
    (l_take : GV F "_law_take" (.ref (tabK bd).l_take) ∧ Fn F (tabK bd).l_take 34)
    (l_one : GV F "_law_one" (.ref (tabK bd).l_one) ∧ Fn F (tabK bd).l_one 35)
    (l_body : GV F "_law_body" (.ref (tabK bd).l_body) ∧ Fn F (tabK bd).l_body 36)
    (l_begun : GV F "_law_begun" (.ref (tabK bd).l_begun) ∧ Fn F (tabK bd).l_begun 37)
    (l_operand : GV F "_law_operand" (.ref (tabK bd).l_operand) ∧ Fn F (tabK bd).l_operand 38)
    (l_truth : GV F "_law_truth" (.ref (tabK bd).l_truth) ∧ Fn F (tabK bd).l_truth 39)
    (l_statement : GV F "_law_statement" (.ref (tabK bd).l_statement) ∧ Fn F (tabK bd).l_statement 40)
    (l_end : GV F "_law_end" (.ref (tabK bd).l_end) ∧ Fn F (tabK bd).l_end 41)
    (l_read : GV F "_law_read" (.ref (tabK bd).l_read) ∧ Fn F (tabK bd).l_read 42)
    (l_worked : GV F "_law_worked" (.ref (tabK bd).l_worked) ∧ Fn F (tabK bd).l_worked 43)
    (l_made : GV F "_law_made" (.ref (tabK bd).l_made) ∧ Fn F (tabK bd).l_made 44)
    (l_run : GV F "_law_run" (.ref (tabK bd).l_run) ∧ Fn F (tabK bd).l_run 45)
    (l_next : GV F "_law_next" (.ref (tabK bd).l_next) ∧ Fn F (tabK bd).l_next 46)
    (l_operands : GV F "_law_operands" (.ref (tabK bd).l_operands) ∧ Fn F (tabK bd).l_operands 47)
    (l_is_plain : GV F "_law_is_plain" (.ref (tabK bd).l_is_plain) ∧ Fn F (tabK bd).l_is_plain 48)
    (l_meeting_right : GV F "_law_meeting_right" (.ref (tabK bd).l_meeting_right) ∧ Fn F (tabK bd).l_meeting_right 49)
    (Facts : ClsOf F (tabK bd).Facts (tabK bd).FactsI "Facts" 28 .none)
    (f_at_place : MethOf F (tabK bd).Facts "at_place" (tabK bd).f_at_place 28 1 ["known"])
    (f_at_operand : MethOf F (tabK bd).Facts "at_operand" (tabK bd).f_at_operand 28 2 ["known"])
    (f_forget : MethOf F (tabK bd).Facts "forget" (tabK bd).f_forget 28 3 ["known"])
    (g_Facts_known : AttrOf F (tabK bd).Facts "known")
    (s_Facts_known : SetOf F (tabK bd).Facts "known")
    (Constants : ClsOf F (tabK bd).Constants (tabK bd).ConstantsI "Constants" 30 .none)
    (c_type_of : MethOf F (tabK bd).Constants "type_of" (tabK bd).c_type_of 30 1 ["body", "followed", "begins"])
    (c_value_of : MethOf F (tabK bd).Constants "value_of" (tabK bd).c_value_of 30 2 ["body", "followed", "begins"])
    (c_of_two : MethOf F (tabK bd).Constants "of_two" (tabK bd).c_of_two 30 3 ["body", "followed", "begins"])
    (c_of_one : MethOf F (tabK bd).Constants "of_one" (tabK bd).c_of_one 30 4 ["body", "followed", "begins"])
    (c_of_cast : MethOf F (tabK bd).Constants "of_cast" (tabK bd).c_of_cast 30 5 ["body", "followed", "begins"])
    (c_step : MethOf F (tabK bd).Constants "step" (tabK bd).c_step 30 6 ["body", "followed", "begins"])
    (c_behind : MethOf F (tabK bd).Constants "behind" (tabK bd).c_behind 30 7 ["body", "followed", "begins"])
    (c_gone_on : MethOf F (tabK bd).Constants "gone_on" (tabK bd).c_gone_on 30 8 ["body", "followed", "begins"])
    (c_known_target : MethOf F (tabK bd).Constants "known_target" (tabK bd).c_known_target 30 9 ["body", "followed", "begins"])
    (c_meet : MethOf F (tabK bd).Constants "meet" (tabK bd).c_meet 30 10 ["body", "followed", "begins"])
    (c_follow : MethOf F (tabK bd).Constants "follow" (tabK bd).c_follow 30 11 ["body", "followed", "begins"])
    (c_put : MethOf F (tabK bd).Constants "put" (tabK bd).c_put 30 12 ["body", "followed", "begins"])
    (c_put_rvalue : MethOf F (tabK bd).Constants "put_rvalue" (tabK bd).c_put_rvalue 30 13 ["body", "followed", "begins"])
    (c_put_statement : MethOf F (tabK bd).Constants "put_statement" (tabK bd).c_put_statement 30 14 ["body", "followed", "begins"])
    (c_put_terminator : MethOf F (tabK bd).Constants "put_terminator" (tabK bd).c_put_terminator 30 15 ["body", "followed", "begins"])
    (g_Constants_body : AttrOf F (tabK bd).Constants "body")
    (s_Constants_body : SetOf F (tabK bd).Constants "body")
    (g_Constants_followed : AttrOf F (tabK bd).Constants "followed")
    (s_Constants_followed : SetOf F (tabK bd).Constants "followed")
    (g_Constants_begins : AttrOf F (tabK bd).Constants "begins")
    (s_Constants_begins : SetOf F (tabK bd).Constants "begins")
    (Body : ClsOf F 193 147 "Body" 18 bd)
    (bodyD : ∃ a o n,bd = .ref a ∧ F.lookup a = some o ∧ o.data = .seq #[.none,.none] n)
    (g_Body_name : AttrOf F (tabK bd).Body "name")
    (s_Body_name : SetOf F (tabK bd).Body "name")
    (g_Body_arg_count : AttrOf F (tabK bd).Body "arg_count")
    (s_Body_arg_count : SetOf F (tabK bd).Body "arg_count")
    (g_Body_locals : AttrOf F (tabK bd).Body "locals")
    (s_Body_locals : SetOf F (tabK bd).Body "locals")
    (g_Body_blocks : AttrOf F (tabK bd).Body "blocks")
    (s_Body_blocks : SetOf F (tabK bd).Body "blocks")
    (g_Body_spots : AttrOf F (tabK bd).Body "spots")
    (s_Body_spots : SetOf F (tabK bd).Body "spots")
    (bits : GV F "BITS" (.ref 55) ∧ ∀ {h : Heap} {prog : Program},F.In h → ∀ fz : Led,VRel prog w (fun a o => (a,o) ∈ fz ∨ h.get? a = some o) (.ref 55) bitsV)
    (compd : GV F "COMPARED" (.ref 222) ∧ ∀ {h : Heap} {prog : Program},F.In h → ∀ fz : Led,VRel prog w (fun a o => (a,o) ∈ fz ∨ h.get? a = some o) (.ref 222) compdV)
    (plain : GV F "PLAIN" (.ref 223) ∧ ∀ {h : Heap} {prog : Program},F.In h → ∀ fz : Led,VRel prog w (fun a o => (a,o) ∈ fz ∨ h.get? a = some o) (.ref 223) plainV)
    (b_int : GV F "int" (.type "int"))
    (b_len : GV F "len" (.builtin "len"))
    (b_range : GV F "range" (.type "range"))
    (b_list : GV F "list" (.type "list"))
    (b_tuple : GV F "tuple" (.type "tuple"))
    (b_dict : GV F "dict" (.type "dict"))
    (b_sorted : GV F "sorted" (.builtin "sorted"))
    (b_enumerate : GV F "enumerate" (.type "enumerate"))
    (b_isinstance : GV F "isinstance" (.builtin "isinstance"))
    (b_bool : GV F "bool" (.type "bool"))
    (b_max : GV F "max" (.builtin "max")) : Rows w F bd
theorem has_of {w : World} {h : Heap} {prog : Program} {F : Frag} {bd : Value} (hK : F.In h) (r : Rows w F bd) : HasOf (tabK bd) prog w F h:=by
  obtain ⟨r_is_signed,r_least,r_greatest,r_fits,r_wrapped,r_cast_int,r_exact,r_checked,r_compared,r_successors,r_copied,r_operands_of,r_with_operands,r_is_followed,r_lent_locals,r_reckoned_binary,r_with_constants,r_l_pool,r_l_take,r_l_one,r_l_body,r_l_begun,r_l_operand,r_l_truth,r_l_statement,r_l_end,r_l_read,r_l_worked,r_l_made,r_l_run,r_l_next,r_l_operands,r_l_is_plain,r_l_meeting_right,r_Facts,r_f_at_place,r_f_at_operand,r_f_forget,r_g_Facts_known,r_s_Facts_known,r_Constants,r_c_type_of,r_c_value_of,r_c_of_two,r_c_of_one,r_c_of_cast,r_c_step,r_c_behind,r_c_gone_on,r_c_known_target,r_c_meet,r_c_follow,r_c_put,r_c_put_rvalue,r_c_put_statement,r_c_put_terminator,r_g_Constants_body,r_s_Constants_body,r_g_Constants_followed,r_s_Constants_followed,r_g_Constants_begins,r_s_Constants_begins,r_Body,r_bodyD,r_g_Body_name,r_s_Body_name,r_g_Body_arg_count,r_s_Body_arg_count,r_g_Body_locals,r_s_Body_locals,r_g_Body_blocks,r_s_Body_blocks,r_g_Body_spots,r_s_Body_spots,r_bits,r_compd,r_plain,r_b_int,r_b_len,r_b_range,r_b_list,r_b_tuple,r_b_dict,r_b_sorted,r_b_enumerate,r_b_isinstance,r_b_bool,r_b_max⟩:=r
  exact ⟨r_is_signed,r_least,r_greatest,r_fits,r_wrapped,r_cast_int,r_exact,r_checked,r_compared,r_successors,r_copied,r_operands_of,r_with_operands,r_is_followed,r_lent_locals,r_reckoned_binary,r_with_constants,r_l_pool,r_l_take,r_l_one,r_l_body,r_l_begun,r_l_operand,r_l_truth,r_l_statement,r_l_end,r_l_read,r_l_worked,r_l_made,r_l_run,r_l_next,r_l_operands,r_l_is_plain,r_l_meeting_right,r_Facts,r_f_at_place,r_f_at_operand,r_f_forget,r_g_Facts_known,r_s_Facts_known,r_Constants,r_c_type_of,r_c_value_of,r_c_of_two,r_c_of_one,r_c_of_cast,r_c_step,r_c_behind,r_c_gone_on,r_c_known_target,r_c_meet,r_c_follow,r_c_put,r_c_put_rvalue,r_c_put_statement,r_c_put_terminator,r_g_Constants_body,r_s_Constants_body,r_g_Constants_followed,r_s_Constants_followed,r_g_Constants_begins,r_s_Constants_begins,r_Body,r_bodyD,r_g_Body_name,r_s_Body_name,r_g_Body_arg_count,r_s_Body_arg_count,r_g_Body_locals,r_s_Body_locals,r_g_Body_blocks,r_s_Body_blocks,r_g_Body_spots,r_s_Body_spots,⟨r_bits.1,r_bits.2 hK⟩,⟨r_compd.1,r_compd.2 hK⟩,⟨r_plain.1,r_plain.2 hK⟩,r_b_int,r_b_len,r_b_range,r_b_list,r_b_tuple,r_b_dict,r_b_sorted,r_b_enumerate,r_b_isinstance,r_b_bool,r_b_max⟩
end
end Mine
end
namespace Mine.top
noncomputable def tw17542608870123051758:=0
noncomputable def tw3976154599441133093:=0
noncomputable def tw16878204669230926818:=0
noncomputable def tw4213018616267185653:=0
noncomputable def tw1971433849790844608:=0
noncomputable def tw4547018644641229820:=0
noncomputable def tw1836856682681831516:=0
noncomputable def tw4047667213573674445:=0
noncomputable def tw11520865232209809239:=0
noncomputable def tw17860980792414646946:=0
noncomputable def tw2464713573024523455:=0
noncomputable def tw13994475860397038760:=0
noncomputable def tw352232786441526191:=0
noncomputable def tw9227057690007400460:=0
noncomputable def tw14632489290957082403:=0
noncomputable def tw5667650583090716360:=0
noncomputable def tw14823308797102314842:=0
noncomputable def tw7008692893051332821:=0
noncomputable def tw1040915598704419856:=0
noncomputable def tw18177719399980262173:=0
noncomputable def tw18034075008235765660:=0
noncomputable def tw775762912060472103:=0
noncomputable def tw9366391650621772374:=0
noncomputable def tw283044589724301:=0
noncomputable def tw1617357707322924660:=0
noncomputable def tw427269002284569659:=0
noncomputable def tw4796303294375832693:=0
noncomputable def tw2506305409684761478:=0
noncomputable def tw8598144960395782539:=0
noncomputable def tw6127594578889010139:=0
noncomputable def tw13802547742096326172:=0
noncomputable def tw11133666699803404755:=0
noncomputable def tw11334350811105764591:=0
noncomputable def tw2665807947273092163:=0
noncomputable def tw5244899138074338376:=0
noncomputable def tw1869187583165140508:=0
noncomputable def tw3730354652608582461:=0
noncomputable def tw8679839319945467846:=0
noncomputable def tw908825868028484722:=0
noncomputable def tw1814787853859245837:=0
noncomputable def tw7527032243904285869:=0
noncomputable def tw11922380849998532372:=0
noncomputable def tw1754339480302792767:=0
noncomputable def tw6211089042160764376:=0
noncomputable def tw16719718919923625709:=0
noncomputable def tw16123964013534891561:=0
noncomputable def tw4383139521930768336:=0
noncomputable def tw13345470168829271861:=0
noncomputable def tw7115824082346440616:=0
noncomputable def tw13369591340354186047:=0
noncomputable def tw13017234982284058395:=0
noncomputable def tw3019106374644219109:=0
noncomputable def tw16439428074185983240:=0
noncomputable def tw16415559393655328363:=0
noncomputable def tw6333448901615975916:=0
noncomputable def tw8321918168302905379:=0
noncomputable def tw10327409571362585415:=0
noncomputable def tw7198060816514059695:=0
noncomputable def tw11858546649754279707:=0
noncomputable def tw47109162367338493:=0
noncomputable def tw14371913498598963198:=0
noncomputable def tw6292954644110606532:=0
noncomputable def tw16058212318047004132:=0
noncomputable def tw12415523145999629524:=0
noncomputable def tw5225153198818245361:=0
noncomputable def tw390997316461189296:=0
noncomputable def tw10738667744079411339:=0
noncomputable def tw1124271682379634556:=0
noncomputable def tw4597200072644226624:=0
noncomputable def tw8735323631387419056:=0
noncomputable def tw7204998973626084599:=0
noncomputable def tw8645369167282567922:=0
noncomputable def tw1284575025550258836:=0
noncomputable def tw8689318265317240412:=0
noncomputable def tw11769345161549703396:=0
noncomputable def tw6694047246710070196:=0
noncomputable def tw5225916559131626549:=0
noncomputable def tw7313339093194340965:=0
noncomputable def tw8729362747519067210:=0
noncomputable def tw7681529838311687354:=0
noncomputable def tw5609151216138764652:=0
noncomputable def tw13272337422414781067:=0
noncomputable def tw10801874191123338550:=0
noncomputable def tw8212240652046128837:=0
noncomputable def tw6659320528611288953:=0
noncomputable def tw13359135706311490777:=0
noncomputable def tw11762496359356365647:=0
noncomputable def tw1068965626710143233:=0
noncomputable def tw14399976873020721970:=0
noncomputable def tw7250933059871147345:=0
noncomputable def tw2985252069258134486:=0
noncomputable def tw681777741448182936:=0
noncomputable def tw16004416686337608138:=0
noncomputable def tw8204474986945543665:=0
noncomputable def tw13370750898655102155:=0
noncomputable def tw8435561252592420358:=0
noncomputable def tw12425085872883035938:=0
noncomputable def tw5088376156974544275:=0
noncomputable def tw1149218181149386328:=0
noncomputable def tw18064794426631996164:=0
noncomputable def tw9851269098105209369:=0
noncomputable def tw7325726471975496349:=0
noncomputable def tw7847650389618582240:=0
noncomputable def tw14453841093610474573:=0
noncomputable def tw8833053369097974544:=0
noncomputable def tw14901070454687303710:=0
noncomputable def tw4392038535549328194:=0
noncomputable def tw2377541652452675900:=0
noncomputable def tw4835499133494076262:=0
noncomputable def tw1788138344755669473:=0
noncomputable def tw10006222313960134694:=0
noncomputable def tw10783980745131425670:=0
noncomputable def tw7160873610591055699:=0
noncomputable def tw3479634599624807885:=0
noncomputable def tw1275901062530889299:=0
noncomputable def tw12342655685612074800:=0
noncomputable def tw10936122117785486979:=0
noncomputable def tw14826035006057030972:=0
noncomputable def tw15245507539482535896:=0
noncomputable def tw1697544655201012999:=0
noncomputable def tw1843344800811705456:=0
noncomputable def tw3422688185749166683:=0
noncomputable def tw9961057766049560675:=0
noncomputable def tw16759092144687519636:=0
noncomputable def tw7444641836354208208:=0
noncomputable def tw15092371282622821202:=0
noncomputable def tw1676862907878916244:=0
noncomputable def tw14263998999751124003:=0
noncomputable def tw12080426169559351053:=0
noncomputable def tw15286249088069653756:=0
noncomputable def tw12483720753089274532:=0
noncomputable def tw13310400573052568472:=0
noncomputable def tw4551080515912023512:=0
noncomputable def tw2126296398998916975:=0
noncomputable def tw4736427724481360342:=0
noncomputable def tw17342085116792181814:=0
noncomputable def tw6919701780365589675:=0
noncomputable def tw3739144386018749749:=0
noncomputable def tw15976228082101565994:=0
noncomputable def tw860223938195835975:=0
noncomputable def tw18085771088847121727:=0
noncomputable def tw11582926029173025856:=0
noncomputable def tw8237333600419904120:=0
noncomputable def tw14724332232928298890:=0
noncomputable def tw5476889619067714990:=0
noncomputable def tw17810072253543177317:=0
noncomputable def tw6906291655842520137:=0
noncomputable def tw17620759639134147866:=0
noncomputable def tw13928562000808390012:=0
noncomputable def tw13090165191389475591:=0
noncomputable def tw15349318334595610263:=0
noncomputable def tw10562855833978642645:=0
noncomputable def tw11141966352661209427:=0
noncomputable def tw13290321428070320777:=0
noncomputable def tw17323899518341599180:=0
noncomputable def tw5058314954733539658:=0
noncomputable def tw8369368087495890639:=0
noncomputable def tw4526881389914513428:=0
noncomputable def tw501154541418245514:=0
noncomputable def tw11240886729373846589:=0
noncomputable def tw13420762306968818387:=0
noncomputable def tw8148004212497801138:=0
noncomputable def tw13307591127769906961:=0
noncomputable def tw8265191368974092141:=0
noncomputable def tw13134186033006778460:=0
noncomputable def tw2822501910515967889:=0
noncomputable def tw877433047237710547:=0
noncomputable def tw2731995056826638727:=0
noncomputable def tw3207569582813703071:=0
noncomputable def tw7830913209206220567:=0
noncomputable def tw708234853630380328:=0
noncomputable def tw7671549972530922468:=0
noncomputable def tw9913501989792142831:=0
noncomputable def tw13968125046926948103:=0
noncomputable def tw2417791160451022400:=0
noncomputable def tw15503665604740900718:=0
noncomputable def tw3767615275625035234:=0
noncomputable def tw6487610083215253720:=0
noncomputable def tw8311017846404947139:=0
noncomputable def tw6662652255960138227:=0
noncomputable def tw7847352863974893604:=0
noncomputable def tw4671429814451907529:=0
noncomputable def tw16453443671601555132:=0
noncomputable def tw13799840507378627052:=0
noncomputable def tw2835187731363253809:=0
noncomputable def tw14789260269991461300:=0
noncomputable def tw1212798325632107971:=0
noncomputable def tw11613256710310857696:=0
noncomputable def tw14402358008270493973:=0
noncomputable def tw6624316729101989866:=0
noncomputable def tw11459358961799972967:=0
noncomputable def tw9382581127745807760:=0
noncomputable def tw17022078359063049780:=0
noncomputable def tw8184561461823581802:=0
noncomputable def tw11423202765487971197:=0
noncomputable def tw9743097575036673082:=0
noncomputable def tw15874363893724204672:=0
noncomputable def tw1988063486488863061:=0
noncomputable def tw14349089067433371257:=0
noncomputable def tw9059672392935016618:=0
noncomputable def tw7429413206186439793:=0
noncomputable def tw16155163154822807229:=0
noncomputable def tw9601329371697537090:=0
noncomputable def tw10399464001100048223:=0
noncomputable def tw13177472732611162249:=0
noncomputable def tw10579768621468169598:=0
noncomputable def tw7990429038631628895:=0
noncomputable def tw72247145696351765:=0
noncomputable def tw2145171640123136144:=0
noncomputable def tw1321871150748368714:=0
noncomputable def tw5118827330378232414:=0
noncomputable def tw17103177528636943170:=0
noncomputable def tw2267912224990424062:=0
noncomputable def tw15877122091014420850:=0
noncomputable def tw12427389293880184781:=0
noncomputable def tw6520327441239513222:=0
noncomputable def tw17565814175750979855:=0
noncomputable def tw18237780215024852062:=0
noncomputable def tw16900427199656544559:=0
noncomputable def tw10774637447528242797:=0
noncomputable def tw8880577264416698426:=0
noncomputable def tw8694864300669457046:=0
noncomputable def tw17795014544551873601:=0
noncomputable def tw2581206410525282061:=0
noncomputable def tw146815374380898660:=0
noncomputable def tw1886144042066472794:=0
noncomputable def tw2847958352784047137:=0
noncomputable def tw620129878449983639:=0
noncomputable def tw9614876229902214918:=0
noncomputable def tw521701566708251284:=0
noncomputable def tw14459580976405569124:=0
noncomputable def tw381845443943030031:=0
noncomputable def tw6286779285267259847:=0
noncomputable def tw5766051744304087583:=0
noncomputable def tw1516213087968936877:=0
noncomputable def tw10404823597219466188:=0
noncomputable def tw18008055252877512497:=0
noncomputable def tw7743179893348639699:=0
noncomputable def tw1108800333578037850:=0
noncomputable def tw9227541089923242437:=0
noncomputable def tw53344730913325255:=0
noncomputable def tw4859757453598101857:=0
noncomputable def tw12392516345856041104:=0
noncomputable def tw9800703332001039478:=0
noncomputable def tw14608685727046917156:=0
noncomputable def tw15985961358823992270:=0
noncomputable def tw2312856594315299383:=0
noncomputable def tw14917401599646851644:=0
noncomputable def tw705360758644809490:=0
noncomputable def tw5597187220613765494:=0
noncomputable def tw3871027444623705763:=0
noncomputable def tw12764151676501842404:=0
noncomputable def tw13223034962123697568:=0
noncomputable def tw17046948494117081484:=0
noncomputable def tw17953984050398360512:=0
noncomputable def tw11430207588045935325:=0
noncomputable def tw15346330546999012534:=0
noncomputable def tw4076138812419527698:=0
noncomputable def tw4159251561096739476:=0
noncomputable def tw12209182163369298222:=0
noncomputable def tw10773188271377071773:=0
noncomputable def tw13001836021917841797:=0
noncomputable def tw2249405535684624136:=0
noncomputable def tw2812155379371279736:=0
noncomputable def tw10001883323181062329:=0
noncomputable def tw3995942328266245912:=0
noncomputable def tw6749217079512962374:=0
noncomputable def tw13501252493785611398:=0
noncomputable def tw6505410396798821541:=0
noncomputable def tw3217022616335106338:=0
noncomputable def tw6885214360128481674:=0
noncomputable def tw15212760480394562756:=0
noncomputable def tw16174758807025615021:=0
noncomputable def tw10195997230039290492:=0
noncomputable def tw11199532085631943738:=0
noncomputable def tw8265311939077410998:=0
noncomputable def tw3378803678994701225:=0
noncomputable def tw6187478851450931391:=0
noncomputable def tw15878805988109762761:=0
noncomputable def tw4916261283513009128:=0
noncomputable def tw9335426496214029073:=0
noncomputable def tw18086089286151905521:=0
noncomputable def tw8410488445778877200:=0
noncomputable def tw11522398371468782414:=0
noncomputable def tw2722852734226103192:=0
noncomputable def tw13120753694373217308:=0
noncomputable def tw5155950481276406077:=0
noncomputable def tw9259421805112917234:=0
noncomputable def tw16795567611416646642:=0
noncomputable def tw2218668502564051296:=0
noncomputable def tw16541100652227675460:=0
noncomputable def tw3315250197877816394:=0
noncomputable def tw15254643099363442306:=0
noncomputable def tw6189502492464219833:=0
noncomputable def tw8538268897159353584:=0
noncomputable def tw11279390925490393535:=0
noncomputable def tw15740088241188596515:=0
noncomputable def tw17886615442053742456:=0
noncomputable def tw15722756333993289495:=0
noncomputable def tw6430265229019958763:=0
noncomputable def tw5278709424875269971:=0
noncomputable def tw17103585973383926153:=0
noncomputable def tw3561193834555079511:=0
noncomputable def tw17355269125676882429:=0
noncomputable def tw11546936639936008217:=0
noncomputable def tw10915162052029792233:=0
noncomputable def tw4940147422707163885:=0
noncomputable def tw8560541052185303311:=0
noncomputable def tw14796646475526232899:=0
noncomputable def tw6491118196486620199:=0
noncomputable def tw105208000716104510:=0
noncomputable def tw3140898538269762758:=0
noncomputable def tw1492452104121835379:=0
noncomputable def tw9378254376102152143:=0
noncomputable def tw6265701101103706036:=0
noncomputable def tw1736530178072539846:=0
noncomputable def tw6859976401760118174:=0
noncomputable def tw11134409312858018536:=0
noncomputable def tw3696473221133414273:=0
noncomputable def tw10341860258655708415:=0
noncomputable def tw8968299171318014206:=0
noncomputable def tw11466170419677230873:=0
noncomputable def tw17470836177267949868:=0
noncomputable def tw13896958669275611876:=0
noncomputable def tw4498253355057717688:=0
noncomputable def tw1112988674713690477:=0
noncomputable def tw1139600151236580504:=0
noncomputable def tw15095372191486117680:=0
noncomputable def tw8025738503920905074:=0
noncomputable def tw13303987763403120937:=0
noncomputable def tw12622177474791663080:=0
noncomputable def tw18371284783138465269:=0
noncomputable def tw8892184565913893157:=0
noncomputable def tw5006934033680142597:=0
noncomputable def tw6042063481754889096:=0
noncomputable def tw16196420915677631385:=0
noncomputable def tw10574840078274726829:=0
noncomputable def tw16273406610938067001:=0
noncomputable def tw9759319705405543751:=0
noncomputable def tw17315540178315561739:=0
noncomputable def tw15937251751513688862:=0
noncomputable def tw12105128591322288922:=0
noncomputable def tw8281120267493503204:=0
noncomputable def tw12643491718579748851:=0
noncomputable def tw1016984595167383106:=0
noncomputable def tw9152664641465651067:=0
noncomputable def tw1047907039808853306:=0
noncomputable def tw13318506193475082254:=0
noncomputable def tw2544169868661182894:=0
noncomputable def tw5702910450625016506:=0
noncomputable def tw6898770573198911631:=0
noncomputable def tw4299629679881509495:=0
noncomputable def tw15860264024139754761:=0
noncomputable def tw9919435345466941130:=0
noncomputable def tw12166907935582030026:=0
noncomputable def tw16054190913257422852:=0
noncomputable def tw12540527436937284434:=0
noncomputable def tw8813761850579938390:=0
noncomputable def tw14502225709538309166:=0
noncomputable def tw3484022092364678248:=0
noncomputable def tw12317137736924338119:=0
noncomputable def tw10567129059001840431:=0
noncomputable def tw1245559373397905713:=0
noncomputable def tw16420938139371093754:=0
noncomputable def tw10996937224433265937:=0
noncomputable def tw4840481374290595910:=0
noncomputable def tw6674990990233134667:=0
noncomputable def tw6883741973766446791:=0
noncomputable def tw6973401727384321114:=0
noncomputable def tw10194810499950245846:=0
noncomputable def tw18186074749648716422:=0
noncomputable def tw14747140909534839006:=0
noncomputable def tw1655259298481077034:=0
noncomputable def tw8657480035899644758:=0
noncomputable def tw10299510785221337378:=0
noncomputable def tw788273225186049534:=0
noncomputable def tw12318557346453588183:=0
noncomputable def tw2555065506035805374:=0
noncomputable def tw11199710921928265848:=0
noncomputable def tw2443449257678562572:=0
noncomputable def tw4331257952254489624:=0
noncomputable def tw15361541807878343388:=0
noncomputable def tw11443710868159068359:=0
noncomputable def tw14987219478266130788:=0
noncomputable def tw11994683656316670133:=0
noncomputable def tw1638113669730673903:=0
noncomputable def tw8043003576528973991:=0
noncomputable def tw16800595933775061595:=0
noncomputable def tw3969286963782609292:=0
noncomputable def tw9165953624949470791:=0
noncomputable def tw16104615914030681952:=0
noncomputable def tw15299407806266782574:=0
noncomputable def tw9178861053002065721:=0
noncomputable def tw17492772389151264855:=0
noncomputable def tw5969682004907312646:=0
noncomputable def tw814325599930780420:=0
noncomputable def tw14597223018079223185:=0
noncomputable def tw9233715247699887402:=0
noncomputable def tw2220570432770164149:=0
noncomputable def tw6746510453823603384:=0
noncomputable def tw9631074621892390191:=0
noncomputable def tw17428532607074087071:=0
noncomputable def tw342308947776675178:=0
noncomputable def tw2878843996050045342:=0
noncomputable def tw9361663168868926718:=0
noncomputable def tw2907113945770861938:=0
noncomputable def tw995497684801637723:=0
noncomputable def tw2617719716777270872:=0
noncomputable def tw10694878333477680388:=0
noncomputable def tw8910380819239827191:=0
noncomputable def tw4205137553216949640:=0
noncomputable def tw1601500998369573665:=0
noncomputable def tw14282377253939248939:=0
noncomputable def tw9059832203979395877:=0
noncomputable def tw10079171474624433434:=0
noncomputable def tw9590735534726013551:=0
noncomputable def tw15240379268576122478:=0
noncomputable def tw3261557481417251176:=0
noncomputable def tw12958664272152378060:=0
noncomputable def tw8363718466572441477:=0
noncomputable def tw17469865338272021226:=0
noncomputable def tw12787338502077490372:=0
noncomputable def tw5860347150701562758:=0
noncomputable def tw12718909917080609646:=0
noncomputable def tw8523463495250067690:=0
noncomputable def tw15169761463676818070:=0
noncomputable def tw12094960947251128927:=0
noncomputable def tw11845233108574324481:=0
noncomputable def tw427420600052151026:=0
noncomputable def tw6756868429301003459:=0
noncomputable def tw594810645892935528:=0
noncomputable def tw16044733080236030384:=0
noncomputable def tw4699463449715708850:=0
noncomputable def tw17555251805378815213:=0
noncomputable def tw14537839394382259888:=0
noncomputable def tw7600245330811189008:=0
noncomputable def tw8810280945414196856:=0
noncomputable def tw13822267516522204269:=0
noncomputable def tw4784893810139332661:=0
noncomputable def tw14657780768301432306:=0
noncomputable def tw10864713392326063847:=0
noncomputable def tw8507776931139520737:=0
noncomputable def tw9589608677651300831:=0
noncomputable def tw1483126911874232274:=0
noncomputable def tw11203750815551599093:=0
noncomputable def tw370947364307004932:=0
noncomputable def tw13264354339760550358:=0
noncomputable def tw3002795768020413707:=0
noncomputable def tw987869383939708018:=0
noncomputable def tw15646934709686841381:=0
noncomputable def tw3712731000106771831:=0
noncomputable def tw795583310449317561:=0
noncomputable def tw9229161468869434483:=0
noncomputable def tw1400011881503588481:=0
noncomputable def tw18245740138792012028:=0
noncomputable def tw3584897518013459382:=0
noncomputable def tw13012589842206080548:=0
noncomputable def tw2782073688633401757:=0
noncomputable def tw8107780213005350392:=0
noncomputable def tw8443935842833279946:=0
noncomputable def tw9503340733035011235:=0
noncomputable def tw8140125068956082859:=0
noncomputable def tw2741389259953327712:=0
noncomputable def tw16597617366809209970:=0
noncomputable def tw9442318146202087700:=0
noncomputable def tw8472579005086612782:=0
noncomputable def tw16204670001084760307:=0
noncomputable def tw339143206060000330:=0
noncomputable def tw13889309363888878346:=0
noncomputable def tw7414872774492366064:=0
noncomputable def tw4166218997396506358:=0
noncomputable def tw14697636140705633519:=0
noncomputable def tw7458633546980236471:=0
noncomputable def tw14390669486469195807:=0
noncomputable def tw887695700811335699:=0
noncomputable def tw3195968871104189447:=0
noncomputable def tw9272544492142499777:=0
noncomputable def tw12216891806147817523:=0
noncomputable def tw9843447840031818808:=0
noncomputable def tw1142415686869020238:=0
noncomputable def tw14611434983143301774:=0
noncomputable def tw2683898200743741643:=0
noncomputable def tw2514443458684651071:=0
noncomputable def tw10187264123177260123:=0
noncomputable def tw196536941598035525:=0
noncomputable def tw5523086135645875356:=0
noncomputable def tw12385144161495827662:=0
noncomputable def tw9953747333497923681:=0
noncomputable def tw10008474027749305400:=0
noncomputable def tw517144808224063464:=0
noncomputable def tw12012865196380796599:=0
noncomputable def tw14762295962024373759:=0
noncomputable def tw11334415319851112604:=0
noncomputable def tw14615657086365298920:=0
noncomputable def tw13160728816969591200:=0
noncomputable def tw2007660962349395123:=0
noncomputable def tw16713831800681072344:=0
noncomputable def tw12545222027267286695:=0
noncomputable def tw575894324575664597:=0
noncomputable def tw15362295582089109014:=0
noncomputable def tw13068111086705522682:=0
noncomputable def tw14861896470697024400:=0
noncomputable def tw7386116660499605909:=0
noncomputable def tw9195894827357321740:=0
noncomputable def tw1291508964198565346:=0
noncomputable def tw13706816188851595723:=0
noncomputable def tw2758071753971750899:=0
noncomputable def tw2029088862249889922:=0
noncomputable def tw14372152842798730730:=0
noncomputable def tw15177526630643400193:=0
noncomputable def tw1706793611546318481:=0
noncomputable def tw76412952228603488:=0
noncomputable def tw6761616313442571491:=0
noncomputable def tw17177869089781658578:=0
noncomputable def tw10797620697341660853:=0
noncomputable def tw4571971715460732019:=0
noncomputable def tw17781115878593249900:=0
noncomputable def tw8973803690348224638:=0
noncomputable def tw9962302188120564619:=0
noncomputable def tw15569959144833144457:=0
noncomputable def tw4321519831107876412:=0
noncomputable def tw9768079942903668216:=0
noncomputable def tw6370870915552960936:=0
noncomputable def tw9108098604805947806:=0
noncomputable def tw9951221954081769418:=0
noncomputable def tw16821654228018055803:=0
noncomputable def tw12256363837256957063:=0
noncomputable def tw3474246075231452896:=0
noncomputable def tw13326734554550294991:=0
noncomputable def tw8345894832289464959:=0
noncomputable def tw17486766287000646611:=0
noncomputable def tw4177254973167742082:=0
noncomputable def tw14145802354927516647:=0
noncomputable def tw17030962893124633753:=0
noncomputable def tw672699306608606093:=0
noncomputable def tw10657950659306570408:=0
noncomputable def tw10361075674979980167:=0
noncomputable def tw2369445192022557226:=0
end Mine.top
set_option maxRecDepth 100000 in
set_option maxHeartbeats 8000000 in
theorem Mine.post_true (args : List WData) : PySem.Challenge.rw_nz0129_01.row.toRowW.claim.post args (.bool true) args = true:=by
  refine postW_of (X:=true) (by rfl) ?_ rfl
  show WTm.value _ (.eq .res (.lit (.bool true))) _ = some (.bool true)
  simp [WTm.value]
  all_goals (try rfl)
  all_goals (try decide +kernel)
set_option Elab.async true
set_option maxRecDepth 100000 in
set_option maxHeartbeats 8000000 in
theorem Mine.top : PySem.Challenge.rw_nz0129_01.Holds:=by
  w_on
  o_law
  k_head
  (case hw => w_witness2)
  w_strict (k_go0; (
    have H:=Mine.has_of (prog:=PySem.Challenge.rw_nz0129_01.row.toRowW.prog) (F:=Mine.top.heap_1_39 _) (bd:=_) (by assumption) ⟨⟨.inl rfl,_,_,_,_,_,_,_,_,_,_,_,rfl,rfl⟩,
      ⟨.inl rfl,_,_,_,_,_,_,_,_,_,_,_,rfl,rfl⟩,
      ⟨.inl rfl,_,_,_,_,_,_,_,_,_,_,_,rfl,rfl⟩,
      ⟨.inl rfl,_,_,_,_,_,_,_,_,_,_,_,rfl,rfl⟩,
      ⟨.inl rfl,_,_,_,_,_,_,_,_,_,_,_,rfl,rfl⟩,
      ⟨.inl rfl,_,_,_,_,_,_,_,_,_,_,_,rfl,rfl⟩,
      ⟨.inl rfl,_,_,_,_,_,_,_,_,_,_,_,rfl,rfl⟩,
      ⟨.inl rfl,_,_,_,_,_,_,_,_,_,_,_,rfl,rfl⟩,
      ⟨.inl rfl,_,_,_,_,_,_,_,_,_,_,_,rfl,rfl⟩,
      ⟨.inl rfl,_,_,_,_,_,_,_,_,_,_,_,rfl,rfl⟩,
      ⟨.inl rfl,_,_,_,_,_,_,_,_,_,_,_,rfl,rfl⟩,
      ⟨.inl rfl,_,_,_,_,_,_,_,_,_,_,_,rfl,rfl⟩,
      ⟨.inl rfl,_,_,_,_,_,_,_,_,_,_,_,rfl,rfl⟩,
      ⟨.inl rfl,_,_,_,_,_,_,_,_,_,_,_,rfl,rfl⟩,
      ⟨.inl rfl,_,_,_,_,_,_,_,_,_,_,_,rfl,rfl⟩,
      ⟨.inl rfl,_,_,_,_,_,_,_,_,_,_,_,rfl,rfl⟩,
      ⟨.inl rfl,_,_,_,_,_,_,_,_,_,_,_,rfl,rfl⟩,
      ⟨.inl rfl,_,_,_,_,_,_,_,_,_,_,_,rfl,rfl⟩,
      ⟨.inl rfl,_,_,_,_,_,_,_,_,_,_,_,rfl,rfl⟩,
      ⟨.inl rfl,_,_,_,_,_,_,_,_,_,_,_,rfl,rfl⟩,
      ⟨.inl rfl,_,_,_,_,_,_,_,_,_,_,_,rfl,rfl⟩,
      ⟨.inl rfl,_,_,_,_,_,_,_,_,_,_,_,rfl,rfl⟩,
      ⟨.inl rfl,_,_,_,_,_,_,_,_,_,_,_,rfl,rfl⟩,
      ⟨.inl rfl,_,_,_,_,_,_,_,_,_,_,_,rfl,rfl⟩,
      ⟨.inl rfl,_,_,_,_,_,_,_,_,_,_,_,rfl,rfl⟩,
      ⟨.inl rfl,_,_,_,_,_,_,_,_,_,_,_,rfl,rfl⟩,
      ⟨.inl rfl,_,_,_,_,_,_,_,_,_,_,_,rfl,rfl⟩,
      ⟨.inl rfl,_,_,_,_,_,_,_,_,_,_,_,rfl,rfl⟩,
      ⟨.inl rfl,_,_,_,_,_,_,_,_,_,_,_,rfl,rfl⟩,
      ⟨.inl rfl,_,_,_,_,_,_,_,_,_,_,_,rfl,rfl⟩,
      ⟨.inl rfl,_,_,_,_,_,_,_,_,_,_,_,rfl,rfl⟩,
      ⟨.inl rfl,_,_,_,_,_,_,_,_,_,_,_,rfl,rfl⟩,
      ⟨.inl rfl,_,_,_,_,_,_,_,_,_,_,_,rfl,rfl⟩,
      ⟨.inl rfl,_,_,_,_,_,_,_,_,_,_,_,rfl,rfl⟩,
      ⟨.inl rfl,rfl,rfl,rfl,rfl,_,_,_,_,_,_,_,_,_,_,_,rfl,rfl⟩,
      ⟨rfl,rfl,rfl,⟨_,_,_,_,_,_,_,_,_,_,_,rfl,rfl⟩,by decide⟩,
      ⟨rfl,rfl,rfl,⟨_,_,_,_,_,_,_,_,_,_,_,rfl,rfl⟩,by decide⟩,
      ⟨rfl,rfl,rfl,⟨_,_,_,_,_,_,_,_,_,_,_,rfl,rfl⟩,by decide⟩,
      ⟨rfl,rfl,_,rfl,rfl⟩,
      ⟨rfl,rfl,rfl,rfl⟩,
      ⟨.inl rfl,rfl,rfl,rfl,rfl,_,_,_,_,_,_,_,_,_,_,_,rfl,rfl⟩,
      ⟨rfl,rfl,rfl,⟨_,_,_,_,_,_,_,_,_,_,_,rfl,rfl⟩,by decide⟩,
      ⟨rfl,rfl,rfl,⟨_,_,_,_,_,_,_,_,_,_,_,rfl,rfl⟩,by decide⟩,
      ⟨rfl,rfl,rfl,⟨_,_,_,_,_,_,_,_,_,_,_,rfl,rfl⟩,by decide⟩,
      ⟨rfl,rfl,rfl,⟨_,_,_,_,_,_,_,_,_,_,_,rfl,rfl⟩,by decide⟩,
      ⟨rfl,rfl,rfl,⟨_,_,_,_,_,_,_,_,_,_,_,rfl,rfl⟩,by decide⟩,
      ⟨rfl,rfl,rfl,⟨_,_,_,_,_,_,_,_,_,_,_,rfl,rfl⟩,by decide⟩,
      ⟨rfl,rfl,rfl,⟨_,_,_,_,_,_,_,_,_,_,_,rfl,rfl⟩,by decide⟩,
      ⟨rfl,rfl,rfl,⟨_,_,_,_,_,_,_,_,_,_,_,rfl,rfl⟩,by decide⟩,
      ⟨rfl,rfl,rfl,⟨_,_,_,_,_,_,_,_,_,_,_,rfl,rfl⟩,by decide⟩,
      ⟨rfl,rfl,rfl,⟨_,_,_,_,_,_,_,_,_,_,_,rfl,rfl⟩,by decide⟩,
      ⟨rfl,rfl,rfl,⟨_,_,_,_,_,_,_,_,_,_,_,rfl,rfl⟩,by decide⟩,
      ⟨rfl,rfl,rfl,⟨_,_,_,_,_,_,_,_,_,_,_,rfl,rfl⟩,by decide⟩,
      ⟨rfl,rfl,rfl,⟨_,_,_,_,_,_,_,_,_,_,_,rfl,rfl⟩,by decide⟩,
      ⟨rfl,rfl,rfl,⟨_,_,_,_,_,_,_,_,_,_,_,rfl,rfl⟩,by decide⟩,
      ⟨rfl,rfl,rfl,⟨_,_,_,_,_,_,_,_,_,_,_,rfl,rfl⟩,by decide⟩,
      ⟨rfl,rfl,_,rfl,rfl⟩,
      ⟨rfl,rfl,rfl,rfl⟩,
      ⟨rfl,rfl,_,rfl,rfl⟩,
      ⟨rfl,rfl,rfl,rfl⟩,
      ⟨rfl,rfl,_,rfl,rfl⟩,
      ⟨rfl,rfl,rfl,rfl⟩,
      ⟨.inl rfl,rfl,rfl,rfl,rfl,_,_,_,_,_,_,_,_,_,_,_,rfl,rfl⟩,
      ⟨_,_,_,rfl,rfl,rfl⟩,
      ⟨rfl,rfl,_,rfl,rfl⟩,
      ⟨rfl,rfl,rfl,rfl⟩,
      ⟨rfl,rfl,_,rfl,rfl⟩,
      ⟨rfl,rfl,rfl,rfl⟩,
      ⟨rfl,rfl,_,rfl,rfl⟩,
      ⟨rfl,rfl,rfl,rfl⟩,
      ⟨rfl,rfl,_,rfl,rfl⟩,
      ⟨rfl,rfl,rfl,rfl⟩,
      ⟨rfl,rfl,_,rfl,rfl⟩,
      ⟨rfl,rfl,rfl,rfl⟩,
      ⟨.inl rfl,fun hK Z => Mine.bits_of (.inr (hK _ _ rfl))⟩,
      ⟨.inl rfl,fun hK Z => .tup (n:=0) (vs:=[.str "==" 489,.str "!=" 490,.str "<" 491,.str "<=" 492,.str ">" 493,.str ">=" 494]) (.inr (hK _ _ rfl)) (.cons (.str _ _) (.cons (.str _ _) (.cons (.str _ _) (.cons (.str _ _) (.cons (.str _ _) (.cons (.str _ _) .nil))))))⟩,
      ⟨.inl rfl,fun hK Z => .tup (n:=0) (vs:=[.str "int" 496,.str "bool" 497]) (.inr (hK _ _ rfl)) (.cons (.str _ _) (.cons (.str _ _) .nil))⟩,
      .inr ⟨rfl,rfl,by decide⟩,
      .inr ⟨rfl,rfl,by decide⟩,
      .inr ⟨rfl,rfl,by decide⟩,
      .inr ⟨rfl,rfl,by decide⟩,
      .inr ⟨rfl,rfl,by decide⟩,
      .inr ⟨rfl,rfl,by decide⟩,
      .inr ⟨rfl,rfl,by decide⟩,
      .inr ⟨rfl,rfl,by decide⟩,
      .inr ⟨rfl,rfl,by decide⟩,
      .inr ⟨rfl,rfl,by decide⟩,
      .inr ⟨rfl,rfl,by decide⟩⟩
    refine Mine.law_fin (by assumption) (by assumption) (by assumption) (by assumption) (by assumption) rfl (by assumption) (by assumption) (by assumption) (by assumption) H ?_
    intro s' g os keep
    refine ⟨.inl ⟨_,.bool true,[],rfl,?_,?_,?_,?_⟩,keep,os,g⟩
    · intro cls; rfl
    · exact .bool true
    · exact Mine.post_true _
    · exact fun Z => ⟨List.nodup_nil,fun a h => nomatch h⟩))
set_option Elab.async false
theorem PySem.Challenge.cw_nz0129_01_holds : PySem.Challenge.rw_nz0129_01.Holds :=
  Mine.top
