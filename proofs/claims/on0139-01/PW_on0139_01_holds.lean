import PyProof.Rows.All
import Wide.All
import OpenK.AllK
import Wide.FinOn
import KE.KTryDeep
import KE.KTab
import KE.KDictNew
import Open.Tops
import KE.KAnyBase
import Lean
import PySem.Challenge.RW_on0139_01
/-
What stands here, in this order. (Joined and shortened by a small program of the author's: remarks taken out, blanks and names shortened.)
1. A rewriting of proof terms: at walk_at "z" the proof made since walk_at "a" is laid down smaller (single uses put in place, terms that stand at several depths named once). It runs as a closure in the library's PySem.W.leftPieces; what comes out is checked by the kernel like any proof.
2. A plain language for what the law reaches (values V, own objects MObj, runs M) and, construct by construct, the rule that the model's code runs so: expressions EX, tests TX, statements SX, blocks BX, calls by contract (COK, GOK), loops, comprehensions, the raise and the catch of BadToken.
3. Mine.top: the module's top, run in stretches; the statement that holds a comprehension is cut at its loop heads.
4. For each def that the law reaches its plain run and the proof that its body runs so; then, def by def, what it computes.
5. law_walk and the theorem.
-/
set_option Elab.async false
set_option maxRecDepth 100000
set_option maxHeartbeats 0
set_option linter.all false
section
open Lean Meta
theorem Mine.rwz {α : Sort u} (P : α → Prop) {a b : α} (h : a = b) (x : P b) : P a := h ▸ x
theorem Mine.rwy {α : Sort u} (P : α → Prop) {a b : α} (h : a = b) (x : P a) : P b := h ▸ x
-- proof terms are laid down smaller: walk_at "a" marks where a proof begins, walk_at "z" rewrites it (the kernel checks what comes out)
example : True := by
  run_tac do
    let old ← PySem.W.leftPieces.get
    let stk ← IO.mkRef ([] : List MVarId)
    let atom := fun (e : Expr) => match e with
      | .bvar _ | .const .. | .fvar _ | .sort _ | .lit _ | .mvar _ => true
      | _ => false
    let occ ← IO.mkRef fun (_ : Nat) (_ : Expr) => (pure 0 : MetaM Nat)
    occ.set fun i e => do
      if e.looseBVarRange ≤ i then return 0
      let o ← occ.get
      let l := match e with
        | .app f a => [(i, f), (i, a)]
        | .lam _ t b _ | .forallE _ t b _ => [(i, t), (i + 1, b)]
        | .letE _ t v b _ => [(i, t), (i, v), (i + 1, b)]
        | .mdata _ b | .proj _ _ b => [(i, b)]
        | _ => []
      let mut n := if e == .bvar i then 1 else 0
      for (j, x) in l do
        if n < 2 then n := n + (← o j x)
      return n
    let rules := fun (e : Expr) => show MetaM Expr from do
      match e with
      | .letE _ _ v b true =>
        if (← (← occ.get) 0 b) ≤ 1 || atom v then return b.instantiate1 v
        return e
      | .lam _ _ (.app f (.bvar 0)) _ => return if f.hasLooseBVar 0 then e else f.lowerLooseBVars 1 1
      | .app (.lam _ _ b _) a =>
        if (← (← occ.get) 0 b) ≤ 1 || atom a then return b.instantiate1 a
        return e
      | .app (.app (.const ``id _) _) x => return x
      | _ =>
        let .const c us := e.getAppFn | return e
        let as := e.getAppArgs
        if (c == ``Eq.mpr || c == ``Eq.mp) && as.size == 4 then
          let h := as[2]!
          if h.isAppOfArity ``congrArg 6 then
            let hs := h.getAppArgs
            if let .const _ [u, .succ .zero] := h.getAppFn then
              return mkAppN (.const (if c == ``Eq.mp then ``Mine.rwy else ``Mine.rwz) [u]) #[hs[0]!, hs[4]!, hs[2]!, hs[3]!, hs[5]!, as[3]!]
        if c == ``Exists.casesOn && as.size == 5 || c == ``And.casesOn && as.size == 5 || c == ``Or.casesOn && as.size == 6 then
          if let .lam _ _ b _ := as[2]! then
            unless b.hasLooseBVar 0 do
              let b := b.lowerLooseBVars 1 1
              if c == ``Exists.casesOn then return mkAppN (.const ``Exists.elim us) #[as[0]!, as[1]!, b, as[3]!, as[4]!]
              if c == ``And.casesOn then return mkAppN (.const ``And.elim us) #[as[0]!, as[1]!, b, as[4]!, as[3]!]
              return mkAppN (.const ``Or.elim []) #[as[0]!, as[1]!, b, as[3]!, as[4]!, as[5]!]
        return e
    let memo ← IO.mkRef ({} : Std.HashMap Expr Expr)
    let pre ← IO.mkRef fun (e : Expr) => (pure e : MetaM Expr)
    pre.set fun e => do
      if atom e then return e
      if let some r := (← memo.get)[e]? then return r
      let p ← pre.get
      let r ← match e with
        | .app f a => pure (.app (← p f) (← p a))
        | .lam _ t b _ => pure (.lam .anonymous (← p t) (← p b) .default)
        | .forallE _ t b _ => pure (.forallE .anonymous (← p t) (← p b) .default)
        | .letE _ t v b n => pure (.letE .anonymous (← p t) (← p v) (← p b) n)
        | .mdata _ b => p b
        | .proj n i b => pure (.proj n i (← p b))
        | _ => pure e
      let r ← rules r
      memo.modify (·.insert e r)
      return r
    -- every binder opened; lv: the binders that a term hangs on
    let ord ← IO.mkRef (#[] : Array Expr)
    let lc ← IO.mkRef ({} : LocalContext)
    let cnt ← IO.mkRef 2
    let lvl ← IO.mkRef ({} : Std.HashMap FVarId Nat)
    let noLet ← IO.mkRef ({} : Std.HashSet Nat)
    let tele ← IO.mkRef ({} : Std.HashMap Expr (Array Expr × Expr))
    let lv ← IO.mkRef ({} : Std.HashMap Expr Nat)
    let dep ← IO.mkRef ({} : Std.HashMap Expr (List Nat))
    let chosen ← IO.mkRef ({} : Std.HashSet Expr)
    let lets ← IO.mkRef ({} : Std.HashMap Nat (List (Expr × Expr)))
    let mask := fun (e : Expr) => show MetaM Nat from do
      if let .fvar f := e then return match (← lvl.get)[f]? with
        | some l => 1 <<< l
        | none => 0
      return (← lv.get).getD e 0
    let open1 := fun (t : Expr) (v : Option Expr) (no : Bool) => show MetaM Expr from do
      let k ← cnt.get
      let f : FVarId := ⟨.num `x k⟩
      cnt.set (k + 1)
      lvl.modify (·.insert f k)
      lc.modify fun c => match v with
        | none => c.mkLocalDecl f `x t
        | some v => c.mkLetDecl f `x t v
      if no then noLet.modify (·.insert k)
      return .fvar f
    let visit ← IO.mkRef fun (_ : Expr) => (pure 0 : MetaM Nat)
    visit.set fun e => do
      if atom e then return ← mask e
      if let some l := (← lv.get)[e]? then return l
      let go ← visit.get
      let l ← match e with
        | .app f a => pure ((← go f) ||| (← go a))
        | .lam .. | .forallE .. | .letE .. =>
          let isL := e.isLambda
          let mut b := e
          let mut xs : Array Expr := #[]
          let mut l := 0
          if let .letE _ t v b' _ := e then
            l := (← go t) ||| (← go v)
            xs := #[← open1 t (some v) true]
            b := b'
          else while (if isL then b.isLambda else b.isForall) do
            let t := b.bindingDomain!.instantiateRev xs
            l := l ||| (← go t)
            xs := xs.push (← open1 t none (!isL))
            b := b.bindingBody!
          let body := b.instantiateRev xs
          l := l ||| (← go body)
          for x in xs do
            let m ← mask x
            if l &&& m != 0 then l := l ^^^ m
          tele.modify (·.insert e (xs, body))
          pure l
        | .mdata _ b | .proj _ _ b => go b
        | _ => pure 0
      lv.modify (·.insert e l)
      ord.modify (·.push e)
      return l
    let addDep := fun (e : Expr) (ds : List Nat) (sh : Nat) => show MetaM Unit from do
      if atom e || (← mask e) == 0 then return
      let old := (← dep.get).getD e []
      dep.modify (·.insert e (ds.foldl (fun acc d => if acc.length ≥ 8 || acc.contains (d + sh) then acc else (d + sh) :: acc) old))
    let seen ← IO.mkRef ({} : Std.HashSet Expr)
    let excl ← IO.mkRef fun (_ : Nat) (_ : Expr) => (pure 0 : MetaM Nat)
    excl.set fun L e => do
      if atom e || (← seen.get).size > 100 || (← seen.get).contains e || (← chosen.get).contains e then return 0
      let m ← mask e
      if m == 0 || m.log2 < L then return 0
      seen.modify (·.insert e)
      let go ← excl.get
      match e with
      | .app f a => return 32 + (← go L f) + (← go L a)
      | .mdata _ b | .proj _ _ b => return 40 + (← go L b)
      | _ =>
        let some (xs, body) := (← tele.get)[e]? | return 0
        let mut n := ← go L body
        for x in xs do n := n + 48 + (← go L ((← lc.get).find? x.fvarId!).get!.type)
        return n
    let choose := fun (_ : Unit) => show MetaM Unit from do
      let es ← ord.get
      for e in es.reverse do
        let m ← mask e
        let D := (← dep.get).getD e []
        let mut E := D
        if m == 0 then E := [0]
        else if D.length ≥ 2 && !(← noLet.get).contains m.log2 && !m.testBit 1 then
          seen.set {}
          let gain := (D.length - 1) * (← (← excl.get) m.log2 e)
          if gain > 64 then
            let ty := (← withLCtx (← lc.get) #[] (inferType e)).headBeta
            let _ ← (← visit.get) ty
            seen.set {}
            if gain > 64 + (← (← excl.get) 0 ty) then
              chosen.modify (·.insert e)
              lets.modify fun s => s.insert m.log2 ((e, ty) :: s.getD m.log2 [])
              E := [1000000 + m.log2]
        match e with
        | .app f a => addDep f E 0; addDep a E 0
        | .mdata _ b | .proj _ _ b => addDep b E 0
        | _ =>
          let some (xs, body) := (← tele.get)[e]? | continue
          let mut j := 0
          for x in xs do
            let d := ((← lc.get).find? x.fvarId!).get!
            addDep d.type E j
            if let some v := d.value? then addDep v E j
            j := j + 1
          addDep body E j
    -- building it again
    let pos ← IO.mkRef ({} : Std.HashMap Nat Nat)
    let lpos ← IO.mkRef ({} : Std.HashMap Expr Nat)
    let frames ← IO.mkRef (#[{}] : Array (Std.HashMap (Expr × Nat) Expr))
    let frameOf ← IO.mkRef ({} : Std.HashMap Nat Nat)
    let build ← IO.mkRef fun (_ : Bool) (e : Expr) (_ : Nat) => (pure e : MetaM Expr)
    -- the lets of a level, from position c on
    let putLets := fun (k c : Nat) => show MetaM (Nat × List (Expr × Expr)) from do
      let mut c := c
      let mut l := []
      for (v, ty) in (← lets.get).getD k [] do
        let ty ← (← build.get) false ty c
        l := (ty, ← (← build.get) true v c) :: l
        let p := c
        lpos.modify (·.insert v p)
        frameOf.modify (·.insert k (← frames.get).size)
        frames.modify (·.push {})
        c := c + 1
      return (c, l)
    let wrap := fun (l : List (Expr × Expr)) (b : Expr) => l.foldl (fun b (t, v) => Expr.letE .anonymous t v b true) b
    build.set fun isDef e cur => do
      if let .fvar f := e then
        match (← lvl.get)[f]? with
        | some k => if k ≤ 1 then return e else return .bvar (cur - 1 - (← pos.get).getD k 0)
        | none => return e
      if atom e then return e
      unless isDef do
        if let some p := (← lpos.get)[e]? then return .bvar (cur - 1 - p)
      let m ← mask e
      let fs ← frameOf.get
      let fi := if m == 0 then 0 else fs.getD m.log2 0
      let key := (e, if m == 0 then 0 else cur)
      unless isDef do
        if let some r := (← frames.get)[fi]![key]? then return r
      let go ← build.get
      let r ← match e with
        | .app f a => pure (.app (← go false f cur) (← go false a cur))
        | .mdata _ b => go false b cur
        | .proj n i b => pure (.proj n i (← go false b cur))
        | _ =>
          let some (xs, body) := (← tele.get)[e]? | pure e
          let mut cur := cur
          let mut acc : Array (Expr → Expr) := #[]
          let f0 := (← frames.get).size
          let save ← lpos.get
          let isL := e.isLambda
          for x in xs do
            let d := ((← lc.get).find? x.fvarId!).get!
            let t ← go false d.type cur
            let k := (← lvl.get).getD x.fvarId! 0
            match d.value? with
            | some v =>
              let v ← go false v cur
              let nd := match e with
                | .letE _ _ _ _ b => b
                | _ => false
              acc := acc.push fun b => .letE .anonymous t v b nd
            | none => acc := acc.push fun b => if isL then .lam .anonymous t b .default else .forallE .anonymous t b .default
            let p := cur
            pos.modify (·.insert k p)
            frameOf.modify (·.insert k (← frames.get).size)
            frames.modify (·.push {})
            let (c, l) ← putLets k (cur + 1)
            acc := acc.push (wrap l)
            cur := c
          let b ← go false body cur
          frames.modify (·.shrink f0)
          lpos.set save
          pure (acc.foldr (fun f b => f b) b)
      unless isDef do
        frames.modify fun s => s.modify fi (·.insert key r)
      return r
    let sq := fun (g : MVarId) => show MetaM Unit from do
      let e ← instantiateMVars (.mvar g)
      if e.hasMVar then return
      memo.set {}
      let e ← (← pre.get) e
      memo.set {}
      ord.set #[]; cnt.set 2; lvl.set {}; noLet.set {}; tele.set {}; lv.set {}; dep.set {}; chosen.set {}; lets.set {}; pos.set {}; lpos.set {}; frames.set #[{}]; frameOf.set {}
      let c := (← g.getDecl).lctx
      lc.set c
      for d in c do lvl.modify (·.insert d.fvarId (if d.isAuxDecl then 1 else 0))
      let _ ← (← visit.get) e
      addDep e [0] 0
      choose ()
      let (n, l) ← putLets 0 0
      let r := wrap l (← (← build.get) false e n)
      g.assign r
      memo.set {}; tele.set {}; lv.set {}; dep.set {}; ord.set #[]; frames.set #[{}]
    PySem.W.leftPieces.set (some fun g e p ns => do
      if ns == ["a"] then stk.modify (g :: ·)
      else if ns == ["z"] then
        if let g :: l ← stk.get then
          stk.set l
          g.withContext (sq g)
      else if let some f := old then f g e p ns)
  trivial
end
/-- one step of the closure that stands in leftPieces; what it leaves open becomes the goals -/
def Mine.st (s : String) : Lean.Elab.Tactic.TacticM Unit := do
  let some f ← PySem.W.leftPieces.get | return
  let l ← Lean.Elab.Tactic.getUnsolvedGoals
  f (l.headD default) default default [s]
  if let g :: r := l then Lean.Elab.Tactic.setGoals ((← (← Lean.Meta.getMVarsNoDelayed (.mvar g)).filterM fun m => return (← m.getKind).isSyntheticOpaque).toList ++ r)
local macro_rules | `(tactic| walk_at $s:str) => if s.getString.length != 1 then Lean.Macro.throwUnsupported else `(tactic| run_tac Mine.st $s)
set_option autoImplicit false
section
open PySem PySem.W PyProof.Rows
namespace Mine
inductive V where
 | none
 | bool (b:Bool)
 | int (i:Int)
 | str (s:Str)
 | tup (vs:List V)
 | lst (vs:List V)
 | dct (es:List (Str×V))
 | rng (a b c:Int)
 | obj (i:Nat)
 | const (a:Addr)
 | bi (id:String)
 | ty (n:String)
inductive aE where
 | inst (C:Addr) (as:List (Str×V))
 | list (vs:List V)
 | cell (v:Option V)
 | dT
structure Wd where
 N:List (Addr×Obj)
 μ:List Addr
 δ:List Addr
 hd:List Addr
noncomputable def Wd.free (W:Wd)(a:Addr):Prop:=a∉W.δ∧a∉W.hd
noncomputable abbrev gI (vs:List Value)(n:Nat):Obj:={ cls:=.type "list",data:=.seq vs.toArray n }
noncomputable abbrev tupO (vs:List Value)(n:Nat):Obj:={ cls:=.type "tuple",data:=.seq vs.toArray n }
mutual
inductive VR (P:Params)(W:Wd):V→Value→Prop
 | none:VR P W .none .none
 | bool (b:Bool):VR P W (.bool b) (.bool b)
 | int (i:Int) (t:Tok):VR P W (.int i) (.int i t)
 | str (s:Str) (t:Tok):VR P W (.str s) (.str s t)
 | tup {vs:List V} {rs:List Value} {a:Addr} {n:Nat}:VRs P W vs rs→(a,tupO rs n)∈W.N→W.free a→VR P W (.tup vs) (.ref a)
 | lst {vs:List V} {rs:List Value} {a:Addr} {n:Nat}:VRs P W vs rs→(a,gI rs n)∈W.N→W.free a→VR P W (.lst vs) (.ref a)
 | dct {es:List (Str×V)} {ds:Array DictEntry} {a:Addr} {o:Obj} {n:Nat}:(a==sysModules)=false→o.ExactDict→o.data=.dict ds n→ERs P W es ds.toList→(a,o)∈W.N→W.free a→VR P W (.dct es) (.ref a)
 | rng {a b c:Int} {r:Addr} {t u v:Tok}:(r,({ cls:=.type "range",data:=.fields #[.int a t,.int b u,.int c v] }:Obj))∈W.N→W.free r→VR P W (.rng a b c) (.ref r)
 | obj {i:Nat} {a:Addr}:W.μ[i]? = some a→VR P W (.obj i) (.ref a)
 | const (a:Addr):VR P W (.const a) (.ref a)
 | bi (id:String):VR P W (.bi id) (.builtin id)
 | ty (n:String):VR P W (.ty n) (.type n)
inductive VRs (P:Params)(W:Wd):List V→List Value→Prop
 | nil:VRs P W [] []
 | cons {v:V} {r:Value} {vs:List V} {rs:List Value}:VR P W v r→VRs P W vs rs→VRs P W (v::vs) (r::rs)
inductive ERs (P:Params)(W:Wd):List (Str×V)→List DictEntry→Prop
 | nil:ERs P W [] []
 | cons {k:Str} {t:Tok} {q:Int} {v:V} {r:Value} {es:List (Str×V)} {ds:List DictEntry}:VR P W v r→ERs P W es ds→ERs P W ((k,v)::es) (⟨q,.str k t,r⟩::ds)
end
noncomputable def V.int? (v:V):Option Int:=match v with | .int i=>some i | _=>Option.none
noncomputable def V.eX (v:V):Option Str:=match v with | .str i=>some i | _=>Option.none
noncomputable def V.tup? (v:V):Option (List V):=match v with | .tup i=>some i | _=>Option.none
noncomputable def V.lst? (v:V):Option (List V):=match v with | .lst i=>some i | _=>Option.none
noncomputable def V.obj? (v:V):Option Nat:=match v with | .obj i=>some i | _=>Option.none
noncomputable def V.non? (v:V):Option Unit:=match v with | .none=>some () | _=>Option.none
noncomputable def V.const? (v:V):Option Addr:=match v with | .const i=>some i | _=>Option.none
noncomputable def V.dct? (v:V):Option (List (Str×V)):=match v with | .dct i=>some i | _=>Option.none
noncomputable def V.bool? (v:V):Option Bool:=match v with | .bool i=>some i | _=>Option.none
noncomputable def V.isBi (v:V):Bool:=match v with | .bi _=>true | _=>false
section
variable {P:Params}{W:Wd}{v:V}{r:Value}
theorem V.const?_eq {i:Addr}(h:v.const? = some i):v=.const i:=by
 walk_at "a"
 cases v<;>cases h;rfl
 walk_at "z"
theorem V.bool?_eq {i:Bool}(h:v.bool? = some i):v=.bool i:=by
 walk_at "a"
 cases v<;>cases h;rfl
 walk_at "z"
theorem VR.bool?_i {i:Bool}(h:VR P W v r)(e:v.bool? = some i):r=.bool i:=by
 walk_at "a"
 rw [V.bool?_eq e] at h;cases h;rfl
 walk_at "z"
theorem V.dct?_eq {i:List (Str×V)}(h:v.dct? = some i):v=.dct i:=by
 walk_at "a"
 cases v<;>cases h;rfl
 walk_at "z"
theorem VR.const?_i {i:Addr}(h:VR P W v r)(e:v.const? = some i):r=.ref i:=by
 walk_at "a"
 rw [V.const?_eq e] at h;cases h;rfl
 walk_at "z"
theorem V.int?_eq {i:Int}(h:v.int? = some i):v=.int i:=by
 walk_at "a"
 cases v<;>cases h;rfl
 walk_at "z"
theorem V.str?_eq {i:Str}(h:v.eX = some i):v=.str i:=by
 walk_at "a"
 cases v<;>cases h;rfl
 walk_at "z"
theorem V.tup?_eq {i:List V}(h:v.tup? = some i):v=.tup i:=by
 walk_at "a"
 cases v<;>cases h;rfl
 walk_at "z"
theorem V.lst?_eq {i:List V}(h:v.lst? = some i):v=.lst i:=by
 walk_at "a"
 cases v<;>cases h;rfl
 walk_at "z"
theorem V.obj?_eq {i:Nat}(h:v.obj? = some i):v=.obj i:=by
 walk_at "a"
 cases v<;>cases h;rfl
 walk_at "z"
theorem V.non?_eq {i:Unit}(h:v.non? = some i):v=.none:=by
 walk_at "a"
 cases v<;>cases h;rfl
 walk_at "z"
theorem VR.int_i {i:Int}(h:VR P W (.int i) r):∃ t,r=.int i t:=by
 walk_at "a"
 cases h;exact ⟨_,rfl⟩
 walk_at "z"
theorem VR.str_i {i:Str}(h:VR P W (.str i) r):∃ t,r=.str i t:=by
 walk_at "a"
 cases h;exact ⟨_,rfl⟩
 walk_at "z"
theorem VR.bool_i {i:Bool}(h:VR P W (.bool i) r):r=.bool i:=by
 walk_at "a"
 cases h;rfl
 walk_at "z"
theorem VR.non_i (h:VR P W .none r):r=.none:=by
 walk_at "a"
 cases h;rfl
 walk_at "z"
theorem VR.ty_i {i:String}(h:VR P W (.ty i) r):r=.type i:=by
 walk_at "a"
 cases h;rfl
 walk_at "z"
theorem VR.tup_i {vs:List V}(h:VR P W (.tup vs) r):∃ rs a n,r=.ref a∧VRs P W vs rs∧(a,tupO rs n)∈W.N∧W.free a:=by
 walk_at "a"
 cases h with | tup h m d=>exact ⟨_,_,_,rfl,h,m,d⟩
 walk_at "z"
theorem VR.lst_i {vs:List V}(h:VR P W (.lst vs) r):∃ rs a n,r=.ref a∧VRs P W vs rs∧(a,gI rs n)∈W.N∧W.free a:=by
 walk_at "a"
 cases h with | lst h m d=>exact ⟨_,_,_,rfl,h,m,d⟩
 walk_at "z"
theorem VR.obj_i {i:Nat}(h:VR P W (.obj i) r):∃ a,r=.ref a∧W.μ[i]? = some a:=by
 walk_at "a"
 cases h with | obj h=>exact ⟨_,rfl,h⟩
 walk_at "z"
theorem VR.eT {i:Int}(h:VR P W v r)(e:v.int? = some i):∃ t,r=.int i t:=(V.int?_eq e▸h:VR P W (.int i) r).int_i
theorem VR.dB {i:Str}(h:VR P W v r)(e:v.eX = some i):∃ t,r=.str i t:=(V.str?_eq e▸h:VR P W (.str i) r).str_i
theorem VR.non?_i {i:Unit}(h:VR P W v r)(e:v.non? = some i):r=.none:=(V.non?_eq e▸h:VR P W .none r).non_i
end
theorem VR.tup?_i {P:Params}{W:Wd}{v:V}{r:Value}{vs:List V}(h:VR P W v r)(e:v.tup? = some vs):∃ rs a n,r=.ref a∧VRs P W vs rs∧(a,tupO rs n)∈W.N∧W.free a:=(V.tup?_eq e▸h:VR P W (.tup vs) r).tup_i
theorem VR.lst?_i {P:Params}{W:Wd}{v:V}{r:Value}{vs:List V}(h:VR P W v r)(e:v.lst? = some vs):∃ rs a n,r=.ref a∧VRs P W vs rs∧(a,gI rs n)∈W.N∧W.free a:=(V.lst?_eq e▸h:VR P W (.lst vs) r).lst_i
theorem VR.obj?_i {P:Params}{W:Wd}{v:V}{r:Value}{i:Nat}(h:VR P W v r)(e:v.obj? = some i):∃ a,r=.ref a∧W.μ[i]? = some a:=(V.obj?_eq e▸h:VR P W (.obj i) r).obj_i
theorem ERs.gX {P:Params}{W:Wd}{ds:List DictEntry}(h:ERs P W [] ds):ds=[]:=by cases h;rfl
theorem ERs.eU {P:Params}{W:Wd}{p:Str×V}{es:List (Str×V)}{ds:List DictEntry}(h:ERs P W (p::es) ds):∃ q t r ds',ds=⟨q,.str p.1 t,r⟩::ds'∧VR P W p.2 r∧ERs P W es ds':=by
 walk_at "a"
 cases h with | cons h1 h2=>exact ⟨_,_,_,_,rfl,h1,h2⟩
 walk_at "z"
theorem VRs.gX {P:Params}{W:Wd}{rs:List Value}(h:VRs P W [] rs):rs=[]:=by
 walk_at "a"
 cases h;rfl
 walk_at "z"
theorem VRs.eU {P:Params}{W:Wd}{v:V}{vs:List V}{rs:List Value}(h:VRs P W (v::vs) rs):∃ r rs',rs=r::rs'∧VR P W v r∧VRs P W vs rs':=by
 walk_at "a"
 cases h with | cons h1 h2=>exact ⟨_,_,rfl,h1,h2⟩
 walk_at "z"
noncomputable def on2 {α β γ:Type}(a:Option α)(b:Option β)(f:α→β→γ)(d:γ):γ:=match a with | some x=>(match b with | some y=>f x y | Option.none=>d) | Option.none=>d
theorem on2_e {α β γ:Type}{a:Option α}{b:Option β}{f:α→β→γ}{d:γ}{p:γ→Prop}(h:∀ x y,a=some x→b=some y→p (f x y))(h2:p d):p (on2 a b f d):=by
 walk_at "a"
 cases a with
 | none=>exact h2
 | some x=>cases b with
  | none=>exact h2
  | some y=>exact h x y rfl rfl
 walk_at "z"
theorem on2_s {α β δ:Type}{a:Option α}{b:Option β}{f:α→β→Option δ}{d:Option δ}{o:δ}{q:Prop}(h:∀ x y,a=some x→b=some y→f x y=some o→q)(h2:d=some o→q):on2 a b f d=some o→q:=on2_e (p:=fun z=>z=some o→q) h h2
theorem on2_n {α β δ:Type}{a:Option α}{b:Option β}{f:α→β→Option δ}{o:δ}{q:Prop}(h:∀ x y,a=some x→b=some y→f x y=some o→q):on2 a b f Option.none=some o→q:=on2_s h fun e=>nomatch e
noncomputable def on1 {α γ:Type}(a:Option α)(f:α→γ)(d:γ):γ:=match a with | some x=>f x | Option.none=>d
theorem on1_e {α γ:Type}{a:Option α}{f:α→γ}{d:γ}{p:γ→Prop}(h:∀ x,a=some x→p (f x))(h2:p d):p (on1 a f d):=by
 cases a with
 | none=>exact h2
 | some x=>exact h x rfl
theorem cK {α δ:Type}{a:Option α}{f:α→Option δ}{o:δ}{q:Prop}(h:∀ x,a=some x→f x=some o→q):on1 a f Option.none=some o→q:=on1_e (p:=fun z=>z=some o→q) h fun e=>nomatch e
noncomputable def a1 (vs:List V):Option V:=match vs with | []=>Option.none | x::r=>(match r with | []=>some x | _::_=>Option.none)
noncomputable def a2 (vs:List V):Option (V×V):=match vs with | []=>Option.none | x::r=>(a1 r).bind fun y=>some (x,y)
noncomputable def a3 (vs:List V):Option (V×V×V):=match vs with | []=>Option.none | x::r=>(a2 r).bind fun y=>some (x,y)
noncomputable def isT (n:String)(v:V):Option Unit:=match v with | .ty m=>if m=n then some () else Option.none | _=>Option.none
noncomputable def aE.list? (o:aE):Option (List V):=match o with | .list vs=>some vs | _=>Option.none
noncomputable def aE.inst? (o:aE):Option (Addr×List (Str×V)):=match o with | .inst C as=>some (C,as) | _=>Option.none
theorem aE.inst?_eq {o:aE}{p:Addr×List (Str×V)}(e:o.inst? = some p):o=.inst p.1 p.2:=by
 walk_at "a"
 cases o<;>cases e;rfl
 walk_at "z"
section
variable {P:Params}{W:Wd}
theorem VRs.append:∀ {vs us:List V} {rs ts:List Value},VRs P W vs rs→VRs P W us ts→VRs P W (vs++us) (rs++ts):=by
 walk_at "a"
 intro vs
 induction vs with
 | nil=>intro us rs ts h1 h;cases h1.gX;exact h
 | cons x vs ih=>intro us rs ts h1 h;obtain ⟨_,_,rfl,a,b⟩:=h1.eU;exact .cons a (ih b h)
 walk_at "z"
theorem VRs.a1 {vs:List V}{rs:List Value}{x:V}(h:VRs P W vs rs)(e:a1 vs=some x):∃ r,rs=[r]∧VR P W x r:=by
 walk_at "a"
 cases h with
 | nil=>cases e
 | cons h t=>cases t with
  | nil=>cases e;exact ⟨_,rfl,h⟩
  | cons=>cases e
 walk_at "z"
theorem VRs.a2 {vs:List V}{rs:List Value}{x:V×V}(h:VRs P W vs rs)(e:a2 vs=some x):∃ r q,rs=[r,q]∧VR P W x.1 r∧VR P W x.2 q:=by
 walk_at "a"
 cases h with
 | nil=>cases e
 | cons h t =>
  obtain ⟨y,e1,e2⟩:=Option.bind_eq_some_iff.mp e
  cases e2
  obtain ⟨q,rfl,h2⟩:=t.a1 e1
  exact ⟨_,_,rfl,h,h2⟩
 walk_at "z"
theorem VRs.a3 {vs:List V}{rs:List Value}{x:V×V×V}(h:VRs P W vs rs)(e:a3 vs=some x):∃ r q z,rs=[r,q,z]∧VR P W x.1 r∧VR P W x.2.1 q∧VR P W x.2.2 z:=by
 walk_at "a"
 cases h with
 | nil=>cases e
 | cons h t =>
  obtain ⟨y,e1,e2⟩:=Option.bind_eq_some_iff.mp e
  cases e2
  obtain ⟨q,z,rfl,h2,h3⟩:=t.a2 e1
  exact ⟨_,_,_,rfl,h,h2,h3⟩
 walk_at "z"
theorem VR.isT {v:V}{r:Value}{n:String}{u:Unit}(h:VR P W v r)(e:isT n v=some u):r=.type n:=by
 walk_at "a"
 cases h with
 | ty m =>
  by_cases q:m=n
  ·rw [q]
  ·exact absurd e (by show (if m=n then some () else Option.none)≠_;rw [if_neg q];exact fun e=>nomatch e)
 | _=>cases e
 walk_at "z"
theorem aE.list?_eq {o:aE}{vs:List V}(e:o.list? = some vs):o=.list vs:=by
 walk_at "a"
 cases o<;>cases e;rfl
 walk_at "z"
end
noncomputable def OR (P:Params)(W:Wd)(i:Nat):aE→Prop
 | .inst C as=>∃ x dx es n,W.μ[i]? = some x∧W.δ[i]? = some dx∧(x,instObj C dx)∈W.N∧(dx,dictOf es n)∈W.N∧ERs P W as es
 | .list vs=>∃ a rs n,W.μ[i]? = some a∧W.δ[i]? = some a∧(a,gI rs n)∈W.N∧VRs P W vs rs
 | .cell v=>∃ a o,W.μ[i]? = some a∧W.δ[i]? = some a∧(a,o)∈W.N∧(∃ r,o.data=.cell r∧∀ u,v=some u→∃ z,r=some z∧VR P W u z)
 | .dT=>∃ d o,W.δ[i]? = some d∧(d,o)∈W.N
structure Inv (P:Params)(g:Heap)(L:Addr)(h:Heap)(W:Wd)(H:List aE):Prop where
 news:News g L h W.N
 nd:(W.N.map (·.1)).Nodup
 dn:W.δ.Nodup
 lμ:W.μ.length=H.length
 lδ:W.δ.length=H.length
 ob:∀ i o,H[i]? = some o→OR P W i o
 hdn:(∀ d∈W.hd,∃ o,(d,o)∈W.N)∧∀ d∈W.δ,d∉W.hd
structure Ext (W W':Wd):Prop where
 keep:∀ p∈W.N,p.1∉W.δ→p∈W'.N∧p.1∉W'.δ
 ids:∀ (i:Nat) (a:Addr),W.μ[i]? = some a→W'.μ[i]? = some a
 hid:W'.hd=W.hd
theorem Ext.refl (W:Wd):Ext W W:=⟨fun _ h h'=>⟨h,h'⟩,fun _ _ h=>h,rfl⟩
theorem Ext.trans {W W' W'':Wd}(x:Ext W W')(y:Ext W' W''):Ext W W'' :=
 ⟨fun p h h'=>let ⟨a,b⟩:=x.keep p h h';y.keep p a b,fun i a h=>y.ids i a (x.ids i a h),y.hid.trans x.hid⟩
noncomputable def dataObj (o:Obj):Bool:=o.cls==.type "tuple"||o.cls==.type "list"||o.cls==.type "dict"||o.cls==.type "range"
structure dJ (W W':Wd):Prop where
 keep:∀ p∈W.N,W.free p.1→dataObj p.2=true→p∈W'.N∧W'.free p.1
 ids:∀ (i:Nat) (a:Addr),W.μ[i]? = some a→W'.μ[i]? = some a
theorem Ext.v {W W':Wd}(x:Ext W W'):dJ W W':=⟨fun p h h' _=>⟨(x.keep p h h'.1).1,(x.keep p h h'.1).2,by rw [x.hid];exact h'.2⟩,x.ids⟩
theorem VR.three {P:Params}{W:Wd}{p:V→Value→Prop}{q:List V→List Value→Prop}{u:List (Str×V)→List DictEntry→Prop}
  (a1:p .none .none) (a2:∀ b,p (.bool b) (.bool b)) (a3:∀ i t,p (.int i) (.int i t)) (a4:∀ s t,p (.str s) (.str s t))
  (a5:∀ {vs:List V} {rs:List Value} {a:Addr} {n:Nat},VRs P W vs rs→(a,tupO rs n)∈W.N→W.free a→q vs rs→p (.tup vs) (.ref a))
  (a6:∀ {vs:List V} {rs:List Value} {a:Addr} {n:Nat},VRs P W vs rs→(a,gI rs n)∈W.N→W.free a→q vs rs→p (.lst vs) (.ref a))
  (a7:∀ {es:List (Str×V)} {ds:Array DictEntry} {a:Addr} {o:Obj} {n:Nat},(a==sysModules)=false→o.ExactDict→o.data=.dict ds n→ERs P W es ds.toList→(a,o)∈W.N→W.free a→u es ds.toList→p (.dct es) (.ref a))
  (a8:∀ {a b c:Int} {r:Addr} {t u v:Tok},(r,({ cls:=.type "range",data:=.fields #[.int a t,.int b u,.int c v] }:Obj))∈W.N→W.free r→p (.rng a b c) (.ref r))
  (a9:∀ {i:Nat} {a:Addr},W.μ[i]? = some a→p (.obj i) (.ref a)) (a10:∀ a,p (.const a) (.ref a)) (a11:∀ i,p (.bi i) (.builtin i)) (a12:∀ i,p (.ty i) (.type i))
  (b0:q [] []) (b1:∀ {v:V} {r:Value} {vs:List V} {rs:List Value},VR P W v r→VRs P W vs rs→p v r→q vs rs→q (v::vs) (r::rs))
  (c0:u [] []) (c1:∀ {k:Str} {t:Tok} {z:Int} {v:V} {r:Value} {es:List (Str×V)} {ds:List DictEntry},VR P W v r→ERs P W es ds→p v r→u es ds→u ((k,v)::es) (⟨z,.str k t,r⟩::ds)) :
  (∀ (v:V) (r:Value),VR P W v r→p v r)∧(∀ (vs:List V) (rs:List Value),VRs P W vs rs→q vs rs)∧(∀ (es:List (Str×V)) (ds:List DictEntry),ERs P W es ds→u es ds) :=
 ⟨fun _ _ h=>VR.rec (motive_1:=fun v r _=>p v r) (motive_2:=fun v r _=>q v r) (motive_3:=fun v r _=>u v r) a1 a2 a3 a4 a5 a6 a7 a8 a9 a10 a11 a12 b0 b1 c0 c1 h,
 fun _ _ h=>VRs.rec (motive_1:=fun v r _=>p v r) (motive_2:=fun v r _=>q v r) (motive_3:=fun v r _=>u v r) a1 a2 a3 a4 a5 a6 a7 a8 a9 a10 a11 a12 b0 b1 c0 c1 h,
 fun _ _ h=>ERs.rec (motive_1:=fun v r _=>p v r) (motive_2:=fun v r _=>q v r) (motive_3:=fun v r _=>u v r) a1 a2 a3 a4 a5 a6 a7 a8 a9 a10 a11 a12 b0 b1 c0 c1 h⟩
section
variable {P:Params}{W W':Wd}(x:dJ W W')
include x
theorem VR.extV3:(∀ (v:V) (r:Value),VR P W v r→VR P W' v r)∧(∀ (vs:List V) (rs:List Value),VRs P W vs rs→VRs P W' vs rs)∧(∀ (es:List (Str×V)) (ds:List DictEntry),ERs P W es ds→ERs P W' es ds) :=
 VR.three .none .bool .int .str (fun _ m d h=>.tup h (x.keep _ m d rfl).1 (x.keep _ m d rfl).2) (fun _ m d h=>.lst h (x.keep _ m d rfl).1 (x.keep _ m d rfl).2)
  (fun z y u _ m d h=>have q:=x.keep _ m d (by simp [dataObj,y.1]);.dct z y u h q.1 q.2) (fun m d=>.rng (x.keep _ m d rfl).1 (x.keep _ m d rfl).2) (fun h=>.obj (x.ids _ _ h)) .const .bi .ty .nil (fun _ _ h t=>.cons h t) .nil (fun _ _ h t=>.cons h t)
theorem VR.extV {v:V}{r:Value}(h:VR P W v r):VR P W' v r:=(VR.extV3 x).1 _ _ h
theorem VRs.extV {v:List V}{r:List Value}(h:VRs P W v r):VRs P W' v r:=by
 walk_at "a"
 exact (VR.extV3 x).2.1 _ _ h
 walk_at "z"
theorem ERs.extV {v:List (Str×V)}{r:List DictEntry}(h:ERs P W v r):ERs P W' v r:=(VR.extV3 x).2.2 _ _ h
end
theorem VR.ext {P:Params}{W W':Wd}(x:Ext W W'){v:V}{r:Value}(h:VR P W v r):VR P W' v r:=VR.extV x.v h
theorem VRs.ext {P:Params}{W W':Wd}(x:Ext W W'){v:List V}{r:List Value}(h:VRs P W v r):VRs P W' v r:=VRs.extV x.v h
theorem ERs.ext {P:Params}{W W':Wd}(x:Ext W W'){v:List (Str×V)}{r:List DictEntry}(h:ERs P W v r):ERs P W' v r:=ERs.extV x.v h
noncomputable def setN (d:Addr)(o:Obj)(N:List (Addr×Obj)):List (Addr×Obj):=N.map fun p=>if p.1=d then (d,o) else p
theorem setN_keys (d:Addr)(o:Obj)(N:List (Addr×Obj)):(setN d o N).map (·.1)=N.map (·.1):=by
 walk_at "a"
 unfold setN
 rw [List.map_map]
 refine List.map_congr_left fun p _=>?_
 simp only [Function.comp]
 split<;>simp_all
 walk_at "z"
theorem mem_setN {d:Addr}{o:Obj}{N:List (Addr×Obj)}{p:Addr×Obj}(h:p∈N)(hd:p.1≠d):p∈setN d o N :=
 List.mem_map.mpr ⟨p,h,by simp [hd]⟩
theorem mem_setN_self {d:Addr}{o o':Obj}{N:List (Addr×Obj)}(h:(d,o)∈N):(d,o')∈setN d o' N :=
 List.mem_map.mpr ⟨_,h,by simp⟩
theorem setN_other {d:Addr}{o:Obj}:∀ {N:List (Addr×Obj)},(∀ p∈N,p.1≠d)→setN d o N=N
 | [],_=>rfl
 | p::N,h=>by
  have h1:p.1≠d:=h p (.head _)
  have:setN d o (p::N)=p::setN d o N:=by simp [setN,h1]
  rw [this,setN_other fun q hq=>h q (.tail _ hq)]
theorem upd_setN {d:Addr}{o o':Obj}:∀ {N:List (Addr×Obj)},(N.map (·.1)).Nodup→(d,o)∈N→Upd d o o' N (setN d o' N)
 | p::N,hn,hm=>by
  walk_at "a"
  rw [List.map_cons,List.nodup_cons] at hn
  by_cases e:p.1=d
  ·have hp:∀ q∈N,q.1≠d:=fun q hq z=>hn.1 (by rw [e,← z];exact List.mem_map_of_mem hq)
   have hpo:p=(d,o):=by
    rcases List.mem_cons.mp hm with h | h
    ·exact h.symm
    ·exact absurd rfl (hp _ h)
   subst hpo
   have:setN d o' ((d,o)::N)=(d,o')::setN d o' N:=by simp [setN]
   rw [this,setN_other hp]
   exact .head hp
  ·have:setN d o' (p::N)=p::setN d o' N:=by simp [setN,e]
   rw [this]
   refine .tail e (upd_setN hn.2 ?_)
   rcases List.mem_cons.mp hm with h | h
   ·exact absurd (by rw [← h]) e
   ·exact h
  walk_at "z"
theorem hO {a:Addr}{o o':Obj}:∀ {N:List (Addr×Obj)},(N.map (·.1)).Nodup→(a,o)∈N→(a,o')∈N→o=o'
 | p::N,hn,h,h'=>by
  walk_at "a"
  rw [List.map_cons,List.nodup_cons] at hn
  rcases List.mem_cons.mp h with e | e<;>rcases List.mem_cons.mp h' with e' | e'
  ·rw [← e] at e';cases e';rfl
  ·exact absurd (by have:=List.mem_map_of_mem (f:=Prod.fst) e';rw [← e];exact this) hn.1
  ·exact absurd (by have:=List.mem_map_of_mem (f:=Prod.fst) e;rw [← e'];exact this) hn.1
  ·exact hO hn.2 e e'
  walk_at "z"
theorem Inv.lt {P:Params}{g:Heap}{L:Addr}{h:Heap}{W:Wd}{H:List aE}(I:Inv P g L h W H){p:Addr×Obj}(hp:p∈W.N):p.1<h.objs.size:=Heap.lt_size (I.news p hp).1
noncomputable def Wd.put (W:Wd)(a:Addr)(o:Obj):Wd:={ W with N:=(a,o)::W.N }
noncomputable def Wd.own (W:Wd)(a:Addr)(o:Obj):Wd:=⟨(a,o)::W.N,W.μ++[a],W.δ++[a],W.hd⟩
noncomputable def Wd.set (W:Wd)(d:Addr)(o:Obj):Wd:={ W with N:=setN d o W.N }
theorem eI {α:Type}{l:List α}{x:α}{i:Nat}{a:α}(h:l[i]? = some a):(l++[x])[i]? = some a:=by
 rw [List.getElem?_append_left (List.getElem?_eq_some_iff.mp h).1];exact h
theorem Inv.in {P:Params}{g:Heap}{L:Addr}{h:Heap}{W:Wd}{H:List aE}(I:Inv P g L h W H){d:Addr}{i:Nat}(hdi:W.δ[i]? = some d):∃ o,(d,o)∈W.N:=by
 walk_at "a"
 have hi:=(List.getElem?_eq_some_iff.mp hdi).1
 have hH:i<H.length:=I.lδ▸hi
 have ho:=I.ob i H[i] (by simp [hH])
 cases hc:H[i] with
 | inst C as =>
  rw [hc] at ho
  obtain ⟨x,dx,es,n,_,h2,_,h4,_⟩:=ho
  rw [hdi] at h2;cases h2
  exact ⟨_,h4⟩
 | list vs =>
  rw [hc] at ho
  obtain ⟨a,rs,n,_,h2,h3,_⟩:=ho
  rw [hdi] at h2;cases h2
  exact ⟨_,h3⟩
 | cell v =>
  rw [hc] at ho
  obtain ⟨a,o,_,h2,h3,_⟩:=ho
  rw [hdi] at h2;cases h2
  exact ⟨_,h3⟩
 | dT =>
  rw [hc] at ho
  obtain ⟨d',o,h2,h3⟩:=ho
  rw [hdi] at h2;cases h2
  exact ⟨_,h3⟩
 walk_at "z"
theorem Inv.dlt {P:Params}{g:Heap}{L:Addr}{h:Heap}{W:Wd}{H:List aE}(I:Inv P g L h W H){d:Addr}(hd:d∈W.δ):d<h.objs.size:=by
 walk_at "a"
 obtain ⟨i,hi,e⟩:=List.mem_iff_getElem.mp hd
 obtain ⟨o,ho⟩:=I.in (i:=i) (d:=d) (by rw [List.getElem?_eq_getElem hi,e])
 exact I.lt ho
 walk_at "z"
theorem Ext.put {W:Wd}{a:Addr}{o:Obj}:Ext W (W.put a o):=⟨fun _ h h'=>⟨.tail _ h,h'⟩,fun _ _ h=>h,rfl⟩
theorem Ext.own {W:Wd}{a:Addr}{o:Obj}(ha:∀ p∈W.N,p.1≠a):Ext W (W.own a o) :=
 ⟨fun _p h h'=>⟨.tail _ h,fun q=>(List.mem_append.mp q).elim h' fun q=>ha _p h (List.mem_singleton.mp q)⟩,fun _ _ h=>eI h,rfl⟩
theorem Ext.set {W:Wd}{d:Addr}{o:Obj}(hd:d∈W.δ):Ext W (W.set d o) :=
 ⟨fun p h h'=>⟨mem_setN h fun e=>h' (e▸hd),h'⟩,fun _ _ h=>h,rfl⟩
theorem OR.extV {P:Params}{W W':Wd}{i:Nat}{o:aE}(x:dJ W W')(hδ:∀ d,W.δ[i]? = some d→W'.δ[i]? = some d)(hm:∀ p∈W.N,(W.δ[i]? = some p.1∨(∃ C dx,p.2=instObj C dx))→p∈W'.N)(h:OR P W i o):OR P W' i o:=by
 walk_at "a"
 cases o with
 | inst C as =>
  obtain ⟨a,dx,es,n,h1,h2,h3,h4,h5⟩:=h
  exact ⟨a,dx,es,n,x.ids _ _ h1,hδ _ h2,hm _ h3 (.inr ⟨_,_,rfl⟩),hm _ h4 (.inl h2),ERs.extV x h5⟩
 | list vs =>
  obtain ⟨a,rs,n,h1,h2,h3,h4⟩:=h
  exact ⟨a,rs,n,x.ids _ _ h1,hδ _ h2,hm _ h3 (.inl h2),VRs.extV x h4⟩
 | cell v =>
  obtain ⟨a,o,h1,h2,h3,r,h4,h5⟩:=h
  exact ⟨a,o,x.ids _ _ h1,hδ _ h2,hm _ h3 (.inl h2),r,h4,fun u e=>let ⟨z,e1,e2⟩:=h5 u e;⟨z,e1,VR.extV x e2⟩⟩
 | dT =>
  obtain ⟨d,o,h1,h2⟩:=h
  exact ⟨d,o,hδ _ h1,hm _ h2 (.inl h1)⟩
 walk_at "z"
theorem OR.ext {P:Params}{W W':Wd}{i:Nat}{o:aE}(x:Ext W W')(hδ:∀ d,W.δ[i]? = some d→W'.δ[i]? = some d)(hm:∀ p∈W.N,(W.δ[i]? = some p.1∨(∃ C dx,p.2=instObj C dx))→p∈W'.N)(h:OR P W i o):OR P W' i o:=OR.extV x.v hδ hm h
section
variable {P:Params}{g:Heap}{L:Addr}{h:Heap}{W:Wd}{H:List aE}
theorem Inv.put (I:Inv P g L h W H){h':Heap}{a:Addr}{o:Obj}(N':News g L h' ((a,o)::W.N))(ha:∀ p∈W.N,p.1≠a):Inv P g L h' (W.put a o) H :=
 ⟨N',by
  show (((a,o)::W.N).map (·.1)).Nodup
  rw [List.map_cons,List.nodup_cons]
  exact ⟨fun q=>by obtain ⟨p,hp,e⟩:=List.mem_map.mp q;exact ha p hp e,I.nd⟩,I.dn,I.lμ,I.lδ,
 fun i o' ho=>(I.ob i o' ho).ext Ext.put (fun _ e=>e) fun _ hp _=>.tail _ hp,fun d hd=>(let ⟨o,h⟩:=I.hdn.1 d hd;⟨o,.tail _ h⟩),I.hdn.2⟩
theorem Inv.own (I:Inv P g L h W H){h':Heap}{a:Addr}{o:Obj}{m:aE}(N':News g L h' ((a,o)::W.N))(ha:∀ p∈W.N,p.1≠a)(hd:a∉W.δ)
  (hm:OR P (W.own a o) H.length m):Inv P g L h' (W.own a o) (H++[m]):=by
 walk_at "a"
 refine ⟨N',?_,?_,?_,?_,fun i o' ho=>?_,fun d hd=>(let ⟨o,h⟩:=I.hdn.1 d hd;⟨o,.tail _ h⟩),fun d hd' hq=>(List.mem_append.mp hd').elim (fun q=>I.hdn.2 d q hq) fun q=>by obtain ⟨o,ho⟩:=I.hdn.1 d hq;exact ha _ ho (List.mem_singleton.mp q)⟩
 ·show (((a,o)::W.N).map (·.1)).Nodup
  rw [List.map_cons,List.nodup_cons]
  exact ⟨fun q=>by obtain ⟨p,hp,e⟩:=List.mem_map.mp q;exact ha p hp e,I.nd⟩
 ·show (W.δ++[a]).Nodup
  rw [List.nodup_append]
  exact ⟨I.dn,by simp,fun x hx y hy e=>hd (by rw [List.mem_singleton.mp hy] at e;exact e▸hx)⟩
 ·show (W.μ++[a]).length=(H++[m]).length
  simp [I.lμ]
 ·show (W.δ++[a]).length=(H++[m]).length
  simp [I.lδ]
 ·by_cases hi:i<H.length
  ·rw [List.getElem?_append_left hi] at ho
   exact (I.ob i o' ho).ext (Ext.own ha) (fun _ e=>eI e) fun _ hp _=>.tail _ hp
  ·rw [List.getElem?_append_right (Nat.le_of_not_lt hi)] at ho
   have hz:i-H.length=0:=by
    cases q:i-H.length with
    | zero=>rfl
    | succ k=>rw [q] at ho;simp at ho
   rw [hz] at ho
   have:i=H.length:=by lia
   subst this
   simp at ho
   subst ho
   exact hm
 walk_at "z"
theorem δ_inj (hn:W.δ.Nodup){i j:Nat}{d:Addr}(h:W.δ[i]? = some d)(h':W.δ[j]? = some d):i=j:=by
 walk_at "a"
 obtain ⟨hi,e⟩:=List.getElem?_eq_some_iff.mp h
 obtain ⟨hj,e'⟩:=List.getElem?_eq_some_iff.mp h'
 rcases Nat.lt_trichotomy i j with q | q | q
 ·exact absurd (e.trans e'.symm) (List.pairwise_iff_getElem.mp hn i j hi hj q)
 ·exact q
 ·exact absurd (e'.trans e.symm) (List.pairwise_iff_getElem.mp hn j i hj hi q)
 walk_at "z"
theorem Inv.set (I:Inv P g L h W H){h':Heap}{i:Nat}{d:Addr}{o o':Obj}{m:aE}(hi:W.δ[i]? = some d)(ho:(d,o)∈W.N)(hno:∀ C dx,o≠instObj C dx)(N':News g L h' (setN d o' W.N))
  (hm:OR P (W.set d o') i m):Inv P g L h' (W.set d o') (H.set i m):=by
 walk_at "a"
 have hd:d∈W.δ:=List.mem_of_getElem? hi
 refine ⟨N',by show ((setN d o' W.N).map (·.1)).Nodup;rw [setN_keys];exact I.nd,I.dn,by simp [Wd.set,I.lμ],by simp [Wd.set,I.lδ],fun j o₁ hj=>?_,fun x hx=>?_,I.hdn.2⟩
 rw [List.getElem?_set] at hj
 split at hj
 ·rename_i e
  subst e
  split at hj
  ·cases hj;exact hm
  ·cases hj
 ·rename_i e
  refine (I.ob j o₁ hj).ext (Ext.set hd) (fun _ e=>e) fun p hp hq=>mem_setN hp fun z=>?_
  rcases hq with q | ⟨C,dx,q⟩
  ·rw [z] at q;exact e (δ_inj I.dn hi q)
  ·have:(d,p.2)∈W.N:=by rw [← z];exact hp
   exact hno C dx ((hO I.nd ho this).trans q)
 ·obtain ⟨u,hu⟩:=I.hdn.1 x hx
  by_cases e:x=d
  ·subst e;exact ⟨_,mem_setN_self ho⟩
  ·exact ⟨u,mem_setN hu e⟩
 walk_at "z"
end
end Mine
end
section
open PySem PySem.W PyProof.Rows
namespace Mine
structure St where
 ρ:List (Option V)
 H:List aE
noncomputable abbrev M (α:Type):=St→Option (Option α×St)
namespace M
variable {α β:Type}
noncomputable def ret (x:α):M α:=fun σ=>some (some x,σ)
noncomputable def bind (x:M α)(f:α→M β):M β:=fun σ=>match x σ with
 | none=>none
 | some (none,σ')=>some (none,σ')
 | some (some y,σ')=>f y σ'
noncomputable def raise:M α:=fun σ=>some (none,σ)
noncomputable def stuck:M α:=fun _=>none
end M
set_option genInjectivity false in
structure Act (prog:Program)(w:World)(K:Frag) where
 A₀:Around
 A:Around
 base:Heap
 outer:List Env
 g:Heap
 qual:Str
 sc:Scope
 L:Addr
 f:Addr
 cd:Value
 cl:List (Str×Addr)
 wp:Wd→Prop
 wpx:∀ {W W':Wd},Ext W W'→wp W→wp W'
 nm:List Str
 p:Program
 loose:List Str
 mg:Str→Option Value
 mb:Str→Option Value
 n:Nat
 sl:Addr
 sv:List Value
 sn:List Int
 B:Below A₀ base outer g
 X₀:K.In base
 T₀:TopRead p loose mg mb base
 hk:sc.kind=.function
 hn:nm.Nodup
 hA:A.frames=some (envX qual sc L f cd cl::outer)
 hd:A.depth+2*n<recursionLimit
 hu:A.units+8*n+8<cLine
 hs₀:base.IsList sl sv.toArray
 hi:IntsAre sv sn
section
variable {prog:Program}{w:World}{K:Frag}
noncomputable abbrev Act.env (a:Act prog w K):Env:=envX a.qual a.sc a.L a.f a.cd a.cl
theorem Act.units (a:Act prog w K):a.A.units<cLine:=by
 have:=a.hu
 lia
theorem Act.X (a:Act prog w K):K.In a.g:=a.X₀.keeps a.B.stays
theorem Act.T (a:Act prog w K):TopRead a.p a.loose a.mg a.mb a.g:=a.T₀.keeps a.B.stays
theorem Act.hs (a:Act prog w K):a.g.IsList a.sl a.sv.toArray:=stays_list a.B.stays a.hs₀
noncomputable abbrev Act.fs (a:Act prog w K):List Addr:=a.outer.filterMap (·.frame)
theorem below_turn {A:Around}{base g G:Heap}{outer:List Env}(B:Below A base outer g)(t:KtsTurn (outer.filterMap (·.frame)) g G):Below A base outer G:=by
 walk_at "a"
 exact 
  ⟨B.stack,fun b o e=>t.other b o (B.stays b o e) (fun hm=>by rw [(B.frames.mem hm).1] at e;cases e),B.frames.of_keeps fun b o e _=>by
   obtain ⟨sl,hs⟩:=t.up e
   exact ⟨_,hs,rfl⟩⟩
 walk_at "z"
noncomputable def Act.at (a:Act prog w K)(G:Heap)(t:KtsTurn a.fs a.g G):Act prog w K:={ a with g:=G,B:=below_turn a.B t }
structure FS (a:Act prog w K)(h:Heap)(W:Wd)(σ:St):Prop where
 fr:∃ m,Fr a.g a.L h m∧∀ (k:Nat) (x:Str) (v:V),a.nm[k]? = some x→σ.ρ[k]? = some (some v)→∃ r,m x=some r∧VR w.params W v r
 inv:Inv w.params a.g a.L h W σ.H
 cells:a.wp W
theorem FS.kin {a:Act prog w K}{h:Heap}{W:Wd}{σ:St}(F:FS a h W σ):K.In h:=by
 walk_at "a"
 obtain ⟨m,F,_⟩:=F.fr
 exact a.X.keeps F.keep
 walk_at "z"
inductive FlyX (w:World)(g:Heap)(L:Addr)(nm:List Str)(base:Heap)(es:List Env)(h:Heap)(W:Wd)(ρ:List (Option V))(e:Addr)(cls:Value):Prop
 | mk (g₂:Heap) (m:Str→Option Value) (fr:Fr g L g₂ m) (up:g₂.UpToSlots h) (lc:∀ (k:Nat) (x:Str) (v:V),nm[k]? = some x→ρ[k]? = some (some v)→∃ r,m x=some r∧VR w.params W v r)
  (B:Heap) (a0:Value) (st:base.StaysIn B) (bg:∀ b o,g₂.get? b=some o→b∉es.filterMap (·.frame)→B.get? b=some o) (n:∀ q∈W.N,B.get? q.1=some q.2∧g₂.get? q.1=none∧base.get? q.1=none)
  (fl:Heap.FlyingW B es e cls a0 h∨Heap.HeldW B es e cls a0 L h)
structure Flies (a:Act prog w K)(h:Heap)(W:Wd)(σ:St)(e:Addr)(cls:Value):Prop where
 ex:FlyX w a.g a.L a.nm a.base (a.env::a.outer) h W σ.ρ e cls
 nd:(W.N.map (·.1)).Nodup
 dn:W.δ.Nodup
 lμ:W.μ.length=σ.H.length
 lδ:W.δ.length=σ.H.length
 ob:∀ i o,σ.H[i]? = some o→OR w.params W i o
 hdn:(∀ d∈W.hd,∃ o,(d,o)∈W.N)∧∀ d∈W.δ,d∉W.hd
 cells:a.wp W
noncomputable def FL (a:Act prog w K)(h:Heap)(W:Wd)(σ:St):Prop:=∃ G t,FS (a.at G t) h W σ
noncomputable def FlL (a:Act prog w K)(h:Heap)(W:Wd)(σ:St)(e:Addr)(cls:Value):Prop:=∃ G t,Flies (a.at G t) h W σ e cls
theorem FL.kin {a:Act prog w K}{h:Heap}{W:Wd}{σ:St}(F:FL a h W σ):K.In h:=let ⟨_,_,F⟩:=F;F.kin
theorem FS.up {a:Act prog w K}{h:Heap}{W:Wd}{σ:St}(F:FS a h W σ):FL a h W σ:=⟨a.g,KtsTurn.refl,F⟩
variable {α β α' β':Type}
noncomputable def Then (a:Act prog w K)(exc:Value)(W:Wd)(s:Shared)(rel:Wd→α→α'→Prop)(r:Option α×St)(Q:α'→Shared→Prop)(E:Value→Shared→Prop):Prop :=
 match r.1 with
 | some v=>∀ h' tk' W' y,FL a h' W' r.2→Ext W W'→rel W' v y→Q y { s with heap:=h',toks:=tk' }
 | none=>∀ h' tk' W' e,FlL a h' W' r.2 e exc→Ext W W'→E (.ref e) { s with heap:=h',toks:=tk' }
noncomputable def Then0 (a:Act prog w K)(exc:Value)(W:Wd)(s:Shared)(rel:Wd→α→α'→Prop)(r:Option α×St)(Q:α'→Shared→Prop)(E:Value→Shared→Prop):Prop :=
 match r.1 with
 | some v=>∀ h' tk' W' y,FS a h' W' r.2→Ext W W'→rel W' v y→Q y { s with heap:=h',toks:=tk' }
 | none=>∀ h' tk' W' e,Flies a h' W' r.2 e exc→Ext W W'→E (.ref e) { s with heap:=h',toks:=tk' }
theorem Then.at {a:Act prog w K}{exc:Value}{W:Wd}{s:Shared}{rel:Wd→α→α'→Prop}{r:Option α×St}{Q:α'→Shared→Prop}{E:Value→Shared→Prop}{G:Heap}{t:KtsTurn a.fs a.g G}(T:Then a exc W s rel r Q E):Then0 (a.at G t) exc W s rel r Q E:=by
 walk_at "a"
 obtain ⟨r1,r2⟩:=r
 cases r1 with
 | none=>exact fun h' tk' W' e F X=>T h' tk' W' e ⟨G,t,F⟩ X
 | some v=>exact fun h' tk' W' y F X R=>T h' tk' W' y ⟨G,t,F⟩ X R
 walk_at "z"
noncomputable abbrev Tr (α':Type):=(α'→Shared→Prop)→(Value→Shared→Prop)→Shared→Prop
structure aK (a:Act prog w K)(exc:Value)(W:Wd)(T:Tr α')(x:M α)(rel:Wd→α→α'→Prop):Prop where
 go:∀ (s:Shared) (σ:St) (r:Option α×St),FL a s.heap W σ→x σ=some r→∀ (Q:α'→Shared→Prop) (E:Value→Shared→Prop),Then a exc W s rel r Q E→T Q E s
noncomputable abbrev Snd (a:Act prog w K)(exc:Value)(W:Wd)(t:Sem α')(x:M α)(rel:Wd→α→α'→Prop):Prop :=
 aK a exc W (fun Q E s=>wpAny (model prog w) a.A t Q E s) x rel
variable {a:Act prog w K}{exc:Value}{W:Wd}{rel:Wd→α→α'→Prop}{rel':Wd→β→β'→Prop}
theorem aK.imp {T T':Tr α'}{x:M α}(h:aK a exc W T' x rel)(k:∀ Q E s,T' Q E s→T Q E s):aK a exc W T x rel :=
 ⟨fun s σ r F e Q E z=>k Q E s (h.go s σ r F e Q E z)⟩
theorem aK.ret {v:α}{y:α'}(h:rel W v y):aK a exc W (fun Q _ s=>Q y s) (M.ret v) rel:=by
 walk_at "a"
 constructor;intro s σ r F e Q E T
 cases e
 exact T s.heap s.toks W y F (Ext.refl W) h
 walk_at "z"
theorem Snd.ret {v:α}{y:α'}(h:rel W v y):Snd a exc W (pure y) (M.ret v) rel:=(aK.ret h).imp fun _ _ _ z=>wpAny_pure z
theorem aK.stuck {T:Tr α'}:aK a exc W T M.stuck rel:=⟨fun _ _ _ _ e=>nomatch e⟩
theorem aK.bind {T:Tr α'}{x:M α}{U:α'→Tr β'}{f:α→M β}(ht:aK a exc W T x rel)(hk:∀ W1,Ext W W1→∀ v y,rel W1 v y→aK a exc W1 (U y) (f v) rel') :
  aK a exc W (fun Q E s=>T (fun y s'=>U y Q E s') E s) (x.bind f) rel':=by
 walk_at "a"
 constructor;intro s σ r F e Q E T
 unfold M.bind at e
 refine ht.go s σ (match x σ with | some r=>r | none=>(none,σ)) F ?_ _ _ ?_
 ·cases q:x σ with
  | none=>rw [q] at e;cases e
  | some r=>rfl
 ·cases q:x σ with
  | none=>rw [q] at e;cases e
  | some r1 =>
   obtain ⟨v,σ1⟩:=r1
   rw [q] at e
   cases v with
   | none =>
    cases e
    intro h' tk' W' ex Fl X
    exact T h' tk' W' ex Fl X
   | some v =>
    intro h' tk' W1 y F1 X1 R1
    refine (hk W1 X1 v y R1).go _ σ1 r F1 e Q E ?_
    obtain ⟨r1,r2⟩:=r
    cases r1 with
    | none=>intro h2 tk2 W2 ex Fl X;exact T h2 tk2 W2 ex Fl (X1.trans X)
    | some z=>intro h2 tk2 W2 y2 F2 X2 R2;exact T h2 tk2 W2 y2 F2 (X1.trans X2) R2
 walk_at "z"
theorem aK.mapR {T:Tr α'}{x:M α}{rel₂:Wd→α→α'→Prop}(h:aK a exc W T x rel)(k:∀ W1 v y,rel W1 v y→rel₂ W1 v y):aK a exc W T x rel₂:=by
 constructor;intro s σ r F e Q E z
 refine h.go s σ r F e Q E ?_
 obtain ⟨r1,r2⟩:=r
 cases r1 with
 | none=>exact z
 | some v=>exact fun h' tk' W' y F' X' R'=>z h' tk' W' y F' X' (k _ _ _ R')
theorem Snd.bind {t:Sem α'}{x:M α}{k:α'→Sem β'}{f:α→M β}(ht:Snd a exc W t x rel)(hk:∀ W1,Ext W W1→∀ v y,rel W1 v y→Snd a exc W1 (k y) (f v) rel') :
  Snd a exc W (t >>= k) (x.bind f) rel':=(aK.bind ht hk).imp fun _ _ _ z=>wpAny_bind z
theorem Snd.of_eq {t t':Sem α'}{x:M α}(e:t=t')(h:Snd a exc W t' x rel):Snd a exc W t x rel:=e▸h
theorem aK.here {T:Tr α'}{v:α}(h:∀ (gg:Heap) (tt:KtsTurn a.fs a.g gg) (s:Shared) (σ:St),FS (a.at gg tt) s.heap W σ→∀ (Q:α'→Shared→Prop) (E:Value→Shared→Prop),(∀ y tk,rel W v y→Q y { s with toks:=tk })→T Q E s):aK a exc W T (M.ret v) rel:=by
 constructor;intro s σ r F e Q E T
 cases e
 obtain ⟨gg,tt,F⟩:=F
 exact h gg tt s _ F Q E fun y tk hy=>T s.heap tk W y ⟨gg,tt,F⟩ (Ext.refl W) hy
end
end Mine
end
section
open PySem PySem.W PyProof.Rows
namespace Mine
theorem gJ:(100000:Nat)≤sizeLine:=by rw [sizeLine_eq];lia
theorem str_of_length_zero {x:Str}(h:(x.length==0)=true):x=⟨#[]⟩:=by
 walk_at "a"
 obtain ⟨c⟩:=x
 have:c.size=0:=by simpa [Str.length] using h
 rw [Array.eq_empty_of_size_eq_zero this]
 walk_at "z"
theorem length_app (x y:Str):(x++y).length=x.length+y.length:=by
 show (Str.append _ _).length=_
 simp [Str.append,Str.length]
section
variable {prog:Program}{w:World}{K:Frag}{a:Act prog w K}{exc:Value}{W:Wd}{env:Env}
noncomputable abbrev VRw (w:World):Wd→V→Value→Prop:=fun W v r=>VR w.params W v r
noncomputable abbrev VRsw (w:World):Wd→List V→List Value→Prop:=fun W v r=>VRs w.params W v r
noncomputable abbrev EqR {α:Type}:Wd→α→α→Prop:=fun _ x y=>x=y
theorem Snd.calm {α α':Type}{rel:Wd→α→α'→Prop}{t:Sem α'}{v:α}(h:∀ (s:Shared) (Q:α'→Shared→Prop) (E:Value→Shared→Prop),K.In s.heap→(∀ y tk,rel W v y→Q y { s with toks:=tk })→wpAny (model prog w) a.A t Q E s):Snd a exc W t (M.ret v) rel :=
 aK.here fun gg tt s σ F Q E k=>h s Q E F.kin k
noncomputable abbrev EX (a:Act prog w K)(exc:Value)(env:Env)(W:Wd)(e:Expr)(x:M V):Prop:=Snd a exc W (eval e env) x (VRw w)
noncomputable abbrev TX (a:Act prog w K)(exc:Value)(env:Env)(W:Wd)(e:Expr)(x:M Bool):Prop:=Snd a exc W (isTrue e env (eval e env)) x EqR
theorem dC {k:Nat}{pos:Pos}(W:Wd):EX a exc env W (.Constant .none k pos) (M.ret .none):=Snd.ret .none
theorem iJ {b:Bool}{k:Nat}{pos:Pos}(W:Wd):EX a exc env W (.Constant (.bool b) k pos) (M.ret (.bool b)):=Snd.ret (.bool b)
theorem aR {i:Int}{k:Nat}{pos:Pos}(W:Wd):EX a exc env W (.Constant (.int i) k pos) (M.ret (.int i)) :=
 Snd.calm fun s Q E _ h=>fun _ _ _=>h (.int i s.toks) (s.toks+1) (.int i _)
theorem bP {x:Str}{k:Nat}{pos:Pos}(W:Wd):EX a exc env W (.Constant (.str x) k pos) (M.ret (.str x)) :=
 Snd.calm fun s Q E _ h=>fun _ _ _=>h (.str x s.toks) (s.toks+1) (.str x _)
noncomputable def getVar (k:Nat):M V:=fun σ=>match σ.ρ[k]? with | some (some v)=>some (some v,σ) | _=>none
theorem e_local {x:Str}{k:Nat}{pos:Pos}(hk:a.nm[k]? = some x)(hx:a.sc.names.lookup x=some .local)(hd:(x==("__debug__":Str))=false):EX a exc a.env W (.Name x pos) (getVar k):=by
 walk_at "a"
 constructor;intro s σ r FF e Q E TT
 obtain ⟨gg,tt,F⟩:=FF
 have T:=TT.at (G:=gg) (t:=tt)
 unfold getVar at e
 split at e
 ·rename_i v q
  cases e
  obtain ⟨m,Fm,hm⟩:=F.fr
  obtain ⟨rv,h1,h2⟩:=hm k x v hk q
  exact nameX_L Fm h1 (T s.heap s.toks W rv F (Ext.refl W) h2) a.hk hx hd
 ·cases e
 walk_at "z"
theorem bN {x:Str}{pos:Pos}{v:Value}{vv:V}(e:nsIn K mainGlobals x=some (some v))(hv:∀ W,VR w.params W vv v)(hx:a.sc.names.lookup x=some .globalImplicit)(hd:(x==("__debug__":Str))=false)(W:Wd) :
  EX a exc a.env W (.Name x pos) (M.ret vv) :=
 aK.here fun gg tt s σ F Q E k=>by
  obtain ⟨m,Fm,_⟩:=F.fr
  exact nameX_K Fm (a.at gg tt).X (a.at gg tt).T e (k v s.toks (hv W)) a.hk hx hd
theorem aU {x:Str}{pos:Pos}{v:Value}{vv:V}(e:nsIn K mainGlobals x=some none)(hb:bootBuiltins x=some v)(hv:∀ W,VR w.params W vv v)(hn:x≠"__name__")(hx:a.sc.names.lookup x=some .globalImplicit)(hd:(x==("__debug__":Str))=false)(W:Wd) :
  EX a exc a.env W (.Name x pos) (M.ret vv):=by
 walk_at "a"
 exact 
  aK.here fun gg tt s σ F Q E k=>by
   obtain ⟨m,Fm,_⟩:=F.fr
   exact nameX_B Fm (a.at gg tt).X (a.at gg tt).T e hb hn (k v s.toks (hv W)) a.hk hx hd
 walk_at "z"
theorem aK.ifs {α α':Type}{rel:Wd→α→α'→Prop}{T:Tr α'}{x y:M α}{p:Prop} [Decidable p] (h1:p→aK a exc W T x rel)(h2:¬ p→aK a exc W T y rel):aK a exc W T (if p then x else y) rel:=by
 split
 ·exact h1 ‹_›
 ·exact h2 ‹_›
theorem aK.on1 {α α' γ:Type}{rel:Wd→α→α'→Prop}{T:Tr α'}{o:Option γ}{f:γ→M α}{d:M α}(h:∀ x,o=some x→aK a exc W T (f x) rel)(h2:aK a exc W T d rel):aK a exc W T (on1 o f d) rel:=on1_e (p:=fun m=>aK a exc W T m rel) h h2
theorem aK.on2 {α α' γ δ:Type}{rel:Wd→α→α'→Prop}{T:Tr α'}{o:Option γ}{u:Option δ}{f:γ→δ→M α}{d:M α}(h:∀ x y,o=some x→u=some y→aK a exc W T (f x y) rel)(h2:aK a exc W T d rel):aK a exc W T (on2 o u f d) rel:=on2_e (p:=fun m=>aK a exc W T m rel) h h2
noncomputable def binI (op:Operator)(i j:Int):M V:=match op with
 | .Add=>M.ret (.int (i+j))
 | .Sub=>M.ret (.int (i-j))
 | .Mult=>if i.natAbs<2 ^ 64∧j.natAbs<2 ^ 64 then M.ret (.int (i*j)) else M.stuck
 | .FloorDiv=>if j=100 then M.ret (.int (i.fdiv j)) else M.stuck
 | .Mod=>if j=100∨j=20 then M.ret (.int (i.fmod j)) else M.stuck
 | _=>M.stuck
noncomputable def binS (op:Operator)(x y:Str):M V:=match op with
 | .Add=>if x.length+y.length≤100000 then M.ret (.str (x++y)) else M.stuck
 | _=>M.stuck
noncomputable def bO (op:Operator)(x y:V):M V:=on2 x.int? y.int? (binI op) (on2 x.eX y.eX (binS op) M.stuck)
theorem s_binI {op:Operator}{i j:Int}{t u:Tok}:Snd a exc W (binaryOp op (.int i t) (.int j u)) (binI op i j) (VRw w):=by
 cases op with
 | Add=>exact Snd.calm fun s Q E _ h=>add_int (h _ _ (.int _ _))
 | Sub=>exact Snd.calm fun s Q E _ h=>sub_int (h _ _ (.int _ _))
 | Mult=>exact aK.ifs (fun hsz=>Snd.calm fun s Q E _ h=>mul_int (h _ _ (.int _ _)) (PySem.IntMulOk.of_left (PySem.intBits_le_64 (by lia) (by lia)))) fun _=>aK.stuck
 | FloorDiv=>exact aK.ifs (fun hj=>by subst hj;exact Snd.calm fun s Q E _ h=>floordiv_int (by decide) (h _ _ (.int _ _))) fun _=>aK.stuck
 | Mod=>exact aK.ifs (fun hj=>Snd.calm fun s Q E _ h=>mod_int' (by lia) (h _ _ (.int _ _))) fun _=>aK.stuck
 | _=>exact aK.stuck
theorem s_binS {op:Operator}{x y:Str}{t u:Tok}:Snd a exc W (binaryOp op (.str x t) (.str y u)) (binS op x y) (VRw w):=by
 walk_at "a"
 cases op with
 | Add=>exact aK.ifs (fun hsz=>Snd.calm fun s Q E _ h=>add_str (fun t tk=>h _ _ (.str _ _)) (Nat.le_trans hsz gJ)) fun _=>aK.stuck
 | _=>exact aK.stuck
 walk_at "z"
theorem s_bin {op:Operator}{x y:V}{rx ry:Value}(hx:VR w.params W x rx)(hy:VR w.params W y ry):Snd a exc W (binaryOp op rx ry) (bO op x y) (VRw w) :=
 on2_e (p:=fun m=>Snd a exc W (binaryOp op rx ry) m (VRw w)) (fun i j hi hj=>by
  obtain ⟨t,rfl⟩:=hx.eT hi
  obtain ⟨u,rfl⟩:=hy.eT hj
  exact s_binI) (on2_e (p:=fun m=>Snd a exc W (binaryOp op rx ry) m (VRw w)) (fun i j hi hj=>by
  obtain ⟨t,rfl⟩:=hx.dB hi
  obtain ⟨u,rfl⟩:=hy.dB hj
  exact s_binS) aK.stuck)
theorem aQ {l r:Expr}{op:Operator}{pos:Pos}{xl xr:M V}(hl:∀ W,EX a exc env W l xl)(hr:∀ W,EX a exc env W r xr)(W:Wd) :
  EX a exc env W (.BinOp l op r pos) (xl.bind fun x=>xr.bind fun y=>bO op x y) :=
 (aK.bind (hl W) fun W1 _ x rx hx=>aK.bind (hr W1) fun W2 x2 y ry hy=>s_bin (hx.ext x2) hy).imp fun _ _ _ z=>wpAny_BinOp z
noncomputable def negV (x:V):M V:=match x with | .int i=>M.ret (.int (-i)) | _=>M.stuck
theorem e_USub {x:Expr}{pos:Pos}{m:M V}(h:∀ W,EX a exc env W x m)(W:Wd):EX a exc env W (.UnaryOp .USub x pos) (m.bind negV):=by
 walk_at "a"
 refine (aK.bind (h W) (U:=fun v Q E s=>wpAny (model prog w) a.A (unaryOp .USub v) Q E s) fun W1 _ v rv hv=>?_).imp fun _ _ _ z=>UnaryOp_ z
 unfold negV
 split
 ·cases hv;exact Snd.calm fun s Q E _ h=>neg_int (h _ _ (.int _ _))
 ·exact aK.stuck
 walk_at "z"
noncomputable def gL (x y:Str):Bool := !(decide (y.cps.toList<x.cps.toList))
noncomputable def cmpI (op:CmpOp)(i j:Int):Option Bool:=match op with
 | .Eq=>some (i==j)
 | .NotEq=>some (i != j)
 | .Lt=>some (decide (i<j))
 | .LtE=>some (decide (i≤j))
 | .Gt=>some (decide (i>j))
 | .GtE=>some (decide (i≥j))
 | _=>none
noncomputable def cmpS (op:CmpOp)(x y:Str):Option Bool:=match op with
 | .Eq=>some (x==y)
 | .NotEq=>some (x != y)
 | .LtE=>some (gL x y)
 | .In=>some (Txt.contains y x)
 | _=>none
noncomputable def cmpN (op:CmpOp)(b:Bool):Option Bool:=match op with
 | .Is=>some b
 | .IsNot=>some (!b)
 | _=>none
noncomputable def V.some? (v:V):Bool:=match v with | .int _=>true | .tup _=>true | _=>false
noncomputable def cmp0 (op:CmpOp)(x y:V):Option Bool:=on2 x.int? y.int? (cmpI op) (on2 x.eX y.eX (cmpS op)
 (on2 x.non? y.non? (fun _ _=>cmpN op true) (if x.some? then on2 (some ()) y.non? (fun _ _=>cmpN op false) none else none)))
theorem VR.some_i {P:Params}{W:Wd}{v:V}{r:Value}(h:VR P W v r)(e:v.some? = true):PySem.plainIs r .none=true∧r≠.none:=by
 walk_at "a"
 cases h<;>cases e<;>exact ⟨rfl,fun e=>nomatch e⟩
 walk_at "z"
theorem s_cmp0 {op:CmpOp}{x y:V}{rx ry:Value}{b:Bool}(hx:VR w.params W x rx)(hy:VR w.params W y ry)(e:cmp0 op x y=some b){s:Shared}{Q:Value→Shared→Prop}{E:Value→Shared→Prop}(h:Q (.bool b) s):wpAny (model prog w) a.A (compareOp op rx ry) Q E s:=by
 walk_at "a"
 have hN:∀ {rx:Value} {c:Bool},(c=true→rx=.none)→(c=false→PySem.plainIs rx .none=true∧rx≠.none)→cmpN op c=some b→wpAny (model prog w) a.A (compareOp op rx .none) Q E s:=fun {rx c} h1 h2 e=>by
  cases op with
  | Is =>
   cases e
   cases b with
   | true=>rw [h1 rfl];exact wpAny_is_self rfl h
   | false=>exact wpAny_is_other (h2 rfl).1 (h2 rfl).2 h
  | IsNot =>
   cases e
   cases c with
   | true=>rw [h1 rfl];exact wpAny_isNot_self rfl h
   | false=>exact wpAny_isNot_other (h2 rfl).1 (h2 rfl).2 h
  | _=>cases e
 refine on2_e (p:=fun o=>o=some b→wpAny (model prog w) a.A (compareOp op rx ry) Q E s) (fun i j hi hj e=>?_) (on2_e (p:=fun o=>o=some b→wpAny (model prog w) a.A (compareOp op rx ry) Q E s) (fun i j hi hj e=>?_) (on2_e (p:=fun o=>o=some b→wpAny (model prog w) a.A (compareOp op rx ry) Q E s) (fun i j hi hj e=>?_) fun e=>?_)) e
 ·obtain ⟨t,rfl⟩:=hx.eT hi
  obtain ⟨u,rfl⟩:=hy.eT hj
  cases op with
  | Eq=>cases e;exact eq_int h
  | NotEq=>cases e;exact ne_int h
  | Lt=>cases e;exact lt_int h
  | LtE=>cases e;exact le_int h
  | Gt=>cases e;exact gt_int h
  | GtE=>cases e;exact ge_int h
  | _=>cases e
 ·obtain ⟨t,rfl⟩:=hx.dB hi
  obtain ⟨u,rfl⟩:=hy.dB hj
  cases op with
  | Eq=>cases e;exact eq_str h
  | NotEq=>cases e;exact ne_str h
  | LtE=>cases e;exact PySem.P.le_str (by simpa [gL] using h)
  | In=>cases e;exact SB.contains h
  | _=>cases e
 ·cases hx.non?_i hi
  cases hy.non?_i hj
  exact hN (c:=true) (fun _=>rfl) (fun q=>nomatch q) e
 ·by_cases hs:x.some? = true
  ·rw [if_pos hs] at e
   refine on2_e (a:=some ()) (b:=y.non?) (f:=fun _ _=>cmpN op false) (d:=none) (p:=fun o=>o=some b→wpAny (model prog w) a.A (compareOp op rx ry) Q E s) (fun i j hi hj e=>?_) (fun e=>nomatch e) e
   cases hy.non?_i hj
   exact hN (c:=false) (fun q=>nomatch q) (fun _=>hx.some_i hs) e
  ·rw [if_neg hs] at e
   cases e
 walk_at "z"
end
end Mine
end
section
open PySem PySem.W PyProof.Rows PySem.SeqAt
namespace Mine
noncomputable def veq0 (x y:V):Option Bool:=on2 x.int? y.int? (fun i j=>some (i==j)) (on2 x.eX y.eX (fun s t=>some (s==t)) (on2 x.non? y.non? (fun _ _=>some true) (on2 x.tup? y.eX (fun _ _=>some false) none)))
noncomputable def vall (f:V→V→Option Bool):List V→List V→Option Bool
 | [],ys=>some ys.isEmpty
 | x::xs,ys=>match ys with
  | []=>some false
  | y::ys=>on2 (f x y) (vall f xs ys) (fun b c=>some (b&&c)) none
noncomputable def veq:Nat→V→V→Option Bool
 | 0=>veq0
 | n+1=>fun x y=>on2 x.tup? y.tup? (vall (veq n)) (on2 x.lst? y.lst? (vall (veq n)) (veq0 x y))
section
variable {P:Params}{g:Heap}{L:Addr}{h:Heap}{W:Wd}{H:List aE}
theorem vall_same {f:V→V→Option Bool}(hf:∀ x y r b,VR P W x r→VR P W y r→f x y=some b→b=true):∀ (xs ys:List V) (rs:List Value) (b:Bool),VRs P W xs rs→VRs P W ys rs→vall f xs ys=some b→b=true:=by
 walk_at "a"
 intro xs
 induction xs with
 | nil =>
  intro ys rs b h1 h2 e
  cases h1.gX
  cases ys with
  | nil=>exact (Option.some.inj e).symm
  | cons y ys=>obtain ⟨_,_,q,_⟩:=h2.eU;cases q
 | cons x xs ih =>
  intro ys rs b h1 h2 e
  obtain ⟨r,rs',rfl,a1,a2⟩:=h1.eU
  cases ys with
  | nil=>cases h2.gX
  | cons y ys =>
   obtain ⟨_,_,q,b1,b2⟩:=h2.eU
   cases q
   refine on2_n (fun c d hc hd e=>?_) e
   rw [← Option.some.inj e,hf _ _ _ _ a1 b1 hc,ih _ _ _ a2 b2 hd]
   rfl
 walk_at "z"
theorem veq0_same (nd:(W.N.map (·.1)).Nodup){x y:V}{r:Value}{b:Bool}(hx:VR P W x r)(hy:VR P W y r)(e:veq0 x y=some b):b=true:=by
 walk_at "a"
 refine on2_s (fun i j hi hj e=>?_) (on2_s (fun i j hi hj e=>?_) (on2_s (fun i j hi hj e=>(Option.some.inj e).symm) (on2_n (fun i j hi hj e=>?_)))) e
 ·obtain ⟨t,rfl⟩:=hx.eT hi
  obtain ⟨u,q⟩:=hy.eT hj
  cases q
  rw [← Option.some.inj e]
  exact beq_self_eq_true _
 ·obtain ⟨t,rfl⟩:=hx.dB hi
  obtain ⟨u,q⟩:=hy.dB hj
  cases q
  rw [← Option.some.inj e]
  exact beq_self_eq_true _
 ·obtain ⟨_,_,_,rfl,_⟩:=hx.tup?_i hi
  obtain ⟨u,q⟩:=hy.dB hj
  cases q
 walk_at "z"
theorem veq_same (nd:(W.N.map (·.1)).Nodup):∀ (n:Nat) {x y:V} {r:Value} {b:Bool},VR P W x r→VR P W y r→veq n x y=some b→b=true
 | 0,x,y,r,b,hx,hy,e=>veq0_same nd hx hy e
 | n+1,x,y,r,b,hx,hy,e=>by
  walk_at "a"
  refine on2_s (fun i j hi hj e=>?_) (on2_s (fun i j hi hj e=>?_) (veq0_same nd hx hy)) e
  ·obtain ⟨rs,a1,n1,rfl,h1,m1,d1⟩:=hx.tup?_i hi
   obtain ⟨ts,a2,n2,q,h2,m2,d2⟩:=hy.tup?_i hj
   cases q
   have:=hO nd m1 m2
   simp [tupO] at this
   obtain ⟨rfl,_⟩:=this
   exact vall_same (fun x y r b hx hy e=>veq_same nd n hx hy e) _ _ _ _ h1 h2 e
  ·obtain ⟨rs,a1,n1,rfl,h1,m1,d1⟩:=hx.lst?_i hi
   obtain ⟨ts,a2,n2,q,h2,m2,d2⟩:=hy.lst?_i hj
   cases q
   have:=hO nd m1 m2
   simp [gI] at this
   obtain ⟨rfl,_⟩:=this
   exact vall_same (fun x y r b hx hy e=>veq_same nd n hx hy e) _ _ _ _ h1 h2 e
  walk_at "z"
theorem VRs.length {vs:List V}{rs:List Value}(h:VRs P W vs rs):vs.length=rs.length:=by
 walk_at "a"
 induction vs generalizing rs with
 | nil=>cases h;rfl
 | cons v vs ih=>cases h with | cons h1 h2=>simp [ih h2]
 walk_at "z"
theorem Inv.isTup (I:Inv P g L h W H){a:Addr}{rs:List Value}{n:Nat}(m:(a,tupO rs n)∈W.N):h.IsTuple a rs.toArray:=⟨_,(I.news _ m).1,rfl,n,rfl⟩
theorem Inv.isList (I:Inv P g L h W H){a:Addr}{rs:List Value}{n:Nat}(m:(a,gI rs n)∈W.N):h.IsList a rs.toArray:=by
 walk_at "a"
 exact ⟨_,(I.news _ m).1,rfl,n,rfl⟩
 walk_at "z"
theorem vall_at {A:Around}{s:Shared}{f:V→V→Option Bool}(hf:∀ x y rx ry b,VR P W x rx→VR P W y ry→f x y=some b→EqAt A s rx ry b) :
  ∀ (xs ys:List V) (rs ts:List Value) (b:Bool),VRs P W xs rs→VRs P W ys ts→vall f xs ys=some b →
   ∃ e:Nat→Bool,(∀ j (h1:j<rs.length) (h2:j<ts.length),EqAt A s rs[j] ts[j] (e j))∧b=((List.range (min rs.length ts.length)).all e&&rs.length==ts.length):=by
 walk_at "a"
 intro xs
 induction xs with
 | nil =>
  intro ys rs ts b h1 h2 e
  cases h1.gX
  refine ⟨fun _=>true,fun j h1=>absurd h1 (Nat.not_lt_zero _),?_⟩
  rw [← Option.some.inj e]
  cases ys with
  | nil=>cases h2.gX;rfl
  | cons y ys=>obtain ⟨_,_,rfl,_⟩:=h2.eU;simp
 | cons x xs ih =>
  intro ys rs ts b h1 h2 e
  obtain ⟨r,rs,rfl,a1,a2⟩:=h1.eU
  cases ys with
  | nil =>
   cases h2.gX
   exact ⟨fun _=>true,fun j h1 h2=>absurd h2 (Nat.not_lt_zero _),by rw [← Option.some.inj e];simp⟩
  | cons y ys =>
   obtain ⟨u,ts,rfl,b1,b2⟩:=h2.eU
   refine on2_n (fun c d hc hd e=>?_) e
   obtain ⟨e',k1,k2⟩:=ih ys rs ts d a2 b2 hd
   refine ⟨fun j=>match j with | 0=>c | j+1=>e' j,fun j hj1 hj2=>?_,?_⟩
   ·cases j with
    | zero=>exact hf _ _ _ _ _ a1 b1 hc
    | succ j=>exact k1 j (Nat.lt_of_succ_lt_succ hj1) (Nat.lt_of_succ_lt_succ hj2)
   ·rw [← Option.some.inj e,k2]
    simp only [List.length_cons,Nat.add_min_add_right,List.range_succ_eq_map,List.all_cons,List.all_map,Function.comp_def,Bool.and_assoc]
    congr 2
    simp
 walk_at "z"
structure Eqs (A:Around)(s:Shared)(x y:Value)(b:Bool):Prop where
 eq:EqAt A s x y b
 rc:RcAt A s x y b
 ne:RcNeAt A s x y (!b)
theorem Eqs.refs {A:Around}{s:Shared}{x y:Addr}{b:Bool}(hs:x=y→b=true)(rc:RcAt A s (.ref x) (.ref y) b)(ne:RcNeAt A s (.ref x) (.ref y) (!b)):Eqs A s (.ref x) (.ref y) b:=by
 walk_at "a"
 exact 
  ⟨if q:x=y then by rw [hs q,q];exact EqAt.same _ else EqAt.of_refs q rc,rc,ne⟩
 walk_at "z"
theorem eqs0 (I:Inv P g L h W H){A:Around}{s:Shared}(hs:s.heap=h)(hu:A.units<cLine){x y:V}{rx ry:Value}{b:Bool}(hx:VR P W x rx)(hy:VR P W y ry)(e:veq0 x y=some b):Eqs A s rx ry b:=by
 walk_at "a"
 subst hs
 refine on2_s (fun i j hi hj e=>?_) (on2_s (fun i j hi hj e=>?_) (on2_s (fun i j hi hj e=>?_) (on2_n (fun i j hi hj e=>?_)))) e
 ·obtain ⟨t,rfl⟩:=hx.eT hi
  obtain ⟨u,rfl⟩:=hy.eT hj
  rw [← Option.some.inj e]
  exact ⟨.int_int _ _ _ _,.int_int _ _ _ _,.int_int _ _ _ _⟩
 ·obtain ⟨t,rfl⟩:=hx.dB hi
  obtain ⟨u,rfl⟩:=hy.dB hj
  rw [← Option.some.inj e]
  exact ⟨.str_str _ _ _ _,.str_str _ _ _ _,.str_str _ _ _ _⟩
 ·rw [hx.non?_i hi,hy.non?_i hj,← Option.some.inj e]
  exact ⟨EqAt.same _,.none_none,.none_none⟩
 ·obtain ⟨_,_,_,rfl,_,m,_⟩:=hx.tup?_i hi
  obtain ⟨u,rfl⟩:=hy.dB hj
  rw [← Option.some.inj e]
  exact ⟨.tuple_str _ _ (I.isTup m) hu,.tuple_str _ _ (I.isTup m) hu,.tuple_str _ _ (I.isTup m) hu⟩
 walk_at "z"
theorem eqs (I:Inv P g L h W H):∀ (n:Nat) {A:Around} {s:Shared} (hs:s.heap=h) (hu:A.units+n<cLine) {x y:V} {rx ry:Value} {b:Bool},VR P W x rx→VR P W y ry→veq n x y=some b→Eqs A s rx ry b
 | 0,A,s,hs,hu,x,y,rx,ry,b,hx,hy,e=>eqs0 I hs hu hx hy e
 | n+1,A,s,hs,hu,x,y,rx,ry,b,hx,hy,e=>by
  walk_at "a"
  have hu0:A.units<cLine:=Nat.lt_of_le_of_lt (Nat.le_add_right _ _) hu
  have hu1:A.in1.units+n<cLine:=by show A.units+1+n<cLine;lia
  have e0:∀ r,VR P W x r→VR P W y r→b=true:=fun r h1 h2=>veq_same I.nd (n+1) h1 h2 e
  refine on2_s (fun i j hi hj e1=>?_) (on2_s (fun i j hi hj e1=>?_) (eqs0 I hs hu0 hx hy)) e
  ·obtain ⟨rs,a1,n1,rfl,h1,m1,d1⟩:=id hx |>.tup?_i hi
   obtain ⟨ts,a2,n2,rfl,h2,m2,d2⟩:=id hy |>.tup?_i hj
   obtain ⟨f,k1,k2⟩:=vall_at (A:=A.in1) (s:=s) (fun x y rx ry b hx hy e=>(eqs I n hs hu1 hx hy e).eq) _ _ _ _ _ h1 h2 e1
   subst hs
   have k1:∀ j (h1:j<rs.toArray.size) (h2:j<ts.toArray.size),EqAt A.in1 s rs.toArray[j] ts.toArray[j] (f j):=fun j h1 h2=>k1 j (by simpa using h1) (by simpa using h2)
   refine .refs (fun q=>?_) (by rw [k2];exact RcAt.tuples (e:=f) (I.isTup m1) (I.isTup m2) hu0 k1) (by rw [k2];exact RcNeAt.tuples (e:=f) (I.isTup m1) (I.isTup m2) hu0 k1)
   subst q
   exact e0 _ hx hy
  ·obtain ⟨rs,a1,n1,rfl,h1,m1,d1⟩:=id hx |>.lst?_i hi
   obtain ⟨ts,a2,n2,rfl,h2,m2,d2⟩:=id hy |>.lst?_i hj
   obtain ⟨f,k1,k2⟩:=vall_at (A:=A.in1) (s:=s) (fun x y rx ry b hx hy e=>(eqs I n hs hu1 hx hy e).eq) _ _ _ _ _ h1 h2 e1
   subst hs
   have k1:∀ j (h1:j<rs.toArray.size) (h2:j<ts.toArray.size),EqAt A.in1 s rs.toArray[j] ts.toArray[j] (f j):=fun j h1 h2=>k1 j (by simpa using h1) (by simpa using h2)
   have q:a1=a2→b=true:=fun q=>by
    subst q
    exact e0 _ hx hy
   by_cases hl:rs.toArray.size=ts.toArray.size
   ·have kb:b=(List.range rs.length).all f:=by
     have:rs.length=ts.length:=by simpa using hl
     rw [k2,← this];simp
    exact .refs q (by rw [kb];exact RcAt.lists (e:=f) (I.isList m1) (I.isList m2) hl hu0 k1) (by rw [kb];exact RcNeAt.lists (e:=f) (I.isList m1) (I.isList m2) hl hu0 k1)
   ·have kb:b=false:=by
     have:¬ rs.length=ts.length:=by simpa using hl
     rw [k2];simp [this]
    subst kb
    exact .refs q (RcAt.lists_lengths (I.isList m1) (I.isList m2) (bne_iff_ne.mpr hl) hu0) (RcNeAt.lists_lengths (I.isList m1) (I.isList m2) (bne_iff_ne.mpr hl) hu0)
  walk_at "z"
end
end Mine
end
section
open PySem PySem.W PyProof.Rows PySem.SeqAt
namespace Mine
section
variable {prog:Program}{w:World}{K:Frag}{a:Act prog w K}{exc:Value}{W:Wd}{env:Env}
theorem Act.units3 (a:Act prog w K):a.A.units+3<cLine:=by
 have:=a.hu
 lia
noncomputable def gP:List V→Option (List Str)
 | []=>some []
 | x::r=>on2 x.eX (gP r) (fun s t=>some (s::t)) none
noncomputable def isInM (x y:V):Option Bool:=on2 x.eX y.tup? (fun s vs=>(gP vs).map (·.contains s)) (on2 x.eX y.lst? (fun s vs=>(gP vs).map (·.contains s)) none)
noncomputable def eqObj (x y:V):Option Nat:=on2 x.obj? y.lst? (fun i vs=>if vs.isEmpty then some i else none) none
noncomputable def aY (op:CmpOp)(x y:V):M V:=match cmp0 op x y with
 | some b=>M.ret (.bool b)
 | none=>match op with
  | .Eq=>(match eqObj x y with
   | some i=>fun σ=>(match σ.H[i]? with | some (.list vs)=>some (some (.bool vs.isEmpty),σ) | _=>none)
   | none=>match veq 3 x y with | some b=>M.ret (.bool b) | none=>M.stuck)
  | .NotEq=>(match veq 3 x y with | some b=>M.ret (.bool (!b)) | none=>M.stuck)
  | .In=>(match isInM x y with | some b=>M.ret (.bool b) | none=>M.stuck)
  | _=>M.stuck
noncomputable def eStr (x:Str)(v:Value):Bool:=match v with | .str y _=>y==x | _=>false
theorem in_strs {P:Params}{A:Around}{s:Shared}{x:Str}{t:Tok}:∀ (vs:List V) (rs:List Value) (xs:List Str),VRs P W vs rs→gP vs=some xs→(∀ y,y∈rs→EqAt A s y (.str x t) (eStr x y))∧rs.any (eStr x)=xs.contains x:=by
 walk_at "a"
 intro vs
 induction vs with
 | nil =>
  intro rs xs h e
  cases h.gX
  rw [← Option.some.inj e]
  exact ⟨(fun y hy=>nomatch hy),rfl⟩
 | cons v vs ih =>
  intro rs xs h e
  obtain ⟨r,rs,rfl,h1,h2⟩:=h.eU
  refine on2_n (fun z ys hz hys e=>?_) e
  obtain ⟨u,rfl⟩:=h1.dB hz
  obtain ⟨k1,k2⟩:=ih rs ys h2 hys
  rw [← Option.some.inj e]
  refine ⟨fun y hy=>?_,?_⟩
  ·rcases List.mem_cons.mp hy with rfl | hy
   ·exact EqAt.str_str _ _ _ _
   ·exact k1 y hy
  ·rw [List.any_cons,k2,List.contains_cons]
   show (z==x||_)=(x==z||_)
   rw [Bool.beq_comm]
 walk_at "z"
theorem RcAt.elim {A:Around}{s:Shared}{x y:Value}{b:Bool}(h:RcAt A s x y b){Q E:Value→Shared→Prop}(q:Q (.bool b) s):wpAny (model prog w) A (richCompare .Eq x y) Q E s:=h _ _ _ _ q
theorem s_cmp {op:CmpOp}{x y:V}{rx ry:Value}(hx:VR w.params W x rx)(hy:VR w.params W y ry):Snd a exc W (compareOp op rx ry) (aY op x y) (VRw w):=by
 walk_at "a"
 have go:∀ (b:Bool),(∀ (gg:Heap) (tt:KtsTurn a.fs a.g gg) (s:Shared) (σ:St),FS (a.at gg tt) s.heap W σ→∀ (Q:Value→Shared→Prop) (E:Value→Shared→Prop),Q (.bool b) s→wpAny (model prog w) a.A (compareOp op rx ry) Q E s)→Snd a exc W (compareOp op rx ry) (M.ret (.bool b)) (VRw w) :=
  fun b h=>aK.here fun gg tt s σ F Q E k=>h gg tt s σ F Q E (k (.bool b) s.toks (.bool b))
 have heq:∀ {b:Bool},veq 3 x y=some b→∀ (gg:Heap) (tt:KtsTurn a.fs a.g gg) (s:Shared) (σ:St),FS (a.at gg tt) s.heap W σ→Eqs a.A s rx ry b:=fun e gg tt s σ F=>eqs F.inv 3 rfl a.units3 hx hy e
 have hin:∀ {b:Bool},isInM x y=some b→Snd a exc W (compareOp .In rx ry) (M.ret (.bool b)) (VRw w):=fun e=>by
  refine on2_s (fun z vs hz hv e=>?_) (on2_n fun z vs hz hv e=>?_) e
  ·obtain ⟨u,rfl⟩:=hx.dB hz
   obtain ⟨_,_,_,rfl,h1,m1,_⟩:=hy.tup?_i hv
   obtain ⟨xs,q,rfl⟩:=Option.map_eq_some_iff.mp e
   refine aK.here fun gg tt s σ F Q E k=>?_
   obtain ⟨k1,k2⟩:=in_strs (A:=a.A.in1) (s:=s) (t:=u) _ _ _ h1 q
   exact in_tupleAt (eStr _) (F.inv.isTup m1) (fun y hy=>k1 y (by simpa using hy)) (by simpa [k2] using k (.bool _) s.toks (.bool _))
  ·obtain ⟨u,rfl⟩:=hx.dB hz
   obtain ⟨_,_,_,rfl,h1,m1,_⟩:=hy.lst?_i hv
   obtain ⟨xs,q,rfl⟩:=Option.map_eq_some_iff.mp e
   refine aK.here fun gg tt s σ F Q E k=>?_
   obtain ⟨k1,k2⟩:=in_strs (A:=a.A.in1) (s:=s) (t:=u) _ _ _ h1 q
   exact in_listAt (eStr _) (F.inv.isList m1) (fun y hy=>k1 y (by simpa using hy)) (by simpa [k2] using k (.bool _) s.toks (.bool _))
 have hobj:∀ {i:Nat},eqObj x y=some i→Snd a exc W (compareOp .Eq rx ry) (fun σ=>match σ.H[i]? with | some (.list vs)=>some (some (.bool vs.isEmpty),σ) | _=>none) (VRw w):=fun {i} e=>by
  refine on2_n (fun z vs hz hv e=>?_) e
  obtain ⟨x1,rfl,hi⟩:=(V.obj?_eq hz▸hx:VR w.params W (.obj z) rx).obj_i
  obtain ⟨ts,y1,n1,rfl,h1,m1,d1⟩:=hy.lst?_i hv
  cases vs with
  | cons _ _=>cases e
  | nil =>
   cases e
   cases h1.gX
   constructor;intro s σ r FF e Q E TT
   obtain ⟨gg,tt,F⟩:=FF
   have T:=TT.at (G:=gg) (t:=tt)
   try dsimp only at e
   cases q:σ.H[i]? with
   | none=>rw [q] at e;cases e
   | some o =>
    rw [q] at e
    cases o with
    | list vs =>
     cases e
     obtain ⟨a',rs,n,k1,k2,k3,k4⟩:=F.inv.ob _ _ q
     rw [hi] at k1;cases k1
     have l1:=F.inv.isList k3
     have l2:=F.inv.isList m1
     refine cmp_ofEq (RcAt.elim (b:=vs.isEmpty) ?_ (T s.heap s.toks W _ F (Ext.refl W) (.bool _)))
     cases vs with
     | nil=>cases k4.gX;exact RcAt.lists (e:=fun _=>true) l1 l2 rfl a.units (fun j h1 h2=>absurd h1 (Nat.not_lt_zero _))
     | cons=>obtain ⟨_,_,rfl,_⟩:=k4.eU;exact RcAt.lists_lengths l1 l2 rfl a.units
    | _=>cases e
 unfold aY
 cases h0:cmp0 op x y with
 | some b=>exact aK.here fun gg tt s σ F Q E k=>s_cmp0 (a:=a.at gg tt) hx hy h0 (k (.bool b) s.toks (.bool b))
 | none=>cases op with
  | Eq=>cases h1:eqObj x y with
   | some i=>exact hobj h1
   | none=>cases h2:veq 3 x y with
    | some b=>exact go b fun gg tt s σ F Q E h=>cmp_ofEq ((heq h2 gg tt s σ F).rc _ _ _ _ h)
    | none=>exact aK.stuck
  | NotEq=>cases h2:veq 3 x y with
   | some b=>exact go _ fun gg tt s σ F Q E h=>cmp_ofNotEq ((heq h2 gg tt s σ F).ne _ _ _ _ h)
   | none=>exact aK.stuck
  | In=>cases h2:isInM x y with
   | some b=>exact hin h2
   | none=>exact aK.stuck
  | _=>exact aK.stuck
 walk_at "z"
end
end Mine
end
section
open PySem PySem.W PyProof.Rows PySem.SeqAt
namespace Mine
section
variable {prog:Program}{w:World}{K:Frag}{a:Act prog w K}{exc:Value}{W:Wd}{env:Env}
noncomputable abbrev TW (a:Act prog w K)(exc:Value)(env:Env)(W:Wd)(e:Expr)(whole:Sem Value)(x:M Bool):Prop:=Snd a exc W (isTrue e env whole) x EqR
noncomputable abbrev AX (a:Act prog w K)(exc:Value)(env:Env)(W:Wd)(pos:Pos)(es:List Expr)(x:M (List V)):Prop:=Snd a exc W (spliced (backTo pos (starEach es env))) x (VRsw w)
noncomputable def bI (x:V):M Bool:=match x with | .bool b=>M.ret b | _=>M.stuck
theorem s_truthy {x:V}{rx:Value}(hx:VR w.params W x rx):Snd a exc W (truthy rx) (bI x) EqR:=by
 walk_at "a"
 unfold bI
 split
 ·cases hx;exact Snd.calm fun s Q E _ h=>wpAny_truthy_bool (h _ s.toks rfl)
 ·exact aK.stuck
 walk_at "z"
theorem aK.ite {α α':Type}{rel:Wd→α→α'→Prop}{T U:Tr α'}{x y:M α}{b:Bool}(h1:aK a exc W T x rel)(h2:aK a exc W U y rel) :
  aK a exc W (fun Q E s=>if b then T Q E s else U Q E s) (if b then x else y) rel:=by
 cases b<;>assumption
theorem fJ {l r:Expr}{op:CmpOp}{pos:Pos}{xl xr:M V}(hl:∀ W,EX a exc env W l xl)(hr:∀ W,EX a exc env W r xr)(hm:behindInMarks op r=false)(W:Wd) :
  EX a exc env W (.Compare l [op] [r] pos) (xl.bind fun x=>xr.bind fun y=>aY op x y) :=
 (aK.bind (hl W) fun W1 _ x rx hx=>aK.bind (hr W1) fun W2 x2 y ry hy=>s_cmp (hx.ext x2) hy).imp fun _ _ _ z=>wpAny_Compare1 z hm
theorem aI {l r:Expr}{op:CmpOp}{pos:Pos}{whole:Sem Value}{xl xr:M V}(hl:∀ W,EX a exc env W l xl)(hr:∀ W,EX a exc env W r xr)(hm:behindInMarks op r=false)(W:Wd) :
  TW a exc env W (.Compare l [op] [r] pos) whole (xl.bind fun x=>xr.bind fun y=>(aY op x y).bind bI):=by
 walk_at "a"
 exact 
  (aK.bind (hl W) fun W1 _ x rx hx=>aK.bind (hr W1) fun W2 x2 y ry hy=>aK.bind (s_cmp (hx.ext x2) hy) fun W3 _ c rc hc=>s_truthy hc).imp fun _ _ _ z=>wpAny_isTrue_Compare1 z hm
 walk_at "z"
theorem e_Chain {l r r':Expr}{op op':CmpOp}{pos:Pos}{xl xr xr':M V}(hl:∀ W,EX a exc env W l xl)(hr:∀ W,EX a exc env W r xr)(hr':∀ W,EX a exc env W r' xr')(hm:lastMarks [op,op'] [r,r']=false)(W:Wd) :
  EX a exc env W (.Compare l [op,op'] [r,r'] pos) (xl.bind fun x=>xr.bind fun y=>(aY op x y).bind fun c=>(bI c).bind fun t=>if t then xr'.bind fun z=>aY op' y z else M.ret c):=by
 walk_at "a"
 exact 
  (aK.bind (hl W) fun W1 _ x rx hx=>(aK.bind (hr W1) fun W2 x2 y ry hy=>aK.bind (s_cmp (hx.ext x2) hy) fun W3 x3 c rc hc=>aK.bind (s_truthy hc) fun W4 x4 t t' ht=>by
   cases ht
   exact aK.ite ((aK.bind (hr' W4) fun W5 x5 z rz hz=>s_cmp ((hy.ext (x3.trans x4)).ext x5) hz).imp fun _ _ _ z=>chain_last z) (aK.ret (hc.ext x4))).imp fun _ _ _ z=>chain_link z).imp fun _ _ _ z=>Compare_chain z hm
 walk_at "z"
theorem t_Chain {l r r':Expr}{op op':CmpOp}{pos:Pos}{whole:Sem Value}{xl xr xr':M V}(hl:∀ W,EX a exc env W l xl)(hr:∀ W,EX a exc env W r xr)(hr':∀ W,EX a exc env W r' xr')(hm:lastMarks [op,op'] [r,r']=false)(W:Wd) :
  TW a exc env W (.Compare l [op,op'] [r,r'] pos) whole (xl.bind fun x=>xr.bind fun y=>(aY op x y).bind fun c=>(bI c).bind fun t=>if t then xr'.bind fun z=>(aY op' y z).bind bI else M.ret false):=by
 walk_at "a"
 exact 
  (aK.bind (hl W) fun W1 _ x rx hx=>(aK.bind (hr W1) fun W2 x2 y ry hy=>aK.bind (s_cmp (hx.ext x2) hy) fun W3 x3 c rc hc=>aK.bind (s_truthy hc) fun W4 x4 t t' ht=>by
   cases ht
   exact aK.ite ((aK.bind (hr' W4) fun W5 x5 z rz hz=>aK.bind (s_cmp ((hy.ext (x3.trans x4)).ext x5) hz) fun W6 _ c rc hc=>s_truthy hc).imp fun _ _ _ z=>test_last z) (aK.ret rfl)).imp fun _ _ _ z=>test_link z).imp fun _ _ _ z=>isTrue_chain z hm
 walk_at "z"
theorem iP {e:Expr}{x:M V}(h:∀ W,EX a exc env W e x)(he:isTrue e env (eval e env)=(do let v ← eval e env;standAt e.pos;holding [v] (truthy v)))(W:Wd):TW a exc env W e (eval e env) (x.bind bI) :=
 (aK.bind (h W) fun W1 _ v rv hv=>s_truthy hv).imp fun _ _ _ z=>isTrue_plain z he
theorem t_not {e:Expr}{pos:Pos}{whole:Sem Value}{x:M Bool}(h:∀ W,TX a exc env W e x)(W:Wd):TW a exc env W (.UnaryOp .Not e pos) whole (x.bind fun b=>M.ret (!b)):=by
 walk_at "a"
 exact 
  (aK.bind (h W) (U:=fun b Q _ s=>Q (!b) s) fun W1 _ v rv hv=>by cases hv;exact aK.ret rfl).imp fun _ _ _ z=>isTrue_not z
 walk_at "z"
theorem t_and0 {pos:Pos}{whole:Sem Value}(W:Wd):TW a exc env W (.BoolOp .And [] pos) whole (M.ret true):=by
 walk_at "a"
 exact (aK.ret rfl).imp fun _ _ _ z=>isTrue_and_nil z
 walk_at "z"
theorem t_or0 {pos:Pos}{whole:Sem Value}(W:Wd):TW a exc env W (.BoolOp .Or [] pos) whole (M.ret false):=(aK.ret rfl).imp fun _ _ _ z=>isTrue_or_nil z
theorem eP {e:Expr}{es:List Expr}{pos:Pos}{whole:Sem Value}{x xs:M Bool}(h:∀ W,TX a exc env W e x)(hs:∀ W,TW a exc env W (.BoolOp .And es pos) whole xs)(W:Wd) :
  TW a exc env W (.BoolOp .And (e::es) pos) whole (x.bind fun c=>if c then xs else M.ret false):=by
 walk_at "a"
 exact 
  (aK.bind (h W) fun W1 _ v rv hv=>by cases hv;exact aK.ite (hs W1) (aK.ret rfl)).imp fun _ _ _ z=>isTrue_and z
 walk_at "z"
theorem t_or {e:Expr}{es:List Expr}{pos:Pos}{whole:Sem Value}{x xs:M Bool}(h:∀ W,TX a exc env W e x)(hs:∀ W,TW a exc env W (.BoolOp .Or es pos) whole xs)(W:Wd) :
  TW a exc env W (.BoolOp .Or (e::es) pos) whole (x.bind fun c=>if c then M.ret true else xs):=by
 walk_at "a"
 exact 
  (aK.bind (h W) fun W1 _ v rv hv=>by cases hv;exact aK.ite (aK.ret rfl) (hs W1)).imp fun _ _ _ z=>isTrue_or z
 walk_at "z"
theorem e_and1 {e:Expr}{pos:Pos}{op:BoolOp}{x:M V}(h:∀ W,EX a exc env W e x)(W:Wd):EX a exc env W (.BoolOp op [e] pos) x:=by
 walk_at "a"
 exact (h W).imp fun _ _ _ z=>BoolOp_one z
 walk_at "z"
theorem e_and {e e':Expr}{es:List Expr}{pos:Pos}{x xs:M V}(h:∀ W,EX a exc env W e x)(hs:∀ W,EX a exc env W (.BoolOp .And (e'::es) pos) xs)(W:Wd) :
  EX a exc env W (.BoolOp .And (e::e'::es) pos) (x.bind fun v=>(bI v).bind fun c=>if c then xs else M.ret v):=by
 walk_at "a"
 exact 
  (aK.bind (h W) fun W1 _ v rv hv=>aK.bind (s_truthy hv) fun W2 x2 c c' hc=>by cases hc;exact aK.ite (hs W2) (aK.ret (hv.ext x2))).imp fun _ _ _ z=>BoolOp_and z
 walk_at "z"
theorem e_not {e:Expr}{pos:Pos}{x:M V}(h:∀ W,EX a exc env W e x)(W:Wd):EX a exc env W (.UnaryOp .Not e pos) (x.bind fun v=>(bI v).bind fun c=>M.ret (.bool (!c))) :=
 (aK.bind (h W) fun W1 _ v rv hv=>(aK.bind (s_truthy hv) (U:=fun c Q _ s=>Q (.bool (!c)) s) fun W2 x2 c c' hc=>by cases hc;exact aK.ret (.bool _)).imp fun _ _ _ z=>not_of z).imp fun _ _ _ z=>UnaryOp_ z
theorem eL {t e f:Expr}{pos:Pos}{xt:M Bool}{x y:M V}(ht:∀ W,TX a exc env W t xt)(h:∀ W,EX a exc env W e x)(h':∀ W,EX a exc env W f y)(W:Wd) :
  EX a exc env W (.IfExp t e f pos) (xt.bind fun c=>if c then x else y):=by
 walk_at "a"
 exact 
  (aK.bind (ht W) fun W1 _ v rv hv=>by cases hv;exact aK.ite (h W1) (h' W1)).imp fun _ _ _ z=>IfExp_ z
 walk_at "z"
theorem aM {pos:Pos}(W:Wd):AX a exc env W pos [] (M.ret []):=by
 walk_at "a"
 exact (aK.ret .nil).imp fun _ _ _ z=>spliced_none z
 walk_at "z"
theorem aA {pos:Pos}{e:Expr}{es:List Expr}{x:M V}{xs:M (List V)}(h:∀ W,EX a exc env W e x)(hs:∀ W,AX a exc env W pos es xs)(he:starEach (e::es) env=(false,eval e env)::starEach es env)(W:Wd) :
  AX a exc env W pos (e::es) (x.bind fun v=>xs.bind fun vs=>M.ret (v::vs)) :=
 (aK.bind (h W) fun W1 _ v rv hv=>aK.bind (hs W1) (U:=fun vs Q _ s=>Q (rv::vs) s) fun W2 x2 vs rvs hvs=>aK.ret (.cons (hv.ext x2) hvs)).imp fun _ _ _ z=>spliced_more z he
theorem FS.grow {h h':Heap}{W':Wd}{σ:St}(F:FS a h W σ){H':List aE}(hF:∀ m,Fr a.g a.L h m→Fr a.g a.L h' m)(X:Ext W W')(I:Inv w.params a.g a.L h' W' H'):FS a h' W' { σ with H:=H' }:=by
 walk_at "a"
 obtain ⟨⟨m,Fm,hm⟩,J,C⟩:=F
 refine ⟨⟨m,hF m Fm,fun k x v hk hv=>?_⟩,I,a.wpx X C⟩
 obtain ⟨r,h1,h2⟩:=hm k x v hk hv
 exact ⟨r,h1,h2.ext X⟩
 walk_at "z"
theorem FS.fresh {h:Heap}{σ:St}(F:FS a h W σ):∀ p∈W.N,p.1≠h.objs.size:=fun p hp e=>Nat.lt_irrefl _ (e▸F.inv.lt hp)
theorem FS.freshF {h:Heap}{σ:St}(F:FS a h W σ):W.free h.objs.size:=⟨fun hp=>Nat.lt_irrefl _ (F.inv.dlt hp),fun hp=>by obtain ⟨o,ho⟩:=F.inv.hdn.1 _ hp;exact F.fresh _ ho rfl⟩
theorem FS.freshδ {h:Heap}{σ:St}(F:FS a h W σ):h.objs.size∉W.δ:=fun hp=>Nat.lt_irrefl _ (F.inv.dlt hp)
theorem FS.push {h:Heap}{σ:St}(F:FS a h W σ)(o:Obj)(hf:o.isFreed=false):FS a (h.push o) (W.put h.objs.size o) σ:=by
 obtain ⟨m,Fm,hm⟩:=F.fr
 exact F.grow (fun m Fm=>Fm.push o) Ext.put (F.inv.put (F.inv.news.push Fm o hf) F.fresh)
theorem VRs.len {P:Params}{vs:List V}{rs:List Value}(h:VRs P W vs rs)(hl:vs.length≤100000):rs.length≤sizeLine:=by
 rw [← VRs.length h];exact Nat.le_trans hl gJ
noncomputable def dR (vs:List V):M V:=if vs.length≤100000 then M.ret (.tup vs) else M.stuck
noncomputable def iF (vs:List V):M V:=if vs.length≤100000 then M.ret (.lst vs) else M.stuck
theorem s_newTuple {vs:List V}{rs:List Value}(h:VRs w.params W vs rs):Snd a exc W (newTuple rs) (dR vs) (VRw w):=by
 walk_at "a"
 unfold dR
 split
 ·rename_i hl
  constructor;intro s σ r FF e Q E TT
  obtain ⟨gg,tt,F⟩:=FF
  have T:=TT.at (G:=gg) (t:=tt)
  cases e
  obtain ⟨m,Fm,hm⟩:=F.fr
  refine wpAny_newObj_type (T (s.heap.push _) s.toks _ _ (F.push _ rfl) Ext.put (.tup (n:=0) (h.ext Ext.put) (.head _) F.freshF)) ?_
  show rs.toArray.size≤sizeLine
  rw [List.size_toArray];exact h.len hl
 ·exact aK.stuck
 walk_at "z"
theorem s_newList {vs:List V}{rs:List Value}(h:VRs w.params W vs rs):Snd a exc W (newList rs) (iF vs) (VRw w):=by
 walk_at "a"
 unfold iF
 split
 ·rename_i hl
  constructor;intro s σ r FF e Q E TT
  obtain ⟨gg,tt,F⟩:=FF
  have T:=TT.at (G:=gg) (t:=tt)
  cases e
  obtain ⟨m,Fm,hm⟩:=F.fr
  refine wpAny_newObj_type (T (s.heap.push _) s.toks _ _ (F.push _ rfl) Ext.put (.lst (n:=0) (h.ext Ext.put) (.head _) F.freshF)) ?_
  show rs.toArray.size≤sizeLine
  rw [List.size_toArray];exact h.len hl
 ·exact aK.stuck
 walk_at "z"
noncomputable def newOwn (o:aE):M V:=fun σ=>some (some (.obj σ.H.length),{ σ with H:=σ.H++[o] })
theorem s_newOwn:Snd a exc W (newList []) (newOwn (.list [])) (VRw w):=by
 walk_at "a"
 constructor;intro s σ r FF e Q E TT
 obtain ⟨gg,tt,F⟩:=FF
 have T:=TT.at (G:=gg) (t:=tt)
 cases e
 obtain ⟨m,Fm,hm⟩:=F.fr
 have hl:=F.inv.lμ
 have hd:=F.inv.lδ
 have k1:(W.μ++[s.heap.objs.size])[σ.H.length]? = some s.heap.objs.size:=by rw [← hl];simp
 have k2:(W.δ++[s.heap.objs.size])[σ.H.length]? = some s.heap.objs.size:=by rw [← hd];simp
 refine wpAny_newObj_type (T (s.heap.push (gI [] 0)) s.toks (W.own s.heap.objs.size (gI [] 0)) _ (F.grow (fun m Fm=>Fm.push _) (Ext.own F.fresh) (F.inv.own (F.inv.news.push Fm _ rfl) F.fresh F.freshδ ?_)) (Ext.own F.fresh) (.obj k1)) ?_
 ·exact ⟨_,_,_,k1,k2,.head _,.nil⟩
 ·exact Nat.zero_le _
 walk_at "z"
theorem cT {es:List Expr}{k:Nat}{pos:Pos}{xs:M (List V)}(h:∀ W,AX a exc env W pos es xs)(W:Wd):EX a exc env W (.Tuple es k pos) (xs.bind dR):=by
 walk_at "a"
 exact 
  (aK.bind (h W) fun W1 _ vs rs hv=>s_newTuple hv).imp fun _ _ _ z=>Tuple_ z
 walk_at "z"
theorem iK {es:List Expr}{pos:Pos}{xs:M (List V)}(h:∀ W,AX a exc env W pos es xs)(W:Wd):EX a exc env W (.List es pos) (xs.bind iF):=by
 walk_at "a"
 exact 
  (aK.bind (h W) fun W1 _ vs rs hv=>s_newList hv).imp fun _ _ _ z=>List_ z
 walk_at "z"
theorem e_ListOwn {pos:Pos}(W:Wd):EX a exc env W (.List [] pos) (newOwn (.list [])) :=
 (s_newOwn (a:=a) (exc:=exc) (W:=W)).imp fun _ _ _ z=>List_ (spliced_none z)
end
end Mine
end
section
open PySem PySem.W PyProof.Rows PySem.SeqAt
namespace Mine
section
variable {prog:Program}{w:World}{K:Frag}{a:Act prog w K}{exc:Value}{W:Wd}{env:Env}
theorem ERs.get {P:Params}{name:Str}:∀ {as:List (Str×V)} {ds:List DictEntry},ERs P W as ds→(∀ v,as.lookup name=some v→∃ r,getL name ds=some (some r)∧VR P W v r)∧(as.lookup name=none→getL name ds=some none):=by
 walk_at "a"
 intro as
 induction as with
 | nil=>intro ds h;cases h.gX;exact ⟨(fun v e=>nomatch e),fun _=>rfl⟩
 | cons p as ih =>
  intro ds h
  obtain ⟨qq,t,r,ds,rfl,h,hs⟩:=h.eU
  obtain ⟨k,u⟩:=p
  have i:=ih hs
  have hk:Value.isStr (.str k t) name=(k==name):=rfl
  by_cases q:k=name
  ·subst q
   have h1:getL k (⟨qq,.str k t,r⟩::ds)=some (some r):=by
    unfold getL
    rw [List.find?_cons_of_pos (by show Value.isStr (.str k t) k=true;rw [hk];simp)]
   have h2:List.lookup k ((k,u)::as)=some u:=by simp [List.lookup]
   rw [h2]
   exact ⟨fun v e=>⟨r,h1,Option.some.inj e▸h⟩,fun e=>nomatch e⟩
  ·have q':(k==name)=false:=beq_eq_false_iff_ne.mpr q
   have q2:(name==k)=false:=beq_eq_false_iff_ne.mpr (fun e=>q e.symm)
   have h1:getL name (⟨qq,.str k t,r⟩::ds)=getL name ds:=by
    unfold getL
    rw [List.find?_cons_of_neg (by show ¬ Value.isStr (.str k t) name=true;rw [hk,q'];decide),List.any_cons]
    have:DictEntry.refKey ⟨qq,.str k t,r⟩=false:=rfl
    rw [this,Bool.false_or]
   have h2:List.lookup name ((k,u)::as)=List.lookup name as:=by simp [List.lookup,q2]
   rw [h1,h2]
   exact i
 walk_at "z"
theorem ERs.some {P:Params}{name:Str}{as:List (Str×V)}{ds:List DictEntry}(h:ERs P W as ds):(getL name ds).isSome=true:=by
 walk_at "a"
 obtain ⟨i1,i2⟩:=h.get (name:=name)
 cases q:as.lookup name with
 | none=>rw [i2 q];rfl
 | some v=>obtain ⟨r,e,_⟩:=i1 v q;rw [e];rfl
 walk_at "z"
noncomputable def putAs (name:Str)(v:V):List (Str×V)→List (Str×V)
 | []=>[(name,v)]
 | (k,u)::r=>if k==name then (k,v)::r else (k,u)::putAs name v r
theorem ERs.put {P:Params}{name:Str}{v:V}{rv:Value}{tk:Tok}(hv:VR P W v rv):∀ {as:List (Str×V)} {ds:List DictEntry},ERs P W as ds→ERs P W (putAs name v as) (putL name (PyData.keyHash P name) (.str name tk) rv ds):=by
 walk_at "a"
 intro as
 induction as with
 | nil=>intro ds h;cases h.gX;exact .cons hv .nil
 | cons p as ih =>
  intro ds h
  obtain ⟨qq,t,r,ds,rfl,h,hs⟩:=h.eU
  obtain ⟨k,u⟩:=p
  have hk:Value.isStr (.str k t) name=(k==name):=rfl
  unfold putAs putL
  dsimp only
  rw [hk]
  split
  ·exact .cons hv hs
  ·exact .cons h (ih hs)
 walk_at "z"
theorem ERs.len {P:Params}:∀ {as:List (Str×V)} {ds:List DictEntry},ERs P W as ds→as.length=ds.length:=by
 walk_at "a"
 intro as
 induction as with
 | nil=>intro ds h;cases h.gX;rfl
 | cons p as ih=>intro ds h;obtain ⟨_,_,_,_,rfl,_,hs⟩:=h.eU;simp [ih hs]
 walk_at "z"
noncomputable def okGet (K:Frag)(C:Addr)(name:Str):Bool:=plainGet K C name&&hasDictIn K C&&(match findIn K (.ref C) name with | some attr=>noGet K attr | none=>false)
noncomputable def okCls (K:Frag)(C:Addr)(name:Str):Option Addr:=match typeIn K (.ref C) with
 | some mc=>if readsIn K C mc then (match findCls K (.ref C) mc name with | some (.val (.ref b))=>some b | _=>none) else none
 | none=>none
noncomputable def ownI (σ:St)(i:Nat):Option (Addr×List (Str×V)):=match σ.H[i]? with | some o=>o.inst? | none=>none
theorem ownI_eq {σ:St}{i:Nat}{p:Addr×List (Str×V)}(e:ownI σ i=some p):σ.H[i]? = some (.inst p.1 p.2):=by
 walk_at "a"
 unfold ownI at e
 cases q:σ.H[i]? with
 | none=>rw [q] at e;cases e
 | some o=>rw [q] at e;rw [aE.inst?_eq e]
 walk_at "z"
theorem ownI_of {σ:St}{i:Nat}{C:Addr}{as:List (Str×V)}(e:σ.H[i]? = some (.inst C as)):ownI σ i=some (C,as):=by
 walk_at "a"
 unfold ownI;rw [e];rfl
 walk_at "z"
noncomputable def cR (K:Frag)(name:Str)(x:V):M V:=fun σ=>on1 x.obj? (fun i=>on1 (ownI σ i) (fun p=>if okGet K p.1 name then on1 (p.2.lookup name) (fun v=>if v.isBi then none else some (some v,σ)) none else none) none)
 (on1 x.const? (fun C=>on1 (okCls K C name) (fun b=>some (some (.const b),σ)) none) none)
theorem getA_own {K:Frag}{name:Str}{i:Nat}{C:Addr}{as:List (Str×V)}{v:V}{σ:St}(h:σ.H[i]? = some (.inst C as))(hs:okGet K C name=true)(e:as.lookup name=some v)(hb:v.isBi=false):cR K name (.obj i) σ=some (some v,σ):=by
 walk_at "a"
 show on1 (ownI σ i) _ none=_
 rw [ownI_of h]
 show (if okGet K C name then on1 (as.lookup name) _ none else none)=_
 rw [if_pos hs,e]
 show (if v.isBi then none else some (some v,σ))=_
 rw [hb]
 rfl
 walk_at "z"
theorem getA_cls {K:Frag}{name:Str}{C b:Addr}{σ:St}(h:okCls K C name=some b):cR K name (.const C) σ=some (some (.const b),σ):=by
 show on1 (okCls K C name) _ none=_
 rw [h]
 rfl
theorem handed_of {v:V}{r:Value}{P:Params}(h:VR P W v r)(hb:v.isBi=false):handedIn r=true:=by
 walk_at "a"
 cases h<;>first | rfl | cases hb
 walk_at "z"
theorem s_getAttr {name:Str}{x:V}{rx:Value}{expr:Bool}(hx:VR w.params W x rx):Snd a exc W (getAttr rx name expr) (cR K name x) (VRw w):=by
 walk_at "a"
 constructor;intro s σ r FF e Q E TT
 obtain ⟨gg,tt,F⟩:=FF
 have T:=TT.at (G:=gg) (t:=tt)
 refine on1_e (p:=fun z=>z=some r→_) (fun i hi e=>?_) (cK fun C hC e=>?_) e
 ·obtain ⟨x1,rfl,hi⟩:=hx.obj?_i hi
  refine cK (fun p q e=>?_) e
  by_cases hok:okGet K p.1 name=true
  ·rw [if_pos hok] at e
   unfold okGet at hok
   rw [Bool.and_eq_true,Bool.and_eq_true] at hok
   obtain ⟨⟨h1,h2⟩,h3⟩:=hok
   cases ha:findIn K (.ref p.1) name with
   | none=>rw [ha] at h3;cases h3
   | some attr =>
    rw [ha] at h3
    obtain ⟨x,dx,es,n,k1,k2,k3,k4,k5⟩:=F.inv.ob _ _ (ownI_eq q)
    rw [hi] at k1;cases k1
    refine cK (fun v q2 e=>?_) e
    cases hb:v.isBi with
    | true=>rw [hb] at e;cases e
    | false =>
     rw [hb] at e
     cases e
     obtain ⟨rv,g1,g2⟩:=(ERs.get k5).1 _ q2
     obtain ⟨m,Fm,hm⟩:=F.fr
     exact get_own Fm (a.at gg tt).X (InstAt.of_news F.inv.news k3 k4) h1 h2 ha h3 g1 (handed_of g2 hb) (T s.heap _ W _ F (Ext.refl W) g2)
  ·rw [if_neg hok] at e
   cases e
 ·rw [hx.const?_i hC]
  refine cK (fun b hb e=>?_) e
  cases e
  unfold okCls at hb
  split at hb
  ·rename_i mc hmc
   split at hb
   ·rename_i hr
    split at hb
    ·rename_i b' hf
     cases hb
     obtain ⟨m,Fm,hm⟩:=F.fr
     exact cls_val Fm (a.at gg tt).X hmc hr hf rfl (T s.heap _ W _ F (Ext.refl W) (.const _))
    ·cases hb
   ·cases hb
  ·cases hb
 walk_at "z"
theorem bB {value:Expr}{attr:Str}{pos:Pos}{x:M V}(h:∀ W,EX a exc env W value x)
  (he:eval (.Attribute value attr pos) env=(do let o ← eval value env;standAt pos.atName;let r ← holding [o] (getAttr o attr true);letTemporaryGo value o r;pure r)) (W:Wd) :
  EX a exc env W (.Attribute value attr pos) (x.bind (cR K attr)) :=
 (aK.bind (h W) fun W1 _ v rv hv=>s_getAttr hv).imp fun _ _ _ z=>Attribute_any_ z he
noncomputable def gQ (K:Frag)(C:Addr)(name:Str):Bool:=findIn K (.ref C) "__setattr__"==some (some (.builtin "object.__setattr__"))&&plainOver K C&&takerIn K C name==some none&&hasDictIn K C
noncomputable def dN (K:Frag)(name:Str)(x v:V):M Unit:=fun σ=>on1 x.obj? (fun i=>on1 (ownI σ i) (fun p=>if gQ K p.1 name=true∧(putAs name v p.2).length≤900 then some (some (),{ σ with H:=σ.H.set i (.inst p.1 (putAs name v p.2)) }) else none) none) none
theorem setA_own {K:Frag}{name:Str}{i:Nat}{C:Addr}{as:List (Str×V)}{v:V}{σ:St}(h:σ.H[i]? = some (.inst C as))(hs:gQ K C name=true)(hl:(putAs name v as).length≤900):dN K name (.obj i) v σ=some (some (),{ σ with H:=σ.H.set i (.inst C (putAs name v as)) }):=by
 walk_at "a"
 show on1 (ownI σ i) _ none=_
 rw [ownI_of h]
 exact if_pos ⟨hs,hl⟩
 walk_at "z"
theorem s_setAttr {name:Str}{x v:V}{rx rv:Value}(hx:VR w.params W x rx)(hv:VR w.params W v rv):Snd a exc W (setAttr rx name rv) (dN K name x v) EqR:=by
 walk_at "a"
 constructor;intro s σ r FF e Q E TT
 obtain ⟨gg,tt,F⟩:=FF
 have T:=TT.at (G:=gg) (t:=tt)
 refine cK (fun i hi e=>cK (fun p q e=>?_) e) e
 obtain ⟨x1,rfl,hi⟩:=hx.obj?_i hi
 by_cases hok:gQ K p.1 name=true∧(putAs name v p.2).length≤900
 ·rw [if_pos hok] at e
  obtain ⟨hok,h5⟩:=hok
  unfold gQ at hok
  simp only [Bool.and_eq_true,beq_iff_eq] at hok
  obtain ⟨⟨⟨h1,h2⟩,h3⟩,h4⟩:=hok
  cases e
  obtain ⟨x',dx,es,n,k1,k2,k3,k4,k5⟩:=F.inv.ob _ _ (ownI_eq q)
  have hx':W.μ[_]? = some x':=k1
  rw [Option.some.inj (hi.symm.trans k1)]
  rw [Option.some.inj (hi.symm.trans k1)] at hi
  obtain ⟨m,Fm,hm⟩:=F.fr
  have E5:=ERs.put (name:=name) (tk:=s.toks+1) hv k5
  refine set_dict (es:=es) (n:=n) Fm (a.at gg tt).X F.inv.news (InstAt.of_news F.inv.news k3 k4) rfl h1 h2 h3 h4 (ERs.some k5) rfl (upd_setN F.inv.nd k4) ?_ fun h' Fm' N'=>?_
  ·rw [← ERs.len E5];exact Nat.le_trans h5 (by decide)
  ·have hd:dx∈W.δ:=List.mem_of_getElem? k2
   have X:=Ext.set (o:=dictOf (putL name (PyData.keyHash w.params name) (.str name (s.toks+1)) rv es) (putN name es n)) hd
   have xd:x'≠dx:=fun z=>by
    subst z
    have:=hO F.inv.nd k3 k4
    cases this
   refine T h' _ _ () ?_ X rfl
   refine ⟨⟨m,Fm',fun k y u hk hu=>?_⟩,F.inv.set k2 k4 (fun C dx e=>by cases e) N' ?_,a.wpx X F.cells⟩
   ·obtain ⟨r,e1,e2⟩:=hm k y u hk hu
    exact ⟨r,e1,e2.ext X⟩
   ·exact ⟨x',dx,_,_,k1,k2,mem_setN k3 xd,mem_setN_self k4,ERs.ext X E5⟩
 ·rw [if_neg hok] at e
  cases e
 walk_at "z"
end
end Mine
end
section
open PySem PySem.W PyProof.Rows PySem.SeqAt
namespace Mine
section
variable {prog:Program}{w:World}{K:Frag}{a:Act prog w K}{exc:Value}{W:Wd}{env:Env}
theorem FS.to {h h':Heap}{W':Wd}{σ:St}{m:Str→Option Value}(F:FS a h W σ)(hm:∀ (k:Nat) (x:Str) (v:V),a.nm[k]? = some x→σ.ρ[k]? = some (some v)→∃ r,m x=some r∧VR w.params W v r){H':List aE}(Fm:Fr a.g a.L h' m)(X:Ext W W')(I:Inv w.params a.g a.L h' W' H'):FS a h' W' { σ with H:=H' }:=by
 refine ⟨⟨m,Fm,fun k x v hk hv=>?_⟩,I,a.wpx X F.cells⟩
 obtain ⟨r,h1,h2⟩:=hm k x v hk hv
 exact ⟨r,h1,h2.ext X⟩
noncomputable def atM (vs:List V)(k:Int):M V:=if 0≤k∧k<1000000 then on1 vs[k.toNat]? M.ret M.stuck else M.stuck
noncomputable def cU (o i:V):M V:=on2 o.eX i.int? (fun x k=>if 0≤k∧k<1000000 then on1 x.cps[k.toNat]? (fun c=>M.ret (.str ⟨#[c]⟩)) M.stuck else M.stuck) (on2 o.tup? i.int? atM (on2 o.lst? i.int? atM M.stuck))
theorem VRs.at {P:Params}:∀ {vs:List V} {rs:List Value} {k:Nat} {v:V},VRs P W vs rs→vs[k]? = some v→∃ r,rs[k]? = some r∧VR P W v r:=by
 walk_at "a"
 intro vs
 induction vs with
 | nil=>intro rs k v h e;cases e
 | cons x vs ih =>
  intro rs k v h e
  obtain ⟨r,rs,rfl,h1,h2⟩:=h.eU
  cases k with
  | zero=>cases e;exact ⟨r,rfl,h1⟩
  | succ k=>exact ih (k:=k) h2 e
 walk_at "z"
theorem seqIndex_nat {k:Int}{n:Nat}(h0:0≤k)(h:k.toNat<n):seqIndex? k n=some k.toNat:=by
 walk_at "a"
 unfold seqIndex?
 have h1:¬ k<0:=by lia
 simp only [h1,if_false]
 rw [if_pos (by simp;lia)]
 walk_at "z"
theorem s_item {value slice:Expr}{o i:V}{ro ri:Value}(ho:VR w.params W o ro)(hi:VR w.params W i ri)
  (hs:∀ o k u,subscripted slice false o (.int k u)=operate [o,.int k u] (getItem o (.int k u))) (ht:∀ o r,letTemporaryGo value o r=pure ()) :
  Snd a exc W (subscriptTail value slice ro ri) (cU o i) (VRw w):=by
 walk_at "a"
 refine .on2 (fun x k hx hk=>?_) (.on2 (fun vs k hx hk=>?_) (.on2 (fun vs k hx hk=>?_) .stuck))
 ·obtain ⟨t,rfl⟩:=ho.dB hx
  obtain ⟨u,rfl⟩:=hi.eT hk
  refine .ifs (fun hk=>.on1 (fun c hc=>?_) .stuck) fun _=>.stuck
  refine aK.here fun gg tt s σ F Q E k=>subscriptTail_builtin (typeIs_str s _ _) PySem.F.slot_str_getitem.lookup (getItem_str (c:=c) ?_ ?_ (k _ _ (.str _ _))) (hs _ _ _) (ht _)
  ·simp;lia
  ·have:=(Array.getElem?_eq_some_iff.mp hc).1
   show (seqIndex? _ (Array.size _)).bind _=_
   rw [seqIndex_nat hk.1 this]
   exact hc
 ·obtain ⟨_,_,_,rfl,h1,m1,_⟩:=ho.tup?_i hx
  obtain ⟨u,rfl⟩:=hi.eT hk
  refine .ifs (fun hk=>.on1 (fun v hv=>?_) .stuck) fun _=>.stuck
  obtain ⟨r,e1,e2⟩:=VRs.at h1 hv
  exact aK.here fun gg tt s σ F Q E k=>item_tupleL (F.inv.isTup m1) (by lia) (by lia) (seqIndex_nat hk.1 (List.getElem?_eq_some_iff.mp e1).1) e1 (k r s.toks e2) (hs _ _ _) (ht _)
 ·obtain ⟨_,_,_,rfl,h1,m1,_⟩:=ho.lst?_i hx
  obtain ⟨u,rfl⟩:=hi.eT hk
  refine .ifs (fun hk=>.on1 (fun v hv=>?_) .stuck) fun _=>.stuck
  obtain ⟨r,e1,e2⟩:=VRs.at h1 hv
  exact aK.here fun gg tt s σ F Q E k=>subscriptTail_builtin (F.inv.isList m1).typeIs slot_list_getitem.lookup (wpAny_getItem_list (x:=r) (F.inv.isList m1) hk.1 (by lia) (by simpa using e1) (k r s.toks e2)) (hs _ _ _) (ht _)
 walk_at "z"
theorem e_Item {value slice:Expr}{pos:Pos}{x y:M V}(hx:∀ W,EX a exc env W value x)(hy:∀ W,EX a exc env W slice y)
  (hs:∀ o k u,subscripted slice false o (.int k u)=operate [o,.int k u] (getItem o (.int k u))) (ht:∀ o r,letTemporaryGo value o r=pure ()) :
  EX a exc env W (.Subscript value slice pos) (x.bind fun o=>y.bind fun i=>cU o i) :=
 (aK.bind (hx W) fun W1 _ o ro ho=>aK.bind (hy W1) fun W2 x2 i ri hi=>s_item (ho.ext x2) hi hs ht).imp fun _ _ _ z=>Subscript_ z
noncomputable abbrev PX (a:Act prog w K)(exc:Value)(env:Env)(W:Wd)(e:Option Expr)(x:M V):Prop:=Snd a exc W (evalPart e env) x (VRw w)
theorem p_none (W:Wd):PX a exc env W none (M.ret .none):=Snd.ret .none
theorem bR {e:Expr}{x:M V}(h:∀ W,EX a exc env W e x)(W:Wd):PX a exc env W (some e) x:=h W
noncomputable def partV (v:V):Option (Option Int):=on1 v.int? (fun i=>some (some i)) (on1 v.non? (fun _=>some none) none)
noncomputable def pickV (vs:List V)(lo hi:Option Int):List V:=(sliceRange (sliceBounds lo hi none vs.length).1 (sliceBounds lo hi none vs.length).2.1 (sliceBounds lo hi none vs.length).2.2).filterMap (vs[·]?)
noncomputable def bM (o l u:V):M V:=on2 (partV l) (partV u) (fun lo hi=>on1 o.eX (fun x=>if x.length≤100000 then M.ret (.str (Txt.slice x lo hi)) else M.stuck)
 (on1 o.lst? (fun vs=>if vs.length≤100000 then M.ret (.lst (pickV vs lo hi)) else M.stuck) M.stuck)) M.stuck
theorem VRs.pick {P:Params}{vs:List V}{rs:List Value}(h:VRs P W vs rs):∀ (l:List Nat),VRs P W (l.filterMap (vs[·]?)) (l.filterMap (rs[·]?))
 | []=>.nil
 | k::l=>by
  rw [List.filterMap_cons,List.filterMap_cons]
  cases q:vs[k]? with
  | none =>
   have:rs[k]? = none:=by
    rw [List.getElem?_eq_none_iff] at q ⊢
    rw [← VRs.length h];exact q
   rw [this]
   exact VRs.pick h l
  | some v =>
   obtain ⟨r,e1,e2⟩:=VRs.at h q
   rw [e1]
   exact .cons e2 (VRs.pick h l)
theorem pick_toList {vs:List V}{rs:List Value}{P:Params}(h:VRs P W vs rs)(lo hi:Option Int):VRs P W (pickV vs lo hi) (slicePick rs.toArray lo hi none).toList:=by
 walk_at "a"
 unfold pickV slicePick
 have:rs.toArray.size=vs.length:=by rw [List.size_toArray,VRs.length h]
 rw [this]
 simpa using VRs.pick h _
 walk_at "z"
theorem part_of {P:Params}{v:V}{r:Value}{o:Option Int}(h:VR P W v r)(e:partV v=some o):IsPart r o∧((r=.none∧o=none)∨∃ i u,r=.int i u∧o=some i):=by
 walk_at "a"
 refine on1_e (p:=fun z=>z=some o→_) (fun i hi e=>?_) (cK fun i hi e=>?_) e
 ·obtain ⟨t,rfl⟩:=h.eT hi
  cases e
  exact ⟨.int _ _,.inr ⟨_,_,rfl,rfl⟩⟩
 ·cases h.non?_i hi
  cases e
  exact ⟨.none,.inl ⟨rfl,rfl⟩⟩
 walk_at "z"
theorem s_slice {value:Expr}{lower upper:Option Expr}{p:Pos}{o l u:V}{ro rl ru:Value}(ho:VR w.params W o ro)(hl:VR w.params W l rl)(hu:VR w.params W u ru)
  (hs:∀ o i,subscripted (.Slice lower upper none p) false o i=operate [i,o] (getItem o i)) (ht:∀ o r,letTemporaryGo value o r=pure ()) :
  aK a exc W (fun Q E s=>wpAny (model prog w) a.A (subscriptTail value (.Slice lower upper none p) ro (.ref s.heap.objs.size)) Q E { s with heap:=s.heap.push { cls:=.type "slice",data:=.fields #[rl,ru,.none] } }) (bM o l u) (VRw w):=by
 walk_at "a"
 refine .on2 (fun lo hi e1 e2=>.on1 (fun x hx=>.ifs (fun hx=>?_) fun _=>.stuck) (.on1 (fun vs hx=>.ifs (fun hx=>?_) fun _=>.stuck) .stuck)) .stuck
 ·obtain ⟨_,q1⟩:=part_of hl e1
  obtain ⟨_,q2⟩:=part_of hu e2
  obtain ⟨t,rfl⟩:=ho.dB ‹_›
  constructor;intro s σ r FF e Q E TT
  obtain ⟨gg,tt,F⟩:=FF
  have T:=TT.at (G:=gg) (t:=tt)
  cases e
  obtain ⟨m,Fm,hm⟩:=F.fr
  have fin:∀ h' t' k,Fr gg a.L h' m→News gg a.L h' W.N→Q (.str (Txt.slice x lo hi) t') { s with heap:=h',toks:=k }:=fun h' t' k Fm' N' =>
   T h' k W _ ⟨⟨m,Fm',hm⟩,⟨N',F.inv.nd,F.inv.dn,F.inv.lμ,F.inv.lδ,F.inv.ob,F.inv.hdn⟩,F.cells⟩ (Ext.refl W) (.str _ _)
  have hsz:=Nat.le_trans hx gJ
  rcases q1 with ⟨rfl,rfl⟩ | ⟨i,ui,rfl,rfl⟩<;>rcases q2 with ⟨rfl,rfl⟩ | ⟨j,uj,rfl,rfl⟩
  ·exact slice_strN_nn Fm F.inv.news fin (hs _ _) (ht _) hsz
  ·exact slice_strN_ns Fm F.inv.news fin (hs _ _) (ht _) hsz
  ·exact slice_strN_sn Fm F.inv.news fin (hs _ _) (ht _) hsz
  ·exact slice_strN_ss Fm F.inv.news fin (hs _ _) (ht _) hsz
 ·obtain ⟨p1,_⟩:=part_of hl e1
  obtain ⟨p2,_⟩:=part_of hu e2
  obtain ⟨rs,_,_,rfl,h1,m1,_⟩:=ho.lst?_i ‹_›
  constructor;intro s σ r FF e Q E TT
  obtain ⟨gg,tt,F⟩:=FF
  have T:=TT.at (G:=gg) (t:=tt)
  cases e
  obtain ⟨m,Fm,hm⟩:=F.fr
  refine slice_list Fm F.inv.news (F.inv.isList m1) p1 p2 (fun h' Fm' N'=>?_) (hs _ _) (ht _) (by rw [List.size_toArray];exact h1.len hx)
  have hlt:∀ p∈W.N,p.1≠s.heap.objs.size+1:=fun p hp=>Nat.ne_of_lt (Nat.lt_succ_of_lt (F.inv.lt hp))
  have hδ:W.free (s.heap.objs.size+1):=⟨fun hp=>Nat.lt_irrefl _ (Nat.lt_trans (Nat.lt_succ_self _) (F.inv.dlt hp)),fun hp=>by obtain ⟨o,ho⟩:=F.inv.hdn.1 _ hp;exact hlt _ ho rfl⟩
  refine T h' _ (W.put (s.heap.objs.size+1) (gI (slicePick _ lo hi none).toList 0)) _ ?_ Ext.put (.lst ((pick_toList h1 lo hi).ext Ext.put) (.head _) hδ)
  exact F.to hm Fm' Ext.put (F.inv.put (by simpa [gI] using N') hlt)
 walk_at "z"
theorem e_Slice {value:Expr}{lower upper:Option Expr}{p pos:Pos}{x y z:M V}(hx:∀ W,EX a exc env W value x)(hy:∀ W,PX a exc env W lower y)(hz:∀ W,PX a exc env W upper z)
  (hs:∀ o i,subscripted (.Slice lower upper none p) false o i=operate [i,o] (getItem o i)) (ht:∀ o r,letTemporaryGo value o r=pure ()) :
  EX a exc env W (.Subscript value (.Slice lower upper none p) pos) (x.bind fun o=>y.bind fun l=>z.bind fun u=>bM o l u):=by
 walk_at "a"
 exact 
  (aK.bind (hx W) fun W1 _ o ro ho=>(aK.bind (hy W1) fun W2 x2 l rl hl=>aK.bind (hz W2) fun W3 x3 u ru hu=>s_slice (ho.ext (x2.trans x3)) (hl.ext x3) hu hs ht).imp fun _ _ _ z=>wpAny_Slice (wpAny_mono z (fun _ _ z=>wpAny_mono z (fun _ _ z=>by rw [evalPart_none];exact wpAny_pure z) fun _ _ e=>e) fun _ _ e=>e)).imp fun _ _ _ z=>Subscript_ z
 walk_at "z"
end
end Mine
end
section
open PySem PySem.W PyProof.Rows PySem.SeqAt
namespace Mine
section
variable {prog:Program}{w:World}{K:Frag}{a:Act prog w K}{exc:Value}{W:Wd}{env:Env}
theorem big_line2:(100002:Nat)≤sizeLine:=by rw [sizeLine_eq];lia
theorem VRs.snoc {P:Params}{vs:List V}{rs:List Value}{v:V}{r:Value}(h1:VRs P W vs rs)(h:VR P W v r):VRs P W (vs++[v]) (rs++[r]):=h1.append (.cons h .nil)
noncomputable def ownL (σ:St)(i:Nat):Option (List V):=match σ.H[i]? with | some o=>o.list? | none=>none
theorem ownL_eq {σ:St}{i:Nat}{vs:List V}(e:ownL σ i=some vs):σ.H[i]? = some (.list vs):=by
 walk_at "a"
 unfold ownL at e
 cases q:σ.H[i]? with
 | none=>rw [q] at e;cases e
 | some o=>rw [q] at e;rw [aE.list?_eq e]
 walk_at "z"
theorem ownL_of {σ:St}{i:Nat}{vs:List V}(e:σ.H[i]? = some (.list vs)):ownL σ i=some vs:=by
 walk_at "a"
 unfold ownL;rw [e];rfl
 walk_at "z"
noncomputable def listAt (σ:St)(v:V):Option (List V):=on1 v.lst? some (on1 v.obj? (ownL σ) none)
theorem listAt_is {σ:St}{h:Heap}{v:V}{rv:Value}{vs:List V}(F:FS a h W σ)(hv:VR w.params W v rv)(e:listAt σ v=some vs):∃ l rs,rv=.ref l∧h.IsList l rs.toArray∧VRs w.params W vs rs:=by
 walk_at "a"
 refine on1_e (p:=fun z=>z=some vs→_) (fun us hu e=>?_) (cK fun i hi e=>?_) e
 ·cases e
  obtain ⟨_,_,_,rfl,h1,m1,_⟩:=hv.lst?_i hu
  exact ⟨_,_,rfl,F.inv.isList m1,h1⟩
 ·obtain ⟨x1,rfl,hi⟩:=(V.obj?_eq hi▸hv:VR w.params W (.obj i) rv).obj_i
  obtain ⟨x,rs,n,k1,k2,k3,k4⟩:=F.inv.ob _ _ (ownL_eq e)
  rw [hi] at k1;cases k1
  exact ⟨_,_,rfl,F.inv.isList k3,k4⟩
 walk_at "z"
theorem s_1 {id:String}{vs:List V}{rs:List Value}{f:V→M V}(h:VRs w.params W vs rs)(k:∀ x r,VR w.params W x r→Snd a exc W (call (.builtin id) [r]) (f x) (VRw w)):Snd a exc W (call (.builtin id) rs) (on1 (a1 vs) f M.stuck) (VRw w) :=
 on1_e (p:=fun m=>Snd a exc W (call (.builtin id) rs) m (VRw w)) (fun x e=>by obtain ⟨r,rfl,h1⟩:=h.a1 e;exact k x r h1) aK.stuck
theorem s_2 {id:String}{vs:List V}{rs:List Value}{f:V×V→M V}(h:VRs w.params W vs rs)(k:∀ x r q,VR w.params W x.1 r→VR w.params W x.2 q→Snd a exc W (call (.builtin id) [r,q]) (f x) (VRw w)):Snd a exc W (call (.builtin id) rs) (on1 (a2 vs) f M.stuck) (VRw w) :=
 on1_e (p:=fun m=>Snd a exc W (call (.builtin id) rs) m (VRw w)) (fun x e=>by obtain ⟨r,q,rfl,h1,h2⟩:=h.a2 e;exact k x r q h1 h2) aK.stuck
theorem s_I {id:String}{x:V}{r:Value}{f:Int→M V}(h:VR w.params W x r)(k:∀ i t,Snd a exc W (call (.builtin id) [.int i t]) (f i) (VRw w)):Snd a exc W (call (.builtin id) [r]) (on1 x.int? f M.stuck) (VRw w) :=
 on1_e (p:=fun m=>Snd a exc W (call (.builtin id) [r]) m (VRw w)) (fun i e=>by obtain ⟨t,rfl⟩:=h.eT e;exact k i t) aK.stuck
theorem s_S {id:String}{x:V}{r:Value}{f:Str→M V}(h:VR w.params W x r)(k:∀ i t,Snd a exc W (call (.builtin id) [.str i t]) (f i) (VRw w)):Snd a exc W (call (.builtin id) [r]) (on1 x.eX f M.stuck) (VRw w) :=
 on1_e (p:=fun m=>Snd a exc W (call (.builtin id) [r]) m (VRw w)) (fun i e=>by obtain ⟨t,rfl⟩:=h.dB e;exact k i t) aK.stuck
theorem s_SS {id:String}{x y:V}{r q:Value}{f:Str→Str→M V}(h:VR w.params W x r)(h2:VR w.params W y q)(k:∀ i t j u,Snd a exc W (call (.builtin id) [.str i t,.str j u]) (f i j) (VRw w)):Snd a exc W (call (.builtin id) [r,q]) (on2 x.eX y.eX f M.stuck) (VRw w) :=
 on2_e (p:=fun m=>Snd a exc W (call (.builtin id) [r,q]) m (VRw w)) (fun i j e e2=>by obtain ⟨t,rfl⟩:=h.dB e;obtain ⟨u,rfl⟩:=h2.dB e2;exact k i t j u) aK.stuck
noncomputable def lenL (v:V):M V:=fun σ=>on1 (listAt σ v) (fun us=>if us.length≤100000 then some (some (.int us.length),σ) else none) none
noncomputable def bLen (vs:List V):M V:=on1 (a1 vs) (fun v=>on1 v.eX (fun x=>if x.length≤100000 then M.ret (.int x.length) else M.stuck) (lenL v)) M.stuck
theorem s_len {vs:List V}{rs:List Value}(h:VRs w.params W vs rs):Snd a exc W (call (.builtin "len") rs) (bLen vs) (VRw w):=by
 walk_at "a"
 refine s_1 h fun x r hx=>on1_e (p:=fun m=>Snd a exc W (call (.builtin "len") [r]) m (VRw w)) (fun s e=>?_) ?_
 ·obtain ⟨t,rfl⟩:=hx.dB e
  exact aK.ifs (fun hx=>Snd.calm fun s Q E _ k=>PyProof.Rows.len_str (by lia) (k _ _ (.int _ _))) fun _=>aK.stuck
 ·constructor;intro s σ r FF e Q E TT
  obtain ⟨gg,tt,F⟩:=FF
  have T:=TT.at (G:=gg) (t:=tt)
  refine cK (fun us q e=>?_) e
  by_cases hx:us.length≤100000
  ·rw [if_pos hx] at e
   cases e
   obtain ⟨l,rs,rfl,hl,hv⟩:=listAt_is F ‹_› q
   have hlen:=VRs.length hv
   refine len_list hl (by rw [List.size_toArray];lia) ?_
   rw [List.size_toArray,← hlen]
   exact T s.heap _ W _ F (Ext.refl W) (.int _ _)
  ·rw [if_neg hx] at e
   cases e
 walk_at "z"
noncomputable def bChr (vs:List V):M V:=on1 (a1 vs) (fun v=>on1 v.int? (fun i=>if 0≤i∧i<1000 then M.ret (.str ⟨#[i.toNat]⟩) else M.stuck) M.stuck) M.stuck
theorem s_chr {vs:List V}{rs:List Value}(h:VRs w.params W vs rs):Snd a exc W (call (.builtin "chr") rs) (bChr vs) (VRw w) :=
 s_1 h fun x r hx=>s_I hx fun i t=>aK.ifs (fun hx=>Snd.calm fun s Q E _ k=>PySem.P.chr_of_int (by simp;lia) (k _ _ (.str _ _))) fun _=>aK.stuck
noncomputable def bOrd (vs:List V):M V:=on1 (a1 vs) (fun v=>on1 v.eX (fun x=>if x.length=1 then M.ret (.int (x.cps.getD 0 0:Nat)) else M.stuck) M.stuck) M.stuck
theorem s_ord {vs:List V}{rs:List Value}(h:VRs w.params W vs rs):Snd a exc W (call (.builtin "ord") rs) (bOrd vs) (VRw w):=by
 walk_at "a"
 exact 
  s_1 h fun x r hx=>s_S hx fun i t=>aK.ifs (fun hx=>Snd.calm fun s Q E _ k=>ord_of_one hx (k _ _ (.int _ _))) fun _=>aK.stuck
 walk_at "z"
noncomputable def bAbs (vs:List V):M V:=on1 (a1 vs) (fun v=>on1 v.int? (fun i=>M.ret (.int (if i<0 then -i else i))) M.stuck) M.stuck
theorem s_abs {vs:List V}{rs:List Value}(h:VRs w.params W vs rs):Snd a exc W (call (.builtin "abs") rs) (bAbs vs) (VRw w):=by
 walk_at "a"
 exact 
  s_1 h fun x r hx=>s_I hx fun i t=>Snd.calm fun s Q E _ k=>call_abs_int fun u tk=>k _ _ (.int _ _)
 walk_at "z"
noncomputable def bIsi (vs:List V):M V:=on1 (a2 vs) (fun p=>on2 p.1.eX (isT "str" p.2) (fun _ _=>M.ret (.bool true)) (on2 p.1.tup? (isT "str" p.2) (fun _ _=>M.ret (.bool false)) (on2 p.1.int? (isT "bool" p.2) (fun _ _=>M.ret (.bool false)) M.stuck))) M.stuck
theorem s_isi {vs:List V}{rs:List Value}(h:VRs w.params W vs rs):Snd a exc W (call (.builtin "isinstance") rs) (bIsi vs) (VRw w):=by
 walk_at "a"
 refine s_2 h fun x r q hx hy=>on2_e (p:=fun m=>Snd a exc W (call (.builtin "isinstance") [r,q]) m (VRw w)) (fun i u e e2=>?_) (on2_e (p:=fun m=>Snd a exc W (call (.builtin "isinstance") [r,q]) m (VRw w)) (fun i u e e2=>?_) (on2_e (p:=fun m=>Snd a exc W (call (.builtin "isinstance") [r,q]) m (VRw w)) (fun i u e e2=>?_) aK.stuck))
 ·obtain ⟨t,rfl⟩:=hx.dB e
  rw [hy.isT e2]
  exact Snd.calm fun s Q E _ k=>PySem.IsiPair.str_str (k _ s.toks (.bool _))
 ·obtain ⟨_,_,_,rfl,_,m1,_⟩:=hx.tup?_i e
  rw [hy.isT e2]
  exact aK.here fun gg tt s σ F Q E k=>PySem.IsiPair.tuple_str (F.inv.news _ m1).1 rfl (k _ _ (.bool _))
 ·obtain ⟨t,rfl⟩:=hx.eT e
  rw [hy.isT e2]
  exact Snd.calm fun s Q E _ k=>PySem.IsiPair.int_bool (k _ _ (.bool _))
 walk_at "z"
noncomputable def bLower (vs:List V):M V:=on1 (a1 vs) (fun v=>on1 v.eX (fun x=>if x.length≤1000 then M.ret (.str (Txt.lower x)) else M.stuck) M.stuck) M.stuck
theorem s_lower {vs:List V}{rs:List Value}(h:VRs w.params W vs rs):Snd a exc W (call (.builtin "str.lower") rs) (bLower vs) (VRw w):=by
 walk_at "a"
 exact 
  s_1 h fun x r hx=>s_S hx fun i t=>aK.ifs (fun hx=>Snd.calm fun s Q E _ k=>SCL.lower (by lia) fun _=>k _ _ (.str _ _)) fun _=>aK.stuck
 walk_at "z"
noncomputable def bUpper (vs:List V):M V:=on1 (a1 vs) (fun v=>on1 v.eX (fun x=>if x.length≤1000 then M.ret (.str (Txt.upper x)) else M.stuck) M.stuck) M.stuck
theorem s_upper {vs:List V}{rs:List Value}(h:VRs w.params W vs rs):Snd a exc W (call (.builtin "str.upper") rs) (bUpper vs) (VRw w) :=
 s_1 h fun x r hx=>s_S hx fun i t=>aK.ifs (fun hx=>Snd.calm fun s Q E _ k=>SCL.upper (by lia) fun _=>k _ _ (.str _ _)) fun _=>aK.stuck
noncomputable def bFind (vs:List V):M V:=on1 (a2 vs) (fun p=>on2 p.1.eX p.2.eX (fun x y=>M.ret (.int (Txt.find x y))) M.stuck) M.stuck
theorem s_find {vs:List V}{rs:List Value}(h:VRs w.params W vs rs):Snd a exc W (call (.builtin "str.find") rs) (bFind vs) (VRw w) :=
 s_2 h fun x r q hx hy=>s_SS hx hy fun i t j u=>Snd.calm fun s Q E _ k=>SC.find (k _ _ (.int _ _))
theorem strs_are {P:Params}:∀ {vs:List V} {rs:List Value} {ys:List Str},VRs P W vs rs→gP vs=some ys→StrsAre rs ys:=by
 walk_at "a"
 intro vs
 induction vs with
 | nil=>intro rs ys h e;cases h.gX;rw [← Option.some.inj e];exact .nil
 | cons v vs ih =>
  intro rs ys h e
  obtain ⟨_,_,rfl,h1,h2⟩:=h.eU
  refine on2_n (fun z zs hz hzs e=>?_) e
  obtain ⟨u,rfl⟩:=h1.dB hz
  rw [← Option.some.inj e]
  exact .cons _ _ (ih h2 hzs)
 walk_at "z"
noncomputable def bJoin (vs:List V):M V:=on1 (a2 vs) (fun p=>on1 p.1.eX (fun x σ=>on1 ((listAt σ p.2).bind gP) (fun ys=>if x.length≤16∧(ys.map (·.length)).sum+ys.length≤1048576 then some (some (.str (Txt.join x ys)),σ) else none) none) M.stuck) M.stuck
theorem s_join {vs:List V}{rs:List Value}(h:VRs w.params W vs rs):Snd a exc W (call (.builtin "str.join") rs) (bJoin vs) (VRw w):=by
 walk_at "a"
 refine s_2 h fun x r q hx hy=>on1_e (p:=fun m=>Snd a exc W (call (.builtin "str.join") [r,q]) m (VRw w)) (fun z hz=>?_) aK.stuck
 obtain ⟨t,rfl⟩:=hx.dB hz
 constructor;intro s σ r FF e Q E TT
 obtain ⟨gg,tt,F⟩:=FF
 have T:=TT.at (G:=gg) (t:=tt)
 refine cK (fun ys q e=>?_) e
 by_cases hx:z.length≤16∧(ys.map (·.length)).sum+ys.length≤1048576
 ·rw [if_pos hx] at e
  cases e
  obtain ⟨us,q1,q2⟩:=Option.bind_eq_some_iff.mp q
  obtain ⟨l,rs,rfl,hl,hv⟩:=listAt_is F hy q1
  exact join_listW hl (by simpa using strs_are hv q2) hx.1 hx.2 fun t' k=>T s.heap k W _ F (Ext.refl W) (.str _ _)
 ·rw [if_neg hx] at e
  cases e
 walk_at "z"
noncomputable def bSplit (vs:List V):M V:=on1 (a2 vs) (fun p=>on2 p.1.eX p.2.eX (fun x y=>if x.length≤100000∧(y.length==0)=false then M.ret (.lst ((Txt.split x y).map .str)) else M.stuck) M.stuck) M.stuck
theorem strs_back {P:Params}:∀ (l:List (Str×Tok)),VRs P W ((l.map (·.1)).map V.str) (strValues l)
 | []=>.nil
 | p::l=>.cons (.str _ _) (strs_back l)
theorem s_split {vs:List V}{rs:List Value}(h:VRs w.params W vs rs):Snd a exc W (call (.builtin "str.split") rs) (bSplit vs) (VRw w):=by
 walk_at "a"
 refine s_2 h fun x r q hx hy=>s_SS hx hy fun i t j u=>aK.ifs (fun hx=>?_) fun _=>aK.stuck
 constructor;intro s σ r FF e Q E TT
 obtain ⟨gg,tt,F⟩:=FF
 have T:=TT.at (G:=gg) (t:=tt)
 cases e
 obtain ⟨m,Fm,hm⟩:=F.fr
 refine splitN1 Fm F.inv.news hx.2 (fun l h' k hl Fm' N'=>?_) (by have:=big_line2;lia)
 refine T h' k (W.put s.heap.objs.size (gI (strValues l) 0)) _ (F.to hm Fm' Ext.put (F.inv.put N' F.fresh)) Ext.put ?_
 rw [← hl]
 exact .lst (strs_back l) (.head _) F.freshF
 walk_at "z"
noncomputable def bAppend (vs:List V):M V:=on1 (a2 vs) (fun p=>on1 p.1.obj? (fun i σ=>on1 (ownL σ i) (fun us=>if us.length≤100000 then some (some .none,{ σ with H:=σ.H.set i (.list (us++[p.2])) }) else none) none) M.stuck) M.stuck
theorem s_append {vs:List V}{rs:List Value}(h:VRs w.params W vs rs):Snd a exc W (call (.builtin "list.append") rs) (bAppend vs) (VRw w):=by
 walk_at "a"
 refine s_2 h fun z r rv hx h3=>on1_e (p:=fun m=>Snd a exc W (call (.builtin "list.append") [r,rv]) m (VRw w)) (fun i hz=>?_) aK.stuck
 obtain ⟨x1,rfl,hi⟩:=(V.obj?_eq hz▸hx:VR w.params W (.obj i) r).obj_i
 constructor;intro s σ r FF e Q E TT
 obtain ⟨gg,tt,F⟩:=FF
 have T:=TT.at (G:=gg) (t:=tt)
 refine cK (fun us q e=>?_) e
 by_cases hx:us.length≤100000
 ·rw [if_pos hx] at e
  cases e
  obtain ⟨x,rs,n,k1,k2,k3,k4⟩:=F.inv.ob _ _ (ownL_eq q)
  obtain ⟨m,Fm,hm⟩:=F.fr
  have hd:x∈W.δ:=List.mem_of_getElem? k2
  rw [show Value.ref _=Value.ref x from congrArg Value.ref (Option.some.inj (hi.symm.trans k1))]
  have X:=Ext.set (o:=gI (rs++[rv]) (n+1)) hd
  have e0:listOf (rs.toArray.push rv) (n+1)=gI (rs++[rv]) (n+1):=by simp
  refine append_K (its:=rs.toArray) (n:=n) Fm F.inv.news (by rw [e0];exact upd_setN F.inv.nd k3) (fun h' Fm' N'=>?_) (by rw [List.size_toArray,← VRs.length k4];exact Nat.le_trans hx gJ)
  refine T h' s.toks (W.set x (gI (rs++[rv]) (n+1))) _ (F.to hm Fm' X (F.inv.set k2 k3 (fun C dx e=>by cases e) N' ?_)) X .none
  exact ⟨x,rs++[rv],n+1,k1,k2,mem_setN_self k3,VRs.snoc (VRs.ext X k4) (h3.ext X)⟩
 ·rw [if_neg hx] at e
  cases e
 walk_at "z"
end
end Mine
end
open PySem PySem.W PyProof.Rows PySem.SeqAt PyProof.Rows.KTD PyProof.V
section
namespace Mine
section
variable {prog:Program}{w:World}{K:Frag}{a:Act prog w K}{exc:Value}{W:Wd}{env:Env}
noncomputable def pdV:V→PyData
 | .bool b=>.bool b
 | .int i=>.int i
 | .str x=>.str x
 | _=>.none
noncomputable def flatV:V→Bool
 | .bool _=>true
 | .int _=>true
 | .str _=>true
 | _=>false
theorem flat_to {P:Params}{v:V}{r:Value}(h:VR P W v r)(hf:flatV v=true):Flat r (pdV v):=by
 walk_at "a"
 cases h<;>cases hf
 ·exact fun h=>.bool _
 ·exact fun h=>.int _ _
 ·exact fun h=>.str _ _
 walk_at "z"
theorem flat_back {P:Params}{v:V}{r:Value}(hf:flatV v=true)(h:Flat r (pdV v)):VR P W v r:=by
 walk_at "a"
 have h:=h { objs := #[] }
 cases v<;>cases hf
 ·cases h;exact .bool _
 ·cases h;exact .int _ _
 ·cases h;exact .str _ _
 walk_at "z"
noncomputable def kval:Value→Option V
 | .bool b=>some (.bool b)
 | .int i _=>some (.int i)
 | .str x _=>some (.str x)
 | _=>none
theorem kval_flat {v:Value}{u:V}(e:kval v=some u):flatV u=true∧Flat v (pdV u):=by
 walk_at "a"
 cases v<;>cases e
 ·exact ⟨rfl,fun h=>.bool _⟩
 ·exact ⟨rfl,fun h=>.int _ _⟩
 ·exact ⟨rfl,fun h=>.str _ _⟩
 walk_at "z"
noncomputable def kstr (v:Value):Option Str:=match v with | .str x _=>some x | _=>none
theorem kstr_eq {v:Value}{x:Str}(e:kstr v=some x):∃ t,v=.str x t:=by
 walk_at "a"
 cases v<;>cases e;exact ⟨_,rfl⟩
 walk_at "z"
noncomputable def kents:List DictEntry→Option (List (Str×V))
 | []=>some []
 | e::r=>on2 (kstr e.key) (kval e.val) (fun x u=>on1 (kents r) (fun l=>some ((x,u)::l)) none) none
noncomputable def isDict (o:Obj):Bool:=o.cls==.type "dict"&&o.dict.isNone&&o.slots.isEmpty
noncomputable def tabK (K:Frag)(d:Addr):Option (List (Str×V)):=if d==sysModules then none else match K.lookup d with
 | some ⟨c,dd,.dict es n,sl⟩=>if isDict ⟨c,dd,.dict es n,sl⟩ then kents es.toList else none
 | _=>none
noncomputable abbrev dats (es:List (Str×V)):List (Str×KTD.Dat):=es.map fun p=>(p.1,KTD.Dat.flat (pdV p.2))
theorem kents_rows {h:Heap}:∀ {l:List DictEntry} {es:List (Str×V)},kents l=some es→KTD.Rows (KTD.Dat.At h) l (dats es)∧es.all (fun p=>flatV p.2)=true:=by
 walk_at "a"
 intro l
 induction l with
 | nil=>intro es e;cases e;exact ⟨.nil,rfl⟩
 | cons d l ih =>
  intro es e
  refine on2_n (fun x u hk hv e=>cK (fun us hr e=>?_) e) e
  obtain ⟨t,hk⟩:=kstr_eq hk
  cases e
  obtain ⟨h1,h2⟩:=kval_flat hv
  obtain ⟨k1,k2⟩:=ih hr
  exact ⟨.cons hk h2 k1,by rw [List.all_cons,h1,k2];rfl⟩
 walk_at "z"
theorem isDict_exact {o:Obj}(h:isDict o=true):o.ExactDict:=by
 unfold isDict at h
 simp only [Bool.and_eq_true,beq_iff_eq,Option.isNone_iff_eq_none] at h
 exact ⟨h.1.1,h.1.2,by simpa using h.2⟩
theorem tabK_at {h:Heap}(X:K.In h){d:Addr}{es:List (Str×V)}(e:tabK K d=some es):TextTab h d (dats es)∧es.all (fun p=>flatV p.2)=true:=by
 walk_at "a"
 unfold tabK at e
 split at e
 ·cases e
 ·rename_i hs
  split at e
  ·rename_i c dd es' n sl ho
   split at e
   ·rename_i hd
    obtain ⟨k1,k2⟩:=kents_rows (h:=h) e
    exact ⟨⟨by simpa using hs,_,_,_,X _ _ ho,isDict_exact hd,rfl,k1⟩,k2⟩
   ·cases e
  ·cases e
 walk_at "z"
theorem ERs.rows {P:Params}{h:Heap}:∀ {es:List (Str×V)} {ds:List DictEntry},ERs P W es ds→es.all (fun p=>flatV p.2)=true→KTD.Rows (KTD.Dat.At h) ds (dats es):=by
 walk_at "a"
 intro es
 induction es with
 | nil=>intro ds h1 e;cases h1.gX;exact .nil
 | cons p es ih =>
  intro ds h1 e
  obtain ⟨_,_,_,_,rfl,hv,hs⟩:=h1.eU
  rw [List.all_cons,Bool.and_eq_true] at e
  exact .cons rfl (flat_to hv e.1) (ih hs e.2)
 walk_at "z"
noncomputable def fN (K:Frag)(v:V):Option (List (Str×V)):=on1 v.const? (tabK K) (on1 v.dct? (fun es=>if es.all (fun p=>flatV p.2)=true then some es else none) none)
theorem dctAt_is {σ:St}{s:Shared}{v:V}{rv:Value}{es:List (Str×V)}(F:FS a s.heap W σ)(hv:VR w.params W v rv)(e:fN K v=some es):∃ d,rv=.ref d∧Here s.heap s.heap d (dats es)∧es.all (fun p=>flatV p.2)=true:=by
 walk_at "a"
 refine on1_e (p:=fun z=>z=some es→_) (fun d hd e=>?_) (cK fun us hd e=>?_) e
 ·obtain ⟨k1,k2⟩:=tabK_at F.kin e
  exact ⟨_,hv.const?_i hd,⟨k1,fun _ _ h=>h⟩,k2⟩
 ·by_cases hf:us.all (fun p=>flatV p.2)=true
  ·rw [if_pos hf] at e
   cases e
   rw [V.dct?_eq hd] at hv
   cases hv with
   | dct h0 h2 h3 h1 m1 d1=>exact ⟨_,rfl,⟨⟨h0,_,_,_,(F.inv.news _ m1).1,h2,h3,h1.rows hf⟩,fun _ _ h=>h⟩,hf⟩
  ·rw [if_neg hf] at e
   cases e
 walk_at "z"
theorem datumAt_dats {k:Str}:∀ {es:List (Str×V)},datumAt k (dats es)=(datumAt k es).map fun v=>KTD.Dat.flat (pdV v)
 | []=>rfl
 | p::es=>by
  show (if decide (k=p.1)=true then _ else datumAt k (dats es))=_
  rw [datumAt_dats (es:=es)]
  show _=Option.map _ (if decide (k=p.1)=true then some p.2 else datumAt k es)
  split<;>rfl
theorem inKeys_dats {k:Str}:∀ {es:List (Str×V)},inKeys k (dats es)=inKeys k es
 | []=>rfl
 | p::es=>by
  show (decide (k=p.1)||inKeys k (dats es))=(decide (k=p.1)||inKeys k es)
  rw [inKeys_dats (es:=es)]
theorem datum_flat {k:Str}{v:V}:∀ {es:List (Str×V)},es.all (fun p=>flatV p.2)=true→datumAt k es=some v→flatV v=true
 | p::es,h,e=>by
  walk_at "a"
  simp only [List.all_cons,Bool.and_eq_true] at h
  have e:(if decide (k=p.1)=true then some p.2 else datumAt k es)=some v:=e
  split at e
  ·cases e;exact h.1
  ·exact datum_flat h.2 e
  walk_at "z"
noncomputable def cmpD (K:Frag)(op:CmpOp)(x y:V):M V:=match op with
 | .In=>on2 x.eX (fN K y) (fun k es=>M.ret (.bool (inKeys k es))) (aY .In x y)
 | op=>aY op x y
theorem s_cmpD {op:CmpOp}{x y:V}{rx ry:Value}(hx:VR w.params W x rx)(hy:VR w.params W y ry):Snd a exc W (compareOp op rx ry) (cmpD K op x y) (VRw w):=by
 walk_at "a"
 cases op with
 | In =>
  refine aK.on2 (fun k es hk e=>?_) (s_cmp hx hy)
  obtain ⟨t,rfl⟩:=hx.dB hk
  refine aK.here fun gg tt s σ F Q E z=>?_
  obtain ⟨d,rfl,T,_⟩:=dctAt_is F hy e
  exact in_text T (by rw [inKeys_dats];exact z _ _ (.bool _))
 | _=>exact s_cmp hx hy
 walk_at "z"
theorem cmpD_tab {K:Frag}{k:Str}{y:V}{es:List (Str×V)}(h:fN K y=some es):cmpD K .In (.str k) y=M.ret (.bool (inKeys k es)):=by
 walk_at "a"
 have e:cmpD K .In (.str k) y=on2 (some k) (fN K y) (fun k es=>M.ret (.bool (inKeys k es))) (aY .In (.str k) y):=rfl
 rw [e,h];rfl
 walk_at "z"
noncomputable def bGet (K:Frag)(vs:List V):M V:=on1 (a2 vs) (fun p=>on2 (fN K p.1) p.2.eX (fun es k=>M.ret ((datumAt k es).getD .none)) M.stuck) (on1 (a3 vs) (fun p=>on2 (fN K p.1) p.2.1.eX (fun es k=>M.ret ((datumAt k es).getD p.2.2)) M.stuck) M.stuck)
theorem bGet2 {K:Frag}{d:V}{k:Str}{es:List (Str×V)}(h:fN K d=some es):bGet K [d,.str k]=M.ret ((datumAt k es).getD .none):=by
 walk_at "a"
 have e:bGet K [d,.str k]=on2 (fN K d) (some k) (fun es k=>M.ret ((datumAt k es).getD .none)) M.stuck:=rfl
 rw [e,h];rfl
 walk_at "z"
theorem bGet3 {K:Frag}{d v:V}{k:Str}{es:List (Str×V)}(h:fN K d=some es):bGet K [d,.str k,v]=M.ret ((datumAt k es).getD v):=by
 walk_at "a"
 have e:bGet K [d,.str k,v]=on2 (fN K d) (some k) (fun es k=>M.ret ((datumAt k es).getD v)) M.stuck:=rfl
 rw [e,h];rfl
 walk_at "z"
theorem get_fin {s:Shared}{k:Str}{v:V}{q:Value}{es:List (Str×V)}{Q:Value→Shared→Prop}(hf:es.all (fun p=>flatV p.2)=true)(hv:VR w.params W v q)
  (z:∀ (y:Value) (tk:Nat),VR w.params W ((datumAt k es).getD v) y→Q y { s with toks:=tk }) :
  (∀ dt u,datumAt k (dats es)=some dt→dt.At s.heap u→Q u { s with toks:=s.toks+1 })∧(datumAt k (dats es)=none→Q q { s with toks:=s.toks+1 }):=by
 walk_at "a"
 rw [datumAt_dats]
 refine ⟨fun dt u ha hv=>?_,fun hn=>?_⟩
 ·obtain ⟨u',e1,e2⟩:=Option.map_eq_some_iff.mp ha
  subst e2
  exact z u (s.toks+1) (by rw [e1];exact flat_back (datum_flat hf e1) hv)
 ·rw [Option.map_eq_none_iff] at hn
  exact z q (s.toks+1) (by rw [hn];exact hv)
 walk_at "z"
theorem s_get {vs:List V}{rs:List Value}(h:VRs w.params W vs rs):Snd a exc W (call (.builtin "dict.get") rs) (bGet K vs) (VRw w):=by
 walk_at "a"
 refine aK.on1 (fun p hp=>aK.on2 (fun es k e hk=>?_) aK.stuck) (aK.on1 (fun p hp=>aK.on2 (fun es k e hk=>?_) aK.stuck) aK.stuck)
 ·obtain ⟨r,q,rfl,h1,h3⟩:=h.a2 hp
  obtain ⟨t,rfl⟩:=h3.dB hk
  refine aK.here fun gg tt s σ F Q E z=>?_
  obtain ⟨d,rfl,T,hf⟩:=dctAt_is F h1 e
  obtain ⟨z1,z2⟩:=get_fin (q:=.none) hf .none z
  exact PySem.call_meetsIn PySem.F.slot_dict_get T.typeIs PySem.F.entry_dict_get (PySem.F.args_dict_get_2 _ _) (meets_get1 (h₀:=s.heap) (D:=dats es)) ⟨T,fun dt v ha hv=>z1 dt v ha hv,fun hn=>z2 hn⟩
 ·obtain ⟨r,q,y,rfl,h1,h3,h5⟩:=h.a3 hp
  obtain ⟨t,rfl⟩:=h3.dB hk
  refine aK.here fun gg tt s σ F Q E z=>?_
  obtain ⟨d,rfl,T,hf⟩:=dctAt_is F h1 e
  obtain ⟨z1,z2⟩:=get_fin hf h5 z
  exact PySem.call_meetsIn PySem.F.slot_dict_get T.typeIs PySem.F.entry_dict_get (PySem.F.args_dict_get_3 _ _ _) (meets_get2 (h₀:=s.heap) (D:=dats es)) ⟨T,fun dt v ha hv=>z1 dt v ha hv,fun hn=>z2 hn⟩
 walk_at "z"
theorem e_CompareD {l r:Expr}{op:CmpOp}{pos:Pos}{xl xr:M V}(hl:∀ W,EX a exc env W l xl)(hr:∀ W,EX a exc env W r xr)(hm:behindInMarks op r=false) :
  EX a exc env W (.Compare l [op] [r] pos) (xl.bind fun x=>xr.bind fun y=>cmpD K op x y):=by
 walk_at "a"
 exact 
  (aK.bind (hl W) fun W1 _ x rx hx=>aK.bind (hr W1) fun W2 x2 y ry hy=>s_cmpD (hx.ext x2) hy).imp fun _ _ _ z=>wpAny_Compare1 z hm
 walk_at "z"
theorem fQ {l r:Expr}{op:CmpOp}{pos:Pos}{whole:Sem Value}{xl xr:M V}(hl:∀ W,EX a exc env W l xl)(hr:∀ W,EX a exc env W r xr)(hm:behindInMarks op r=false)(W:Wd) :
  TW a exc env W (.Compare l [op] [r] pos) whole (xl.bind fun x=>xr.bind fun y=>(cmpD K op x y).bind bI) :=
 (aK.bind (hl W) fun W1 _ x rx hx=>aK.bind (hr W1) fun W2 x2 y ry hy=>aK.bind (s_cmpD (hx.ext x2) hy) fun W3 _ c rc hc=>s_truthy hc).imp fun _ _ _ z=>wpAny_isTrue_Compare1 z hm
end
end Mine
end
section
namespace Mine
section
variable {prog:Program}{w:World}{K:Frag}{a:Act prog w K}{exc:Value}{W:Wd}{env:Env}
noncomputable def CX (a:Act prog w K)(e:Expr)(x:V):Prop:=flatV x=true ∧
 ∀ (s:Shared) (m:Str→Option Value) (Q:Value→Shared→Prop) (E:Value→Shared→Prop) (gg:Heap) (tt:KtsTurn a.fs a.g gg),Fr gg a.L s.heap m→(∀ y tk,Flat y (pdV x)→Q y { s with toks:=tk })→wpAny (model prog w) a.A (eval e a.env) Q E s
theorem c_str {x:Str}{k:Nat}{pos:Pos}:CX a (.Constant (.str x) k pos) (.str x):=⟨rfl,fun s m Q E gg tt F h=>fun _ _ _=>h (.str x s.toks) (s.toks+1) (fun _=>.str _ _)⟩
theorem c_int {i:Int}{k:Nat}{pos:Pos}:CX a (.Constant (.int i) k pos) (.int i):=⟨rfl,fun s m Q E gg tt F h=>fun _ _ _=>h (.int i s.toks) (s.toks+1) (fun _=>.int _ _)⟩
theorem c_chr {i:Int}{k:Nat}{pos np p2:Pos}(e:nsIn K mainGlobals ("chr":Str)=some none)(hx:a.sc.names.lookup ("chr":Str)=some .globalImplicit)(hi:0≤i∧i<1000) :
  CX a (.Call (.Name "chr" np) [.Constant (.int i) k p2] [] pos) (.str ⟨#[i.toNat]⟩):=by
 refine ⟨rfl,fun s m Q E gg tt F h=>Call_ (nameX_B F (a.at gg tt).X (a.at gg tt).T e PyProof.Rows.Boot.«chr» (by decide) ?_ a.hk hx)⟩
 refine PyProof.Rows.callWith_builtin1 (spliced_more (wpAny_Constant_int (spliced_none (PySem.P.chr_of_int (by simp;lia) (h _ _ (fun _=>.str _ _))))))
inductive CPs (a:Act prog w K):List (Option Expr)→List Expr→List (Str×V)→Prop
 | nil:CPs a [] [] []
 | cons {e f:Expr} {es:List (Option Expr)} {fs:List Expr} {k:Str} {v:V} {ps:List (Str×V)}:CX a e (.str k)→CX a f v→CPs a es fs ps→CPs a (some e::es) (f::fs) ((k,v)::ps)
inductive PVs:List (Str×V)→List (Value×Value)→Prop
 | nil:PVs [] []
 | cons {k:Str} {t:Tok} {v:V} {r:Value} {ps:List (Str×V)} {vs:List (Value×Value)}:flatV v=true→Flat r (pdV v)→PVs ps vs→PVs ((k,v)::ps) ((.str k t,r)::vs)
theorem flat_str {k:Str}{y:Value}(h:Flat y (pdV (.str k))):∃ t,y=.str k t:=by
 walk_at "a"
 have:=h { objs := #[] }
 cases this;exact ⟨_,rfl⟩
 walk_at "z"
theorem CPs.eval {pos:Pos}{m:Str→Option Value}{E:Value→Shared→Prop}:∀ {es:List (Option Expr)} {fs:List Expr} {ps:List (Str×V)} {s:Shared} {Q:List (Value×Value)→Shared→Prop},CPs a es fs ps→(gg:Heap)→(tt:KtsTurn a.fs a.g gg)→Fr gg a.L s.heap m→(∀ vs tk,PVs ps vs→Q vs { s with toks:=tk }) →
  wpAny (model prog w) a.A (evalPairs (pairTrees es fs a.env pos)) Q E s:=by
 walk_at "a"
 intro es fs ps s Q h
 induction h generalizing s Q with
 | nil=>intro gg tt F h;exact evalPairs_nil (h [] s.toks .nil)
 | cons he hf hs ih =>
  intro gg tt F h
  refine evalPairs_cons (he.2 s m _ _ gg tt F fun y tk hy=>?_)
  refine wpAny_bind (hf.2 _ m _ _ gg tt F fun z tk' hz=>wpAny_bind (wpAny_standAt (wpAny_pure ?_)))
  obtain ⟨t,rfl⟩:=flat_str hy
  exact ih gg tt F fun vs tk'' hv=>h _ tk'' (.cons hf.1 hz hv)
 walk_at "z"
theorem PVs.keys:∀ {ps:List (Str×V)} {vs:List (Value×Value)},PVs ps vs→allStrKeys vs=true∧(strPairs vs).map (·.1)=ps.map (·.1):=by
 intro ps vs h
 induction h with
 | nil=>exact ⟨rfl,rfl⟩
 | cons hf hv hs ih=>exact ⟨ih.1,congrArg (_ :: ·) ih.2⟩
theorem PVs.ers {P:Params}{knd:KeyKind prog w Str}(hk:knd=PySem.strKind prog w):∀ {ps:List (Str×V)} {vs:List (Value×Value)} {es:List DictEntry},PVs ps vs→Pairs knd es (strPairs vs)→ERs P W ps es:=by
 walk_at "a"
 intro ps vs es h
 subst hk
 induction h generalizing es with
 | nil=>intro h;cases h;exact .nil
 | cons hf hv hs ih =>
  intro h
  cases h with
  | cons h1 h2 h3 =>
   rename_i e es
   obtain ⟨hsh,key,val⟩:=e
   obtain ⟨t,e1⟩:=Value.isStrOf_shape h1
   dsimp only at e1 h2
   subst e1 h2
   exact .cons (flat_back hf hv) (ih h3)
 walk_at "z"
theorem e_Dict {es:List (Option Expr)}{fs:List Expr}{ps:List (Str×V)}{pos:Pos}(h:CPs a es fs ps)(hn:(ps.map (·.1)).Nodup)(hall:es.all (·.isSome)=true)(hl:es.length=fs.length)(h0:es≠[])(hlen:es.length≤15)(W:Wd) :
  EX a exc a.env W (.Dict es fs pos) (M.ret (.dct ps)):=by
 walk_at "a"
 constructor;intro s σ r FF e Q E TT
 obtain ⟨gg,tt,F⟩:=FF
 have T:=TT.at (G:=gg) (t:=tt)
 cases e
 obtain ⟨m,Fm,hm⟩:=F.fr
 refine kdn_eval (knd:=PySem.strKind prog w) Fm F.inv.news (a.at gg tt).T.nolimit hall hl h0 hlen fun d h' o Fm' N' hlt hd ho=>?_
 refine h.eval gg tt Fm' fun vs tk hv=>?_
 obtain ⟨k1,k2⟩:=hv.keys
 have hdn:∀ p∈W.N,p.1≠d:=fun p hp=>Nat.ne_of_lt (hlt p hp)
 refine kdn_made_str Fm' N' (.head hdn) ho k1 (by rw [k2];exact hn) fun h2 o' F2 N2 ho'=>?_
 obtain ⟨ds,ep,x1,x2,x3,x4,x5⟩:=ho'
 have hδ:d∉W.δ:=fun hp=>by
  obtain ⟨i,hi,e⟩:=List.mem_iff_getElem.mp hp
  have hH:i<σ.H.length:=F.inv.lδ▸hi
  have hdi:W.δ[i]? = some d:=by rw [List.getElem?_eq_getElem hi,e]
  obtain ⟨o1,ho1⟩:=F.inv.in hdi
  exact hdn _ ho1 rfl
 refine T h2 _ (W.put d o') _ (F.to hm F2 Ext.put (F.inv.put N2 hdn)) Ext.put (.dct hd x1 x2 ((hv.ers rfl x4)) (.head _) ⟨hδ,fun hp=>by obtain ⟨o,ho⟩:=F.inv.hdn.1 _ hp;exact hdn _ ho rfl⟩)
 walk_at "z"
end
end Mine
end
section
namespace Mine
noncomputable abbrev CT:=Addr→List V→List aE→Option (Option V×List aE)
section
variable {prog:Program}{w:World}{K:Frag}{a:Act prog w K}{exc:Value}{W:Wd}{env:Env}
structure Cal (a:Act prog w K)(A:Around)(n:Nat):Prop where
 fr:A.frames=some (a.env::a.outer)
 hh:A.handled=none
 hd:A.depth+2*n<recursionLimit
 hu:A.units+8*n+8<cLine
noncomputable def ThenC (a:Act prog w K)(exc:Value)(W:Wd)(s:Shared)(ρ:List (Option V))(r:Option V×List aE)(R:Result→Shared→Prop):Prop :=
 match r.1 with
 | some v=>∀ h' tk' W' y,FL a h' W' ⟨ρ,r.2⟩→Ext W W'→VR w.params W' v y→R (.ok (.ret y)) { s with heap:=h',toks:=tk' }
 | none=>∀ h' tk' W' e,FlL a h' W' ⟨ρ,r.2⟩ e exc→Ext W W'→R (.error (.ref e)) { s with heap:=h',toks:=tk' }
noncomputable def GOK (prog:Program)(w:World)(K:Frag)(exc:Value)(sl:Addr)(sn:List Int)(Γ:CT)(n:Nat):Prop :=
 ∀ (a:Act prog w K) (A:Around),Cal a A n→a.sl=sl→a.sn=sn→∀ (f:Addr) (vs:List V) (rs:List Value) (W:Wd) (s:Shared) (σ:St) (r:Option V×List aE),FL a s.heap W σ→VRs w.params W vs rs→Γ f vs σ.H=some r →
  keepIn K (.ref f)=true∧∀ R,ThenC a exc W s σ.ρ r R→codeAny (model prog w) A (.call (.ref f) ⟨rs,[]⟩) R s
noncomputable def COK (a:Act prog w K)(exc:Value)(Γ:CT):Prop:=∀ (f:Addr) (vs:List V) (rs:List Value) (W:Wd) (s:Shared) (σ:St) (r:Option V×List aE),FL a s.heap W σ→VRs w.params W vs rs→Γ f vs σ.H=some r →
  keepIn K (.ref f)=true∧∀ R,ThenC a exc W s σ.ρ r R→codeAny (model prog w) a.A (.call (.ref f) ⟨rs,[]⟩) R s
theorem GOK.cok {sl:Addr}{sn:List Int}{Γ:CT}(G:GOK prog w K exc sl sn Γ a.n)(hh:a.A.handled=none)(h1:a.sl=sl)(h2:a.sn=sn):COK a exc Γ:=G a a.A ⟨a.hA,hh,a.hd,a.hu⟩ h1 h2
noncomputable def callT (T:String)(vs:List V):M V:=if T="int" then on1 ((a1 vs).bind V.bool?) (fun b=>M.ret (.int (if b then 1 else 0))) M.stuck
 else if T="range" then on1 ((a1 vs).bind V.int?) (fun n σ=>some (some (.rng 0 n 1),σ)) (on1 (a3 vs) (fun p=>if p.1.int? = some 3∧p.2.1.int? = some 0∧p.2.2.int? = some (-1) then fun σ=>some (some (.rng 3 0 (-1)),σ) else M.stuck) M.stuck)
 else M.stuck
theorem s_rng {A:Around}{s:Shared}{σ:St}(F:FS a s.heap W σ){x y z:Int}{t u v:Tok}{tk:Nat}{Q E:Value→Shared→Prop}(T:Then0 a exc W s (VRw w) (some (.rng x y z),σ) Q E) :
  Q (.ref s.heap.objs.size) { s with heap:=s.heap.push { cls:=.type "range",data:=.fields #[.int x t,.int y u,.int z v] },toks:=tk } :=
 T _ tk (W.put s.heap.objs.size { cls:=.type "range",data:=.fields #[.int x t,.int y u,.int z v] }) _ (F.push _ rfl) Ext.put (.rng (.head _) F.freshF)
theorem s_callT {T:String}{vs:List V}{rs:List Value}(h:VRs w.params W vs rs):Snd a exc W (call (.type T) rs) (callT T vs) (VRw w):=by
 walk_at "a"
 refine aK.ifs (fun hT=>?_) fun _=>aK.ifs (fun hT=>?_) fun _=>aK.stuck
 ·subst hT
  refine aK.on1 (fun b hb=>?_) aK.stuck
  obtain ⟨x,e1,e2⟩:=Option.bind_eq_some_iff.mp hb
  obtain ⟨r,rfl,h1⟩:=h.a1 e1
  cases h1.bool?_i e2
  exact Snd.calm fun s Q E _ k=>call_int_bool (k _ _ (.int _ _))
 ·subst hT
  refine aK.on1 (fun b hb=>?_) (aK.on1 (fun p hp=>aK.ifs (fun hq=>?_) fun _=>aK.stuck) aK.stuck)
  ·obtain ⟨x,e1,e2⟩:=Option.bind_eq_some_iff.mp hb
   obtain ⟨r,rfl,h1⟩:=h.a1 e1
   obtain ⟨t,rfl⟩:=h1.eT e2
   constructor;intro s σ r FF e Q E TT
   obtain ⟨gg,tt,F⟩:=FF
   have T:=TT.at (G:=gg) (t:=tt)
   cases e
   exact call_range_1 (s_rng (A:=a.A) F T)
  ·obtain ⟨r,q,z,rfl,h1,h2,h3⟩:=h.a3 hp
   obtain ⟨t,rfl⟩:=h1.eT hq.1
   obtain ⟨t,rfl⟩:=h2.eT hq.2.1
   obtain ⟨t,rfl⟩:=h3.eT hq.2.2
   constructor;intro s σ r FF e Q E TT
   obtain ⟨gg,tt,F⟩:=FF
   have T:=TT.at (G:=gg) (t:=tt)
   cases e
   exact call_range_3 (by decide) (s_rng (A:=a.A) F T) (Or.inl (PyProof.noPylong_of_log2 (by decide +kernel)))
 walk_at "z"
noncomputable def bG (K:Frag)(id:String)(vs:List V):M V :=
 if id="len" then bLen vs else if id="chr" then bChr vs else if id="ord" then bOrd vs else if id="abs" then bAbs vs else if id="isinstance" then bIsi vs
 else if id="str.lower" then bLower vs else if id="str.upper" then bUpper vs else if id="str.find" then bFind vs else if id="str.join" then bJoin vs else if id="str.split" then bSplit vs
 else if id="list.append" then bAppend vs else if id="dict.get" then bGet K vs else M.stuck
theorem s_callB {id:String}{vs:List V}{rs:List Value}(h:VRs w.params W vs rs):Snd a exc W (call (.builtin id) rs) (bG K id vs) (VRw w):=by
 walk_at "a"
 unfold bG
 refine aK.ifs (fun e=>by subst e;exact s_len h) fun _=>?_
 refine aK.ifs (fun e=>by subst e;exact s_chr h) fun _=>?_
 refine aK.ifs (fun e=>by subst e;exact s_ord h) fun _=>?_
 refine aK.ifs (fun e=>by subst e;exact s_abs h) fun _=>?_
 refine aK.ifs (fun e=>by subst e;exact s_isi h) fun _=>?_
 refine aK.ifs (fun e=>by subst e;exact s_lower h) fun _=>?_
 refine aK.ifs (fun e=>by subst e;exact s_upper h) fun _=>?_
 refine aK.ifs (fun e=>by subst e;exact s_find h) fun _=>?_
 refine aK.ifs (fun e=>by subst e;exact s_join h) fun _=>?_
 refine aK.ifs (fun e=>by subst e;exact s_split h) fun _=>?_
 refine aK.ifs (fun e=>by subst e;exact s_append h) fun _=>?_
 refine aK.ifs (fun e=>by subst e;exact s_get h) fun _=>?_
 exact aK.stuck
 walk_at "z"
noncomputable def callC (Γ:CT)(f:Addr)(vs:List V):M V:=fun σ=>match Γ f vs σ.H with | some (r,H')=>some (r,{ σ with H:=H' }) | none=>none
theorem s_callC {Γ:CT}(G:COK a exc Γ){f:Addr}{vs:List V}{rs:List Value}(h:VRs w.params W vs rs):Snd a exc W (call (.ref f) rs) (callC Γ f vs) (VRw w):=by
 walk_at "a"
 constructor;intro s σ r F e Q E T
 unfold callC at e
 split at e
 ·rename_i r1 H1 q
  cases e
  refine wpAny_call ((G f vs rs W s σ _ F h q).2 _ ?_)
  cases r1 with
  | none=>exact T
  | some v=>exact T
 ·cases e
 walk_at "z"
noncomputable def callV (K:Frag)(Γ:CT)(f:V)(vs:List V):M V:=match f with
 | .const f=>callC Γ f vs
 | .bi id=>bG K id vs
 | .ty T=>callT T vs
 | _=>M.stuck
noncomputable def aC (K:Frag)(Γ:CT)(f:V)(first:List V)(xs:M (List V)):M V:=match f,first with
 | .bi id,first=>xs.bind fun vs=>callV K Γ (.bi id) (first++vs)
 | .const f,first=>xs.bind fun vs=>callV K Γ (.const f) (first++vs)
 | .ty T,[]=>xs.bind fun vs=>callV K Γ (.ty T) vs
 | _,_=>M.stuck
theorem s_callWith {Γ:CT}(G:COK a exc Γ){pos:Pos}{e:Expr}{rest:List Expr}{xs:M (List V)}{f:V}{rf:Value}{first:List V}{rfs:List Value}(hf:VR w.params W f rf)(hfs:VRs w.params W first rfs)(hs:∀ W,AX a exc env W pos (e::rest) xs)
  (h1:starEach (e::rest) env=(false,eval e env)::starEach rest env) (h2:(backTo pos (starEach rest env)).any (·.1)=false)     :
  Snd a exc W (callWith pos rf rfs (backTo pos (starEach (e::rest) env)) []) (aC K Γ f first xs) (VRw w):=by
 walk_at "a"
 unfold aC
 split
 ·cases hf
  exact (aK.bind (hs W) fun W1 x1 vs rvs hv=>s_callB (VRs.append (hfs.ext x1) hv)).imp fun _ _ _ z=>callWith_method1 z h1 h2
 ·rename_i f
  cases hf
  refine (aK.bind (U:=fun rvs Q E s=>(K.In s.heap∧keepIn K (.ref f)=true)∧wpAny (model prog w) a.A (call (.ref f) (rfs++rvs)) Q E s) (f:=fun vs=>callV K Γ (.const f) (first++vs)) (rel':=VRw w) (hs W) fun W1 x1 vs rvs hv=>?_).imp fun Q E s z=>?_
  ·constructor;intro s σ r F e Q E T
   have hv':=VRs.append (hfs.ext x1) hv
   refine ⟨⟨F.kin,?_⟩,(s_callC G hv').go s σ r F e Q E T⟩
   have e:callC Γ f (first++vs) σ=some r:=e
   unfold callC at e
   split at e
   ·rename_i r1 H1 q
    exact (G f _ _ W1 s σ _ F hv' q).1
   ·cases e
  ·rw [h1] at z ⊢
   exact callWith_of (P:=fun h=>K.In h∧keepIn K (.ref f)=true) (by show ((false||(backTo pos (starEach rest env)).any (·.1))||false)=false;rw [h2];rfl) (fun h p=>keeps_K p.2 h p.1) (Calls.evalArgs_plain z)
 ·cases hf
  cases hfs
  exact (aK.bind (hs W) fun W1 x1 vs rvs hv=>s_callT hv).imp fun _ _ _ z=>PyProof.Rows.callWith_type1 z h1 h2
 ·exact aK.stuck
 walk_at "z"
noncomputable def bU (K:Frag)(Γ:CT)(f:V)(first:List V):M V:=match f with
 | .const f=>callC Γ f first
 | .bi id=>bG K id first
 | _=>M.stuck
theorem s_callWith0 {Γ:CT}(G:COK a exc Γ){pos:Pos}{f:V}{rf:Value}{first:List V}{rfs:List Value}(hf:VR w.params W f rf)(hfs:VRs w.params W first rfs) :
  Snd a exc W (callWith pos rf rfs (backTo pos (starEach [] env)) []) (bU K Γ f first) (VRw w):=by
 walk_at "a"
 cases f with
 | bi id =>
  cases hf
  exact (s_callB hfs).imp fun _ _ _ z=>callWith_method0 z
 | const f =>
  cases hf
  constructor;intro s σ r F e Q E T
  have k:=(s_callC G hfs).go s σ r F e Q E T
  have e:callC Γ f first σ=some r:=e
  unfold callC at e
  split at e
  ·rename_i r1 H1 q
   exact callWith_K0 F.kin (G f _ _ W s σ _ F hfs q).1 (by rw [List.append_nil];exact k)
  ·cases e
 | _=>exact aK.stuck
 walk_at "z"
end
end Mine
end
section
namespace Mine
section
variable {prog:Program}{w:World}{K:Frag}{a:Act prog w K}{exc:Value}{W:Wd}{env:Env}
noncomputable abbrev MR (w:World):Wd→V×List V→Value×List Value→Prop:=fun W c r=>VR w.params W c.1 r.1∧VRs w.params W c.2 r.2
noncomputable def eR (K:Frag)(C:Addr)(name:Str):Option Addr:=if plainGet K C name then (match findIn K (.ref C) name with | some (some (.ref f))=>if isFn K (.ref f) then some f else none | _=>none) else none
noncomputable def okClsM (K:Frag)(C:Addr)(name:Str):Option Addr:=if specialIn K (.ref C) "__getattribute__"==some (some (.builtin "type.__getattribute__")) then okCls K C name else none
noncomputable def strMeth (name:Str):Option String :=
 if name="lower" then some "str.lower" else if name="upper" then some "str.upper" else if name="find" then some "str.find" else if name="join" then some "str.join" else if name="split" then some "str.split" else none
noncomputable def tabM (K:Frag)(name:Str)(x:V):Bool:=(fN K x).isSome&&decide (name="get")
noncomputable def getM (K:Frag)(name:Str)(x:V):M (V×List V):=fun σ =>
 on1 x.obj? (fun i=>on1 (ownI σ i) (fun p=>on1 (eR K p.1 name) (fun f=>if (p.2.lookup name).isNone then some (some (.const f,[.obj i]),σ) else none) none)
  (on1 (ownL σ i) (fun _=>if name="append" then some (some (.bi "list.append",[.obj i]),σ) else none) none))
 (on1 x.eX (fun x=>on1 (strMeth name) (fun id=>some (some (.bi id,[.str x]),σ)) none)
 (if tabM K name x then some (some (.bi "dict.get",[x]),σ) else on1 x.const? (fun C=>on1 (okClsM K C name) (fun f=>some (some (.const f,[]),σ)) none) none))
theorem getM_own {K:Frag}{name:Str}{i:Nat}{C f:Addr}{as:List (Str×V)}{σ:St}(h:σ.H[i]? = some (.inst C as))(hf:eR K C name=some f)(e:as.lookup name=none):getM K name (.obj i) σ=some (some (.const f,[.obj i]),σ):=by
 walk_at "a"
 have q:getM K name (.obj i) σ=on1 (ownI σ i) (fun p=>on1 (eR K p.1 name) (fun f=>if (p.2.lookup name).isNone then some (some (.const f,[.obj i]),σ) else none) none) (on1 (ownL σ i) (fun _=>if name="append" then some (some (.bi "list.append",[.obj i]),σ) else none) none):=rfl
 rw [q,ownI_of h]
 show on1 (eR K C name) _ none=_
 rw [hf]
 exact if_pos (by rw [e];rfl)
 walk_at "z"
theorem getM_list {K:Frag}{i:Nat}{vs:List V}{σ:St}(h:σ.H[i]? = some (.list vs)):getM K (Str.ofString "append") (.obj i) σ=some (some (.bi "list.append",[.obj i]),σ):=by
 walk_at "a"
 have q:getM K (Str.ofString "append") (.obj i) σ=on1 (ownI σ i) (fun p=>on1 (eR K p.1 (Str.ofString "append")) (fun f=>if (p.2.lookup (Str.ofString "append")).isNone then some (some (.const f,[.obj i]),σ) else none) none) (on1 (ownL σ i) (fun _=>if Str.ofString "append"="append" then some (some (.bi "list.append",[.obj i]),σ) else none) none):=rfl
 have q2:ownI σ i=none:=by unfold ownI;rw [h];rfl
 rw [q,q2,ownL_of h]
 show (if Str.ofString "append"=Str.ofString "append" then some (some (V.bi "list.append",[V.obj i]),σ) else none)=_
 exact if_pos rfl
 walk_at "z"
theorem getM_tab {K:Frag}{d:V}{es:List (Str×V)}{σ:St}(h:fN K d=some es)(ho:d.obj? = none)(hs:d.eX = none):getM K (Str.ofString "get") d σ=some (some (.bi "dict.get",[d]),σ):=by
 walk_at "a"
 unfold getM
 rw [ho,hs]
 exact if_pos (by unfold tabM;rw [h];rfl)
 walk_at "z"
theorem getM_cls {K:Frag}{name:Str}{C f:Addr}{σ:St}(hn:tabM K name (.const C)=false)(h:okClsM K C name=some f):getM K name (.const C) σ=some (some (.const f,[]),σ):=by
 walk_at "a"
 have q:getM K name (.const C) σ=if tabM K name (.const C) then some (some (.bi "dict.get",[.const C]),σ) else on1 (okClsM K C name) (fun f=>some (some (.const f,[]),σ)) none:=rfl
 rw [q,hn,h]
 rfl
 walk_at "z"
theorem s_strMeth {name:Str}{x:Str}{t:Tok}{id:String}{pl:Sem Bool}(e:strMeth name=some id){A:Around}{s:Shared}{Q:Value×List Value→Shared→Prop}{E:Value→Shared→Prop}(h:Q (.builtin id,[.str x t]) s):wpAny (model prog w) A (getMethod (.str x t) name pl) Q E s:=by
 walk_at "a"
 unfold strMeth at e
 split at e
 ·rename_i q;subst q;cases e;exact PySem.GM.lower h
 split at e
 ·rename_i q;subst q;cases e;exact PySem.GM.upper h
 split at e
 ·rename_i q;subst q;cases e;exact PySem.GM.find h
 split at e
 ·rename_i q;subst q;cases e;exact PySem.GM.join h
 split at e
 ·rename_i q;subst q;cases e;exact PySem.GM.split h
 ·cases e
 walk_at "z"
theorem s_getM {name:Str}{x:V}{rx:Value}{pl:Sem Bool}(hx:VR w.params W x rx):Snd a exc W (getMethod rx name pl) (getM K name x) (MR w):=by
 walk_at "a"
 constructor;intro s σ r FF e Q E TT
 obtain ⟨gg,tt,F⟩:=FF
 have T:=TT.at (G:=gg) (t:=tt)
 obtain ⟨m,Fm,hm⟩:=F.fr
 refine on1_e (p:=fun z=>z=some r→_) (fun i hi e=>on1_e (p:=fun z=>z=some r→_) (fun p q e=>cK (fun f hf e=>?_) e) (cK fun us q e=>?_) e) (on1_e (p:=fun z=>z=some r→_) (fun y hy e=>cK (fun id q e=>?_) e) fun e5=>?_) e
 ·obtain ⟨x1,rfl,hi⟩:=hx.obj?_i hi
  by_cases hl:(p.2.lookup name).isNone=true
  ·rw [if_pos hl] at e
   cases e
   unfold eR at hf
   split at hf
   ·rename_i hg
    split at hf
    ·rename_i f' hfi
     split at hf
     ·rename_i ht
      cases hf
      obtain ⟨x',dx,es,n,k1,k2,k3,k4,k5⟩:=F.inv.ob _ _ (ownI_eq q)
      rw [Option.some.inj (hi.symm.trans k1)]
      exact method_inst Fm (a.at gg tt).X (InstAt.of_news F.inv.news k3 k4) hg hfi ht ((ERs.get k5).2 (Option.isNone_iff_eq_none.mp hl)) (T s.heap s.toks W _ F (Ext.refl W) ⟨.const _,.cons (.obj k1) .nil⟩)
     ·cases hf
    ·cases hf
   ·cases hf
  ·rw [if_neg hl] at e
   cases e
 ·obtain ⟨x1,rfl,hi⟩:=hx.obj?_i hi
  by_cases hn:name="append"
  ·subst hn
   rw [if_pos rfl] at e
   cases e
   obtain ⟨x',rs,n,k1,k2,k3,k4⟩:=F.inv.ob _ _ (ownL_eq q)
   rw [Option.some.inj (hi.symm.trans k1)]
   exact listMethod_K F.inv.news (its:=rs.toArray) (n:=n) k3 PySem.F.slot_list_append PySem.F.type_list_append (T s.heap s.toks W _ F (Ext.refl W) ⟨.bi _,.cons (.obj k1) .nil⟩)
  ·rw [if_neg hn] at e
   cases e
 ·obtain ⟨t,rfl⟩:=hx.dB hy
  cases e
  exact s_strMeth q (T s.heap s.toks W _ F (Ext.refl W) ⟨.bi _,.cons (.str _ _) .nil⟩)
 ·by_cases ht:tabM K name x=true
  ·rw [if_pos ht] at e5
   unfold tabM at ht
   rw [Bool.and_eq_true,decide_eq_true_eq] at ht
   obtain ⟨h1,rfl⟩:=ht
   cases e5
   obtain ⟨es,he⟩:=Option.isSome_iff_exists.mp h1
   obtain ⟨d,rfl,H,_⟩:=dctAt_is F hx he
   exact getMethod_text H (T s.heap s.toks W _ F (Ext.refl W) ⟨.bi _,.cons hx .nil⟩)
  ·rw [if_neg ht] at e5
   refine cK (fun C hC e=>cK (fun f hf e=>?_) e) e5
   rw [hx.const?_i hC]
   cases e
   unfold okClsM at hf
   split at hf
   ·rename_i hg
    unfold okCls at hf
    split at hf
    ·rename_i mc hmc
     split at hf
     ·rename_i hr
      split at hf
      ·rename_i b' hfi
       cases hf
       exact method_of_cls Fm (a.at gg tt).X (by simpa using hg) (cls_val Fm (a.at gg tt).X hmc hr hfi rfl (T s.heap _ W _ F (Ext.refl W) ⟨.const _,.nil⟩))
      ·cases hf
     ·cases hf
    ·cases hf
   ·cases hf
 walk_at "z"
theorem aS {Γ:CT}(G:COK a exc Γ){fn e:Expr}{rest:List Expr}{pos:Pos}{xf:M V}{xs:M (List V)}(hf:∀ W,EX a exc env W fn xf)(hs:∀ W,AX a exc env W pos (e::rest) xs)
  (h1:starEach (e::rest) env=(false,eval e env)::starEach rest env) (h2:(backTo pos (starEach rest env)).any (·.1)=false)
  (he:eval (.Call fn (e::rest) [] pos) env=(do callWith pos (← eval fn env) [] (backTo pos (starEach (e::rest) env)) (backToKw pos (keywordEach [] env)))) (W:Wd) :
  EX a exc env W (.Call fn (e::rest) [] pos) (xf.bind fun f=>aC K Γ f [] xs) :=
 (aK.bind (hf W) fun W1 x1 f rf hf=>s_callWith G hf .nil hs h1 h2).imp fun _ _ _ z=>Call_ z he
theorem bT {Γ:CT}(G:COK a exc Γ){o e:Expr}{rest:List Expr}{name:Str}{apos pos:Pos}{pl:Sem Bool}{xo:M V}{xs:M (List V)}(ho:∀ W,EX a exc env W o xo)(hs:∀ W,AX a exc env W pos (e::rest) xs)
  (h1:starEach (e::rest) env=(false,eval e env)::starEach rest env) (h2:(backTo pos (starEach rest env)).any (·.1)=false)
  (he:eval (.Call (.Attribute o name apos) (e::rest) [] pos) env=(do
   let ov ← eval o env
   standAt apos.atName
   let (f,first) ← holding [ov] (getMethod ov name pl)
   callWith pos f first (backTo pos (starEach (e::rest) env)) [])) (W:Wd) :
  EX a exc env W (.Call (.Attribute o name apos) (e::rest) [] pos) (xo.bind fun v=>(getM K name v).bind fun c=>aC K Γ c.1 c.2 xs) :=
 (aK.bind (ho W) fun W1 x1 v rv hv=>aK.bind (s_getM hv) fun W2 x2 c rc hc=>s_callWith G hc.1 hc.2 hs h1 h2).imp fun _ _ _ z=>MethodCall_ z he
theorem bH {Γ:CT}(G:COK a exc Γ){o:Expr}{name:Str}{apos pos:Pos}{pl:Sem Bool}{xo:M V}(ho:∀ W,EX a exc env W o xo)
  (he:eval (.Call (.Attribute o name apos) [] [] pos) env=(do
   let ov ← eval o env
   standAt apos.atName
   let (f,first) ← holding [ov] (getMethod ov name pl)
   callWith pos f first (backTo pos (starEach [] env)) [])) (W:Wd) :
  EX a exc env W (.Call (.Attribute o name apos) [] [] pos) (xo.bind fun v=>(getM K name v).bind fun c=>bU K Γ c.1 c.2) :=
 (aK.bind (ho W) fun W1 x1 v rv hv=>aK.bind (s_getM hv) fun W2 x2 c rc hc=>s_callWith0 G hc.1 hc.2).imp fun _ _ _ z=>MethodCall_ z he
end
end Mine
end
section
namespace Mine
inductive Fl | next | brk | cont | ret (v:V)
section
variable {prog:Program}{w:World}{K:Frag}{a:Act prog w K}{exc:Value}{W:Wd}{env:Env}
inductive FlR (P:Params)(W:Wd):Fl→Flow→Prop
 | next:FlR P W .next .next
 | brk:FlR P W .brk .brk
 | cont:FlR P W .cont .cont
 | ret {v:V} {r:Value}:VR P W v r→FlR P W (.ret v) (.ret r)
noncomputable abbrev FlRw (w:World):Wd→Fl→Flow→Prop:=fun W f g=>FlR w.params W f g
noncomputable abbrev SX (a:Act prog w K)(exc:Value)(env:Env)(W:Wd)(st:Stmt)(x:M Fl):Prop:=Snd a exc W (exec st env) x (FlRw w)
noncomputable abbrev BX (a:Act prog w K)(exc:Value)(env:Env)(W:Wd)(st:List Stmt)(x:M Fl):Prop:=Snd a exc W (execs st env) x (FlRw w)
theorem aK.next {α α':Type}{rel:Wd→α→α'→Prop}{T:Tr α'}{x:M α}(h:aK a exc W T x rel):aK a exc W (fun (Q:Flow→Shared→Prop) E s=>T (fun _ s'=>Q .next s') E s) (x.bind fun _=>M.ret Fl.next) (FlRw w) :=
 aK.bind (U:=fun (_:α') (Q:Flow→Shared→Prop) _ s=>Q Flow.next s) (f:=fun _=>M.ret Fl.next) (rel':=FlRw w) h fun W1 _ _ _ _=>aK.ret FlR.next
theorem aO (W:Wd):BX a exc env W [] (M.ret .next):=(aK.ret .next).imp fun _ _ _ z=>wpAny_execs_nil z
noncomputable def aF (x:M Fl)(y:M Fl):M Fl:=x.bind fun f=>match f with | .next=>y | f=>M.ret f
theorem aB {st:Stmt}{rest:List Stmt}{x y:M Fl}(h:∀ W,SX a exc env W st x)(hs:∀ W,BX a exc env W rest y)(W:Wd):BX a exc env W (st::rest) (aF x y):=by
 walk_at "a"
 refine (aK.bind (h W) (U:=fun f Q E s=>match f with | .next=>wpAny (model prog w) a.A (execs rest env) Q E s | f=>Q f s) fun W1 x1 f rf hf=>?_).imp fun _ _ _ z=>wpAny_execs_cons z
 cases hf with
 | next=>exact hs W1
 | brk=>exact aK.ret .brk
 | cont=>exact aK.ret .cont
 | ret hv=>exact aK.ret (.ret hv)
 walk_at "z"
theorem aX {e:Expr}{pos:Pos}{x:M V}(h:∀ W,EX a exc env W e x)(W:Wd):SX a exc env W (.Return (some e) pos) (x.bind fun v=>M.ret (.ret v)):=by
 walk_at "a"
 exact 
  (aK.bind (h W) (U:=fun v Q _ s=>Q (.ret v) s) fun W1 x1 v rv hv=>aK.ret (.ret hv)).imp fun _ _ _ z=>wpAny_Return_some z
 walk_at "z"
theorem s_Return0 {pos:Pos}:SX a exc env W (.Return none pos) (M.ret (.ret .none)):=by
 walk_at "a"
 exact (aK.ret (.ret .none)).imp fun _ _ _ z=>wpAny_Return_none z
 walk_at "z"
theorem s_Continue {pos:Pos}(W:Wd):SX a exc env W (.Continue pos) (M.ret .cont):=by
 walk_at "a"
 exact (aK.ret .cont).imp fun _ _ _ z=>wpAny_Continue z
 walk_at "z"
theorem dO {t:Expr}{b1 b2:List Stmt}{pos:Pos}{xt:M Bool}{x y:M Fl}(ht:∀ W,TX a exc env W t xt)(h1:∀ W,BX a exc env W b1 x)(h2:∀ W,BX a exc env W b2 y)(W:Wd) :
  SX a exc env W (.If t b1 b2 pos) (xt.bind fun c=>if c then x else y) :=
 (aK.bind (ht W) fun W1 x1 c rc hc=>by cases hc;exact aK.ite (h1 W1) (h2 W1)).imp fun _ _ _ z=>wpAny_If z
theorem fM {e:Expr}{pos:Pos}{x:M V}(h:∀ W,EX a exc env W e x)(hi:interactive env=false)(hs:swapsWith e none pos.line env=pure false)(W:Wd):SX a exc env W (.Expr e pos) (x.bind fun _=>M.ret .next) :=
 (aK.bind (h W) (U:=fun _ Q _ s=>Q .next s) fun W1 x1 v rv hv=>aK.ret .next).imp fun _ _ _ z=>wpAny_Expr_any z hi hs
noncomputable def aJ (k:Nat)(v:V):M Unit:=fun σ=>if k<σ.ρ.length then some (some (),{ σ with ρ:=σ.ρ.set k (some v) }) else none
theorem s_store {x:Str}{k:Nat}{v:V}{rv:Value}(hk:a.nm[k]? = some x)(hx:a.sc.names.lookup x=some .local)(hv:VR w.params W v rv):Snd a exc W (storeName a.env x rv) (aJ k v) EqR:=by
 walk_at "a"
 constructor;intro s σ r FF e Q E TT
 obtain ⟨gg,tt,F⟩:=FF
 have T:=TT.at (G:=gg) (t:=tt)
 unfold aJ at e
 split at e
 ·rename_i hlt
  cases e
  obtain ⟨m,Fm,hm⟩:=F.fr
  refine storeX_L Fm F.inv.news (fun h' F' N'=>T h' _ W () ?_ (Ext.refl W) rfl) a.hk hx
  refine ⟨⟨_,F',fun j y u hj hu=>?_⟩,⟨N',F.inv.nd,F.inv.dn,F.inv.lμ,F.inv.lδ,F.inv.ob,F.inv.hdn⟩,F.cells⟩
  by_cases hjk:k=j
  ·subst hjk
   have hj:a.nm[k]? = some y:=hj
   rw [hk] at hj
   cases hj
   rw [List.getElem?_set_self hlt] at hu
   cases hu
   exact ⟨rv,by simp,hv⟩
  ·rw [List.getElem?_set_ne hjk] at hu
   obtain ⟨r,e1,e2⟩:=hm j y u hj hu
   refine ⟨r,?_,e2⟩
   have:y≠x:=fun e=>by
    subst e
    exact hjk ((List.getElem?_inj (List.getElem?_eq_some_iff.mp hk).1 a.hn).mp (hk.trans hj.symm))
   simp [this,e1]
 ·cases e
 walk_at "z"
theorem aV {x:Str}{k:Nat}{p:Pos}{value:Expr}{pos:Pos}{y:M V}(h:∀ W,EX a exc a.env W value y)(hk:a.nm[k]? = some x)(hx:a.sc.names.lookup x=some .local)(hs:swapsWith value (some (.Name x p)) pos.line a.env=pure false)(W:Wd) :
  SX a exc a.env W (.Assign [.Name x p] value pos) (y.bind fun v=>(aJ k v).bind fun _=>M.ret .next) :=
 (aK.bind (h W) fun W1 x1 v rv hv=>aK.next (s_store hk hx hv)).imp fun _ _ _ z=>wpAny_Assign_Name z hs
theorem cC {o value:Expr}{attr:Str}{p pos:Pos}{x y:M V}(h:∀ W,EX a exc env W value y)(ho:∀ W,EX a exc env W o x)(hs:swapsWith value (some (.Attribute o attr p)) pos.line env=pure false)(W:Wd) :
  SX a exc env W (.Assign [.Attribute o attr p] value pos) (y.bind fun v=>x.bind fun ov=>(dN K attr ov v).bind fun _=>M.ret .next) :=
 (aK.bind (h W) fun W1 x1 v rv hv=>aK.bind (ho W1) fun W2 x2 ov rov hov=>aK.next (s_setAttr hov (hv.ext x2))).imp fun _ _ _ z=>plainObj_wpAny_Assign_Attribute z hs
noncomputable def iopI (op:Operator)(i j:Int):M V:=match op with
 | .Add=>M.ret (.int (i+j))
 | .Sub=>M.ret (.int (i-j))
 | _=>M.stuck
noncomputable def iopV (op:Operator)(x y:V):M V:=on2 x.int? y.int? (iopI op) (on2 x.eX y.eX (binS op) M.stuck)
theorem s_iop {op:Operator}{x y:V}{rx ry:Value}(hx:VR w.params W x rx)(hy:VR w.params W y ry):Snd a exc W (inplaceOp op rx ry) (iopV op x y) (VRw w):=by
 walk_at "a"
 refine .on2 (fun i j hi hj=>?_) (.on2 (fun i j hi hj=>?_) .stuck)
 ·obtain ⟨t,rfl⟩:=hx.eT hi
  obtain ⟨u,rfl⟩:=hy.eT hj
  cases op with
  | Add=>exact Snd.calm fun s Q E _ h=>iadd_int (h _ _ (.int _ _))
  | Sub=>exact Snd.calm fun s Q E _ h=>isub_int (h _ _ (.int _ _))
  | _=>exact aK.stuck
 ·obtain ⟨t,rfl⟩:=hx.dB hi
  obtain ⟨u,rfl⟩:=hy.dB hj
  cases op with
  | Add=>exact aK.ifs (fun hsz=>Snd.calm fun s Q E _ h=>iadd_str (fun t tk=>h _ _ (.str _ _)) (Nat.le_trans hsz gJ)) fun _=>aK.stuck
  | _=>exact aK.stuck
 walk_at "z"
theorem s_load {x:Str}{k:Nat}(hk:a.nm[k]? = some x)(hx:a.sc.names.lookup x=some .local):Snd a exc W (loadName a.env x) (getVar k) (VRw w):=by
 walk_at "a"
 constructor;intro s σ r FF e Q E TT
 obtain ⟨gg,tt,F⟩:=FF
 have T:=TT.at (G:=gg) (t:=tt)
 unfold getVar at e
 split at e
 ·rename_i v q
  cases e
  obtain ⟨m,Fm,hm⟩:=F.fr
  obtain ⟨rv,h1,h2⟩:=hm k x v hk q
  exact wpAny_loadName_local (env:=a.env) a.hk hx Fm.ns h1 (T s.heap s.toks W rv F (Ext.refl W) h2)
 ·cases e
 walk_at "z"
theorem gU {x:Str}{k:Nat}{p pos:Pos}{op:Operator}{value:Expr}{y:M V}(h:∀ W,EX a exc a.env W value y)(hk:a.nm[k]? = some x)(hx:a.sc.names.lookup x=some .local)(W:Wd) :
  SX a exc a.env W (.AugAssign (.Name x p) op value pos) ((getVar k).bind fun u=>y.bind fun v=>(iopV op u v).bind fun z=>(aJ k z).bind fun _=>M.ret .next):=by
 walk_at "a"
 exact 
  (aK.bind (s_load hk hx) fun W1 x1 u ru hu=>aK.bind (h W1) fun W2 x2 v rv hv=>aK.bind (s_iop (hu.ext x2) hv) fun W3 x3 z rz hz=>aK.next (s_store hk hx hz)).imp fun _ _ _ z=>wpAny_AugAssign_Name z
 walk_at "z"
theorem fX {o value:Expr}{attr:Str}{p pos:Pos}{op:Operator}{x y:M V}(ho:∀ W,EX a exc env W o x)(h:∀ W,EX a exc env W value y)(W:Wd) :
  SX a exc env W (.AugAssign (.Attribute o attr p) op value pos) (x.bind fun ov=>(cR K attr ov).bind fun u=>y.bind fun v=>(iopV op u v).bind fun z=>(dN K attr ov z).bind fun _=>M.ret .next):=by
 walk_at "a"
 exact 
  (aK.bind (ho W) fun W1 x1 ov rov hov=>aK.bind (s_getAttr hov) fun W2 x2 u ru hu=>aK.bind (h W2) fun W3 x3 v rv hv=>aK.bind (s_iop (hu.ext x3) hv) fun W4 x4 z rz hz =>
   aK.next (s_setAttr (hov.ext ((x2.trans x3).trans x4)) hz)).imp fun _ _ _ z=>wpAny_AugAssign_AttributeAny z
 walk_at "z"
noncomputable abbrev AsX (a:Act prog w K)(exc:Value)(env:Env)(t:Value→Sem Unit)(f:V→M Unit):Prop:=∀ (W:Wd) (v:V) (rv:Value),VR w.params W v rv→Snd a exc W (t rv) (f v) EqR
theorem iR {x:Str}{k:Nat}{p:Pos}(hk:a.nm[k]? = some x)(hx:a.sc.names.lookup x=some .local):AsX a exc a.env (assign (.Name x p) a.env) (aJ k):=by
 walk_at "a"
 exact 
  fun W v rv hv=>(s_store hk hx hv).imp fun _ _ _ z=>PyProof.Rows.assign_Name z
 walk_at "z"
theorem eO {x:Str}{k:Nat}(hk:a.nm[k]? = some x)(hx:a.sc.names.lookup x=some .local):AsX a exc a.env (bindName a.env x) (aJ k):=by
 walk_at "a"
 exact 
  fun W v rv hv=>(s_store hk hx hv).imp fun _ _ _ z=>wpAny_bindName z
 walk_at "z"
theorem as_attr {o:Expr}{attr:Str}{p:Pos}{x:M V}(ho:∀ W,EX a exc env W o x):AsX a exc env (assign (.Attribute o attr p) env) (fun v=>x.bind fun ov=>dN K attr ov v) :=
 fun W v rv hv=>(aK.bind (ho W) fun W2 x2 ov rov hov=>s_setAttr hov (hv.ext x2)).imp fun _ _ _ z=>kas_attr z
inductive AsXs (a:Act prog w K)(exc:Value)(env:Env):List (Value→Sem Unit)→List (V→M Unit)→Prop
 | nil:AsXs a exc env [] []
 | cons {t:Value→Sem Unit} {f:V→M Unit} {ts:List (Value→Sem Unit)} {fs:List (V→M Unit)}:AsX a exc env t f→AsXs a exc env ts fs→AsXs a exc env (t::ts) (f::fs)
noncomputable def dA:List (V→M Unit)→List V→M Unit
 | f::fs,v::vs=>(f v).bind fun _=>dA fs vs
 | _,_=>M.ret ()
theorem s_inOrder {ts:List (Value→Sem Unit)}{fs:List (V→M Unit)}(h:AsXs a exc env ts fs):∀ {vs:List V} {rs:List Value} {W:Wd},VRs w.params W vs rs→Snd a exc W (assignInOrder ts rs) (dA fs vs) EqR:=by
 walk_at "a"
 induction h with
 | nil=>intro vs rs W _;exact (aK.ret rfl).imp fun _ _ _ z=>assignInOrder_nil z
 | cons h hs ih =>
  intro vs rs W hv
  cases vs with
  | nil=>cases hv.gX;exact Snd.ret rfl
  | cons v vs =>
   obtain ⟨r,rs,rfl,hv,hvs⟩:=hv.eU
   exact (aK.bind (h W _ _ hv) fun W1 x1 _ _ _=>ih (VRs.ext x1 hvs)).imp fun _ _ _ z=>assignInOrder_cons z
 walk_at "z"
theorem FS.keep {h h':Heap}{σ:St}(F:FS a h W σ)(hk:∀ b o,h.get? b=some o→h'.get? b=some o):FS a h' W σ:=by
 walk_at "a"
 obtain ⟨m,Fm,hm⟩:=F.fr
 exact ⟨⟨m,Fm.keeps hk,hm⟩,⟨F.inv.news.grown hk,F.inv.nd,F.inv.dn,F.inv.lμ,F.inv.lδ,F.inv.ob,F.inv.hdn⟩,F.cells⟩
 walk_at "z"
noncomputable def eK (n:Nat)(v:V):M (List V):=on1 v.tup? (fun vs=>if vs.length=n then M.ret vs else M.stuck) M.stuck
theorem s_unpack (hh:a.A.handled=none){n:Nat}{v:V}{rv:Value}(hv:VR w.params W v rv):Snd a exc W (unpackItems rv n none) (eK n v) (VRsw w):=by
 walk_at "a"
 refine .on1 (fun vs e=>.ifs (fun hl=>?_) fun _=>.stuck) .stuck
 obtain ⟨_,_,_,rfl,h1,m1,_⟩:=hv.tup?_i e
 constructor;intro s σ r FF e Q E TT
 obtain ⟨gg,tt,F⟩:=FF
 have T:=TT.at (G:=gg) (t:=tt)
 cases e
 obtain ⟨m,Fm,hm⟩:=F.fr
 subst hl
 rw [VRs.length h1]
 refine unpackItems_tuple hh (F.inv.isTup m1) fun h' he=>?_
 exact T h' _ W _ (F.keep fun b o hb=>he b o (Nat.ne_of_lt (Heap.lt_size hb)) hb) (Ext.refl W) (by simpa using h1)
 walk_at "z"
theorem s_AssignTup (hh:a.A.handled=none){elts:List Expr}{k:Nat}{tp pos:Pos}{value:Expr}{y:M V}{fs:List (V→M Unit)}(h:∀ W,EX a exc env W value y)(hf:AsXs a exc env ((assignEach elts env).map (·.2)) fs)
  (hn:(assignEach elts env).findIdx? (·.1)=none) (hs:swapsWithSole [.Tuple elts k tp] value pos.line env=pure false) (hw:swappedStores [.Tuple elts k tp] value env=pure none) (W:Wd) :
  SX a exc env W (.Assign [.Tuple elts k tp] value pos) (y.bind fun v=>(eK fs.length v).bind fun vs=>(dA fs vs).bind fun _=>M.ret .next):=by
 walk_at "a"
 have hlen:(assignEach elts env).length=fs.length:=by
  have:∀ {ts:List (Value→Sem Unit)} {fs:List (V→M Unit)},AsXs a exc env ts fs→ts.length=fs.length:=fun h=>by induction h with | nil=>rfl | cons _ _ ih=>simp [ih]
  simpa using this hf
 refine (aK.bind (h W) (U:=fun v Q E s=>wpAny (model prog w) a.A (assign (.Tuple elts k tp) env v) (fun _ s'=>Q .next s') E s) fun W1 x1 v rv hv=>(aK.bind (s_unpack hh (n:=fs.length) hv) fun W2 x2 vs rvs hvs=>aK.next (s_inOrder hf hvs)).imp fun Q E s z=>?_).imp fun _ _ _ z=>Assign_Tuple z hs hw
 rw [arm_assign_Tuple]
 refine wpAny_bind (wpAny_standAt ?_)
 unfold unpack
 rw [hlen,hn]
 exact wpAny_bind (wpAny_holding z)
 walk_at "z"
theorem VRs.rev {P:Params}:∀ {vs:List V} {rs:List Value},VRs P W vs rs→VRs P W vs.reverse rs.reverse:=by
 walk_at "a"
 intro vs
 induction vs with
 | nil=>intro rs h;cases h.gX;exact .nil
 | cons v vs ih=>intro rs h;obtain ⟨_,_,rfl,h1,h⟩:=h.eU;rw [List.reverse_cons,List.reverse_cons];exact (ih h).snoc h1
 walk_at "z"
theorem eZ (hh:a.A.handled=none){elts:List Expr}{k:Nat}{tp pos:Pos}{value:Expr}{names:List Str}{y:M V}{fs:List (V→M Unit)}(h:∀ W,EX a exc env W value y)(hf:AsXs a exc env (names.reverse.map fun n=>bindName env n) fs)
  (hs:swapsWithSole [.Tuple elts k tp] value pos.line env=pure false) (hw:swappedStores [.Tuple elts k tp] value env=pure (some names)) (W:Wd) :
  SX a exc env W (.Assign [.Tuple elts k tp] value pos) (y.bind fun v=>(eK names.length v).bind fun vs=>(dA fs vs.reverse).bind fun _=>M.ret .next):=by
 have rev:∀ {vs:List V} {rs:List Value} {W:Wd},VRs w.params W vs rs→VRs w.params W vs.reverse rs.reverse:=fun h=>VRs.rev h
 exact (aK.bind (h W) fun W1 x1 v rv hv=>aK.bind (s_unpack hh (n:=names.length) hv) fun W2 x2 vs rvs hvs=>aK.next (s_inOrder hf (rev hvs))).imp fun _ _ _ z=>Assign_Tuple_swapped z hs hw
end
end Mine
end
section
namespace Mine
mutual
noncomputable def V.fit (k:Nat):V→Bool
 | .obj i=>decide (i<k)
 | .tup vs=>V.fits k vs
 | .lst vs=>V.fits k vs
 | .dct es=>V.gR k es
 | _=>true
noncomputable def V.fits (k:Nat):List V→Bool
 | []=>true
 | v::vs=>V.fit k v&&V.fits k vs
noncomputable def V.gR (k:Nat):List (Str×V)→Bool
 | []=>true
 | p::ps=>V.fit k p.2&&V.gR k ps
end
noncomputable def aE.fit (k:Nat):aE→Bool
 | .inst _ as=>V.gR k as
 | .list vs=>V.fits k vs
 | .cell v=>(match v with | some v=>V.fit k v | none=>true)
 | .dT=>true
noncomputable def Close (H1 H':List aE):Prop:=H'.length≤H1.length∧∀ (i:Nat) (o:aE),H'[i]? = some o→(o=.dT∨(H1[i]? = some o∧o.fit H'.length=true))
inductive Fz (H:List aE)(k:Nat):V→V→Prop
 | same {v:V}:V.fit k v=true→Fz H k v v
 | frz {i:Nat} {vs:List V}:k≤i→H[i]? = some (.list vs)→V.fits k vs=true→Fz H k (.obj i) (.lst vs)
noncomputable def Wd.cut (W:Wd)(k:Nat):Wd:={ W with μ:=W.μ.take k,δ:=W.δ.take k }
section
variable {P:Params}{W:Wd}{k:Nat}
theorem cM {α:Type}{l:List α}{i:Nat}{x:α}(h:l[i]? = some x)(hi:i<k):(l.take k)[i]? = some x:=by
 rw [List.getElem?_take_of_lt hi];exact h
theorem and_of {a b:Bool}(h:(a&&b)=true):a=true∧b=true:=by rw [Bool.and_eq_true] at h;exact h
theorem VR.cut3:(∀ (v:V) (r:Value),VR P W v r→V.fit k v=true→VR P (W.cut k) v r)∧(∀ (vs:List V) (rs:List Value),VRs P W vs rs→V.fits k vs=true→VRs P (W.cut k) vs rs)∧(∀ (es:List (Str×V)) (ds:List DictEntry),ERs P W es ds→V.gR k es=true→ERs P (W.cut k) es ds):=by
 walk_at "a"
 exact 
  have fr:∀ {a:Addr},W.free a→(W.cut k).free a:=fun d=>⟨fun q=>d.1 (List.mem_of_mem_take q),d.2⟩
  VR.three (fun _=>.none) (fun _ _=>.bool _) (fun _ _ _=>.int _ _) (fun _ _ _=>.str _ _) (fun _ m d h e=>.tup (h e) m (fr d)) (fun _ m d h e=>.lst (h e) m (fr d)) (fun z y u _ m d h e=>.dct z y u (h e) m (fr d)) (fun m d _=>.rng m (fr d))
   (fun h e=>.obj (cM h (of_decide_eq_true e))) (fun _ _=>.const _) (fun _ _=>.bi _) (fun _ _=>.ty _) (fun _=>.nil) (fun _ _ h t e=>.cons (h (and_of e).1) (t (and_of e).2)) (fun _=>.nil) (fun _ _ h t e=>.cons (h (and_of e).1) (t (and_of e).2))
 walk_at "z"
theorem VR.cut {v:V}{r:Value}(h:VR P W v r)(e:V.fit k v=true):VR P (W.cut k) v r:=VR.cut3.1 _ _ h e
theorem VRs.cut {v:List V}{r:List Value}(h:VRs P W v r)(e:V.fits k v=true):VRs P (W.cut k) v r:=VR.cut3.2.1 _ _ h e
theorem ERs.cut {v:List (Str×V)}{r:List DictEntry}(h:ERs P W v r)(e:V.gR k v=true):ERs P (W.cut k) v r:=by
 walk_at "a"
 exact VR.cut3.2.2 _ _ h e
 walk_at "z"
theorem OR.cut {i:Nat}{o:aE}(h:OR P W i o)(hi:i<k)(e:o.fit k=true):OR P (W.cut k) i o:=by
 walk_at "a"
 cases o with
 | inst C as =>
  obtain ⟨a,dx,es,n,h1,h2,h3,h4,h5⟩:=h
  exact ⟨a,dx,es,n,cM h1 hi,cM h2 hi,h3,h4,h5.cut e⟩
 | list vs =>
  obtain ⟨a,rs,n,h1,h2,h3,h4⟩:=h
  exact ⟨a,rs,n,cM h1 hi,cM h2 hi,h3,h4.cut e⟩
 | cell v =>
  obtain ⟨a,o,h1,h2,h3,r,h4,h5⟩:=h
  refine ⟨a,o,cM h1 hi,cM h2 hi,h3,r,h4,fun u e'=>?_⟩
  subst e'
  obtain ⟨z,e1,e2⟩:=h5 u rfl
  exact ⟨z,e1,e2.cut e⟩
 | dT =>
  obtain ⟨d,o,h1,h2⟩:=h
  exact ⟨d,o,cM h1 hi,h2⟩
 walk_at "z"
theorem OR.lose {i:Nat}{o:aE}(h:OR P W i o):OR P W i .dT:=by
 walk_at "a"
 cases o with
 | inst C as=>obtain ⟨a,dx,es,n,h1,h2,h3,h4,h5⟩:=h;exact ⟨_,_,h2,h4⟩
 | list vs=>obtain ⟨a,rs,n,h1,h2,h3,h4⟩:=h;exact ⟨_,_,h2,h3⟩
 | cell v=>obtain ⟨a,o,h1,h2,h3,r⟩:=h;exact ⟨_,_,h2,h3⟩
 | dT=>exact h
 walk_at "z"
theorem Close.ob {H1 H':List aE}(C:Close H1 H')(ob:∀ i o,H1[i]? = some o→OR P W i o):∀ i o,H'[i]? = some o→OR P (W.cut H'.length) i o:=by
 walk_at "a"
 exact fun i o h=>by
  have hi:=(List.getElem?_eq_some_iff.mp h).1
  rcases C.2 i o h with rfl | ⟨h1,h2⟩
  ·have hi1:i<H1.length:=Nat.lt_of_lt_of_le hi C.1
   exact (OR.lose (ob i H1[i] (List.getElem?_eq_getElem hi1))).cut hi rfl
  ·exact (ob i o h1).cut hi h2
 walk_at "z"
theorem Fz.cut {H1:List aE}{v u:V}{r:Value}(h:Fz H1 k v u)(ob:∀ i o,H1[i]? = some o→OR P W i o)(dn:W.δ.Nodup)(dh:∀ d∈W.δ,d∉W.hd)(hv:VR P W v r):VR P (W.cut k) u r:=by
 walk_at "a"
 cases h with
 | same e=>exact hv.cut e
 | frz hk hi e =>
  cases hv with
  | obj hm =>
   obtain ⟨a,rs,n,h1,h2,h3,h4⟩:=ob _ _ hi
   rw [hm] at h1
   rw [show Value.ref _=Value.ref a from congrArg Value.ref (Option.some.inj h1)]
   refine .lst (h4.cut e) h3 ⟨fun q=>?_,dh _ (List.mem_of_getElem? h2)⟩
   obtain ⟨j,hj,ej⟩:=List.mem_iff_getElem.mp q
   have hj':j<k:=by
    have:=hj
    simp only [Wd.cut,List.length_take] at this
    lia
   have:W.δ[j]? = some a:=by
    have e2:(W.δ.take k)[j]? = some a:=List.getElem?_eq_some_iff.mpr ⟨hj,ej⟩
    rw [List.getElem?_take_of_lt hj'] at e2
    exact e2
   have:=δ_inj dn this h2
   lia
 walk_at "z"
theorem Ext.cut {W W':Wd}(X:Ext W W')(hk:W.μ.length≤k):Ext W (W'.cut k) :=
 ⟨fun p h h'=>⟨(X.keep p h h').1,fun q=>(X.keep p h h').2 (List.mem_of_mem_take q)⟩,fun i a h=>cM (X.ids i a h) (Nat.lt_of_lt_of_le (List.getElem?_eq_some_iff.mp h).1 hk),X.hid⟩
end
section
theorem VR.fit3 {P:Params}{W:Wd}:(∀ (v:V) (r:Value),VR P W v r→V.fit W.μ.length v=true)∧(∀ (vs:List V) (rs:List Value),VRs P W vs rs→V.fits W.μ.length vs=true)∧(∀ (es:List (Str×V)) (ds:List DictEntry),ERs P W es ds→V.gR W.μ.length es=true):=by
 walk_at "a"
 exact 
  have an:∀ {a b:Bool},a=true→b=true→(a&&b)=true:=fun h1 h2=>by rw [h1,h2];rfl
  VR.three rfl (fun _=>rfl) (fun _ _=>rfl) (fun _ _=>rfl) (fun _ _ _ h=>h) (fun _ _ _ h=>h) (fun _ _ _ _ _ _ h=>h) (fun _ _=>rfl) (fun h=>decide_eq_true (List.getElem?_eq_some_iff.mp h).1) (fun _=>rfl) (fun _=>rfl) (fun _=>rfl) rfl (fun _ _ h t=>an h t) rfl (fun _ _ h t=>an h t)
 walk_at "z"
theorem VR.fit {P:Params}{W:Wd}{v:V}{r:Value}(h:VR P W v r):V.fit W.μ.length v=true:=by
 walk_at "a"
 exact VR.fit3.1 _ _ h
 walk_at "z"
theorem VRs.fit {P:Params}{W:Wd}{v:List V}{r:List Value}(h:VRs P W v r):V.fits W.μ.length v=true:=VR.fit3.2.1 _ _ h
theorem ERs.fit {P:Params}{W:Wd}{v:List (Str×V)}{r:List DictEntry}(h:ERs P W v r):V.gR W.μ.length v=true:=VR.fit3.2.2 _ _ h
theorem OR.fit {P:Params}{W:Wd}{i:Nat}{o:aE}(h:OR P W i o):o.fit W.μ.length=true:=by
 cases o with
 | inst C as=>obtain ⟨_,_,_,_,_,_,_,_,h⟩:=h;exact h.fit
 | list vs=>obtain ⟨_,_,_,_,_,_,h⟩:=h;exact h.fit
 | cell v =>
  obtain ⟨_,_,_,_,_,r,_,h⟩:=h
  cases v with
  | none=>rfl
  | some u=>obtain ⟨z,_,hz⟩:=h u rfl;exact hz.fit
 | dT=>rfl
mutual
theorem V.fit_le {k k':Nat}(h:k≤k'):∀ (v:V),V.fit k v=true→V.fit k' v=true
 | .none,_=>rfl
 | .bool _,_=>rfl
 | .int _,_=>rfl
 | .str _,_=>rfl
 | .tup vs,e=>by simp only [V.fit] at e ⊢;exact V.fits_le h vs e
 | .lst vs,e=>by simp only [V.fit] at e ⊢;exact V.fits_le h vs e
 | .dct es,e=>by simp only [V.fit] at e ⊢;exact V.fitsE_le h es e
 | .rng _ _ _,_=>rfl
 | .obj i,e=>by simp only [V.fit,decide_eq_true_eq] at e ⊢;lia
 | .const _,_=>rfl
 | .bi _,_=>rfl
 | .ty _,_=>rfl
theorem V.fits_le {k k':Nat}(h:k≤k'):∀ (vs:List V),V.fits k vs=true→V.fits k' vs=true
 | [],_=>rfl
 | v::vs,e=>by simp only [V.fits,Bool.and_eq_true] at e ⊢;exact ⟨V.fit_le h v e.1,V.fits_le h vs e.2⟩
theorem V.fitsE_le {k k':Nat}(h:k≤k'):∀ (vs:List (Str×V)),V.gR k vs=true→V.gR k' vs=true
 | [],_=>rfl
 | v::vs,e=>by simp only [V.gR,Bool.and_eq_true] at e ⊢;exact ⟨V.fit_le h v.2 e.1,V.fitsE_le h vs e.2⟩
end
theorem aE.fit_le {k k':Nat}(h:k≤k'){o:aE}(e:o.fit k=true):o.fit k'=true:=by
 walk_at "a"
 cases o with
 | inst C as=>exact V.fitsE_le h as e
 | list vs=>exact V.fits_le h vs e
 | cell v=>cases v with | none=>rfl | some v=>exact V.fit_le h v e
 | dT=>rfl
 walk_at "z"
noncomputable def cX (H0 H1 H':List aE):Prop:=H'.length≤H1.length∧∀ (i:Nat) (o:aE),H'[i]? = some o→(o=.dT∨(H1[i]? = some o∧(H0[i]? = some o∨o.fit H'.length=true)))
theorem cX.to {P:Params}{W:Wd}{H0 H1 H':List aE}(C:cX H0 H1 H')(ob:∀ i o,H0[i]? = some o→OR P W i o)(hl:W.μ.length≤H'.length):Close H1 H' :=
 ⟨C.1,fun i o h=>(C.2 i o h).imp id fun ⟨a,b⟩=>⟨a,b.elim (fun b=>aE.fit_le hl (OR.fit (ob i o b))) id⟩⟩
theorem cX.same {H:List aE}:cX H H H:=⟨Nat.le_refl _,fun _ _ h=>.inr ⟨h,.inl h⟩⟩
end
end Mine
end
section
namespace Mine
section
variable {prog:Program}{w:World}{K:Frag}
structure dG (K:Frag)(f:Addr)(qual:Str)(params:Arguments)(body:List Stmt)(sc:Scope):Prop where
 at_:∃ name dV kV doc pm an cdv ct oc od osl,K.lookup f=some ⟨oc,od,.func (fnOf name qual params body sc dV kV doc pm an cdv ct),osl⟩∧codeIn K cdv qual=true
 keep:keepIn K (.ref f)=true
 co:sc.isCoroutine=false
 gen:sc.isGenerator=false
 kind:sc.kind=.function
noncomputable def Binds (P:Params)(K:Frag)(f:Addr)(pn:List Str)(bv:List V→Option (List V)):Prop :=
 ∀ (fd:FuncData) (oc:Value) (od:Option Addr) (osl:Array (Option Value)),K.lookup f=some ⟨oc,od,.func fd,osl⟩→∀ (s:Shared) (W:Wd) (vs bs:List V) (rs:List Value),K.In s.heap→VRs P W vs rs→bv vs=some bs →
  ∃ binds,BindsTo s fd ⟨rs,[]⟩ binds∧binds.map (·.1)=pn∧VRs P W bs (binds.map (·.2))
theorem lookup_zip {P:Params}{W:Wd}:∀ {binds:List (Str×Value)} {bs:List V} {k:Nat} {x:Str} {v:V},(binds.map (·.1)).Nodup→VRs P W bs (binds.map (·.2))→(binds.map (·.1))[k]? = some x→bs[k]? = some v→∃ r,binds.lookup x=some r∧VR P W v r
 | p::binds,b::bs,0,x,v,hn,.cons h hs,e1,e2=>by
  walk_at "a"
  cases e1;cases e2
  exact ⟨p.2,by simp [List.lookup],h⟩
  walk_at "z"
 | p::binds,b::bs,k+1,x,v,hn,.cons h hs,e1,e2=>by
  walk_at "a"
  rw [List.map_cons,List.nodup_cons] at hn
  obtain ⟨r,h1,h2⟩:=lookup_zip (k:=k) hn.2 hs e1 e2
  refine ⟨r,?_,h2⟩
  have:(x==p.1)=false:=beq_eq_false_iff_ne.mpr fun e=>hn.1 (e▸List.mem_of_getElem? e1)
  simp only [List.lookup,this]
  exact h1
  walk_at "z"
theorem lookup_reverse {binds:List (Str×Value)}(hn:(binds.map (·.1)).Nodup)(x:Str):binds.reverse.lookup x=binds.lookup x:=by
 walk_at "a"
 induction binds with
 | nil=>rfl
 | cons p binds ih =>
  rw [List.map_cons,List.nodup_cons] at hn
  rw [List.reverse_cons,List.lookup_append,ih hn.2]
  by_cases q:x=p.1
  ·subst q
   have:binds.lookup p.1=none:=by
    cases e:binds.lookup p.1 with
    | none=>rfl
    | some v =>
     exact absurd (by
      obtain ⟨l1,l2,h1,h2⟩:=List.lookup_eq_some_iff.mp e
      rw [h1];simp) hn.1
   rw [this]
   simp [List.lookup]
  ·have:(x==p.1)=false:=beq_eq_false_iff_ne.mpr q
   simp [List.lookup,this]
 walk_at "z"
noncomputable def Act.callee (a:Act prog w K)(A:Around)(n:Nat){s:Shared}{g:Heap}(qual:Str)(sc:Scope)(f:Addr)(cd:Value)(nm:List Str)(cl:List (Str×Addr))(wp:Wd→Prop)(wpx:∀ {W W':Wd},Ext W W'→wp W→wp W')(c:Cal a A (n+1))(B:Below A a.base (a.env::a.outer) g)(hk:sc.kind=.function)(hn:nm.Nodup):Act prog w K :=
 {A₀:=A,A:=A.deeper (envX qual sc s.heap.objs.size f cd cl),base:=a.base,outer:=a.env::a.outer,g:=g,qual:=qual,sc:=sc,L:=s.heap.objs.size,f:=f,cd:=cd,cl:=cl,wp:=wp,wpx:=wpx,nm:=nm,p:=a.p,loose:=a.loose,mg:=a.mg,mb:=a.mb,n:=n,
  sl:=a.sl,sv:=a.sv,sn:=a.sn,B:=B,X₀:=a.X₀,T₀:=a.T₀,hk:=hk,hn:=hn,hA:=by rw [Around.frames_deeper c.fr],
  hd:=by have:=c.hd;show A.depth+1+2*n<_;omega,hu:=by have:=c.hu;show A.units+3+8*n+8<_;omega,hs₀:=a.hs₀,hi:=a.hi }
theorem Cal.le {a:Act prog w K}{A:Around}{n m:Nat}(c:Cal a A n)(h:m≤n):Cal a A m:=⟨c.fr,c.hh,by have:=c.hd;omega,by have:=c.hu;omega⟩
theorem GOK.le {exc:Value}{sl:Addr}{sn:List Int}{Γ:CT}{n m:Nat}(G:GOK prog w K exc sl sn Γ n)(h:n≤m):GOK prog w K exc sl sn Γ m:=fun a A c=>G a A (c.le h)
noncomputable def Ends (fl:Option Fl)(H1:List aE)(r:Option V×List aE):Prop:=Close H1 r.2∧match fl,r.1 with
 | some (.ret v),some u=>Fz H1 r.2.length v u
 | some .next,some u=>u=.none
 | none,none=>True
 | _,_=>False
noncomputable def Ends0 (fl:Option Fl)(H0 H1:List aE)(r:Option V×List aE):Prop:=cX H0 H1 r.2∧match fl,r.1 with
 | some (.ret v),some u=>Fz H1 r.2.length v u
 | some .next,some u=>u=.none
 | none,none=>True
 | _,_=>False
theorem Ends0.to {P:Params}{W:Wd}{fl:Option Fl}{H0 H1:List aE}{r:Option V×List aE}(E:Ends0 fl H0 H1 r)(ob:∀ i o,H0[i]? = some o→OR P W i o)(hl:W.μ.length≤r.2.length):Ends fl H1 r:=⟨E.1.to ob hl,E.2⟩
section
variable {a:Act prog w K}{A:Around}{n:Nat}{s:Shared}{W:Wd}{σ:St}{exc:Value}
theorem back_ret {b c:Act prog w K}{G:Heap}{t:KtsTurn c.fs c.g G}{h':Heap}{W':Wd}{H1 H':List aE}{ρ1:List (Option V)}{m:Str→Option Value}{h₀:Heap}
  (F:FS b h₀ W σ) (Fg:Fr b.g b.L c.g m) (hm:∀ (k:Nat) (x:Str) (v:V),b.nm[k]? = some x→σ.ρ[k]? = some (some v)→∃ r,m x=some r∧VR w.params W v r) (hst:b.g.StaysIn c.g) (hfs:c.fs=b.L::b.fs) (hL:∃ o,c.g.get? b.L=some o)
  (F':FS (c.at G t) h' W' ⟨ρ1,H1⟩) (X:Ext W W') (C:Close H1 H') (hl:σ.H.length≤H'.length):∃ G' t',FS (b.at G' t') h' (W'.cut H'.length) ⟨σ.ρ,H'⟩:=by
 walk_at "a"
 obtain ⟨m1,Fm1,_⟩:=F'.fr
 have Lg:b.g.get? b.L=none:=kts_self Fg
 obtain ⟨T,S⟩:=kts_turn_at (h:=G) (fs:=b.fs) (g:=b.g)
  (fun x hx=>by obtain ⟨_,o,ho,_⟩:=b.B.frames.mem hx;exact ⟨o,ho⟩)
  (fun x o e nx=>t.other x o (hst x o e) (by
   rw [hfs]
   intro q
   rcases List.mem_cons.mp q with q | q
   ·subst q;rw [Lg] at e;cases e
   ·exact nx q))
  (fun x o e hx=>t.frame x o (hst x o e) (by rw [hfs];exact List.mem_cons_of_mem _ hx))
 have up:c.g.UpToSlots h':=fun x o e _=>by
  obtain ⟨sl,hs⟩:=t.up e
  exact ⟨sl,Fm1.keep _ _ hs⟩
 have Xc:=X.cut (k:=H'.length) (by rw [F.inv.lμ];exact hl)
 refine ⟨_,T,⟨⟨m,⟨up.ns Fg.ns,fun x o e=>Fm1.keep x o (S x o e),Nat.le_trans (Nat.le_of_eq T.size) Fg.above⟩,fun k x v hk hv=>?_⟩,⟨fun p hp=>?_,F'.inv.nd,?_,?_,?_,C.ob F'.inv.ob,F'.inv.hdn.1,fun d hd=>F'.inv.hdn.2 d (List.mem_of_mem_take hd)⟩,b.wpx Xc F.cells⟩⟩
 ·obtain ⟨r,e1,e2⟩:=hm k x v hk hv
  exact ⟨r,e1,e2.ext Xc⟩
 ·have hp':=F'.inv.news p hp
  refine ⟨hp'.1,fun q=>?_,?_⟩
  ·obtain ⟨o,ho⟩:=hL
   obtain ⟨sl,hs⟩:=t.up ho
   have z:G.get? p.1=none:=hp'.2.2
   have q:p.1=b.L:=q
   rw [q,hs] at z
   cases z
  ·cases q:(ktsHeap G b.fs b.g).get? p.1 with
   | none=>exact q
   | some o=>have:=S _ _ q;rw [show G.get? p.1=none from hp'.2.2] at this;cases this
 ·exact F'.inv.dn.sublist (List.take_sublist _ _)
 ·show (W'.μ.take _).length=H'.length
  rw [List.length_take,F'.inv.lμ];exact Nat.min_eq_left C.1
 ·show (W'.δ.take _).length=H'.length
  rw [List.length_take,F'.inv.lδ];exact Nat.min_eq_left C.1
 walk_at "z"
theorem back_exc {b c:Act prog w K}{G:Heap}{t:KtsTurn c.fs c.g G}{s':Shared}{W':Wd}{H1 H':List aE}{ρ1:List (Option V)}{m:Str→Option Value}{h₀:Heap}{e:Addr}{Q:Unit→Shared→Prop}{E:Value→Shared→Prop}
  (F:FS b h₀ W σ) (Fg:Fr b.g b.L c.g m) (hm:∀ (k:Nat) (x:Str) (v:V),b.nm[k]? = some x→σ.ρ[k]? = some (some v)→∃ r,m x=some r∧VR w.params W v r) (hout:c.outer=b.env::b.outer) (hbase:c.base=b.base) (hcL:c.g.get? c.L=none)
  (F':Flies (c.at G t) s'.heap W' ⟨ρ1,H1⟩ e exc) (X:Ext W W') (C:Close H1 H') (hl:σ.H.length≤H'.length)
  (k:∀ h'',Flies b h'' (W'.cut H'.length) ⟨σ.ρ,H'⟩ e exc→Q () { s' with heap:=h'' }):wpAny (model prog w) c.A («leaving» c.env (.ref e)) Q E s':=by
 walk_at "a"
 obtain ⟨g₂,m1,Fm1,hsm,hm1,B,a0,hB,hBG,hl',hfl⟩:=F'.ex
 have Xc:=X.cut (k:=H'.length) (by rw [F.inv.lμ];exact hl)
 have hB:b.base.StaysIn B:=by rw [← hbase];exact hB
 have upG:∀ x o,c.g.get? x=some o→∃ sl,g₂.get? x=some { o with slots:=sl }:=fun x o e=>by
  obtain ⟨sl,hs⟩:=t.up e
  exact ⟨sl,Fm1.keep _ _ hs⟩
 have fin:∀ h'',Heap.FlyingW B (b.env::b.outer) e exc a0 h''→s'.heap.UpToSlots h''→Q () { s' with heap:=h'' }:=fun h'' hf hs=>by
  refine k h'' ⟨⟨c.g,m,Fg,fun x o e hn=>?_,fun k x v hk hv=>?_,B,a0,hB,fun x o e hx=>?_,fun q hq=>?_,.inl hf⟩,F'.nd,F'.dn.sublist (List.take_sublist _ _),?_,?_,C.ob F'.ob,⟨F'.hdn.1,fun d hd=>F'.hdn.2 d (List.mem_of_mem_take hd)⟩,b.wpx Xc F.cells⟩
  ·obtain ⟨sl,h1⟩:=upG x o e
   obtain ⟨sl2,h2⟩:=hsm _ _ h1 hn
   obtain ⟨sl3,h3⟩:=hs _ _ h2 hn
   exact ⟨sl3,h3⟩
  ·obtain ⟨r,e1,e2⟩:=hm k x v hk hv
   exact ⟨r,e1,e2.ext Xc⟩
  ·have hx':x∉c.fs:=by
    show x∉c.outer.filterMap (·.frame)
    rw [hout];exact hx
   refine hBG x o (Fm1.keep _ _ (t.other x o e hx')) fun q=>?_
   have q:x∈(c.env::c.outer).filterMap (·.frame):=q
   rw [show (c.env::c.outer).filterMap (·.frame)=c.L::c.fs from rfl] at q
   rcases List.mem_cons.mp q with q | q
   ·subst q;rw [hcL] at e;cases e
   ·exact hx' q
  ·obtain ⟨h1,h2,h3⟩:=hl' q hq
   refine ⟨h1,?_,by rw [← hbase];exact h3⟩
   cases z:c.g.get? q.1 with
   | none=>rfl
   | some o =>
    obtain ⟨sl,h4⟩:=upG _ _ z
    rw [h2] at h4;cases h4
  ·show (W'.μ.take _).length=H'.length
   rw [List.length_take,F'.lμ];exact Nat.min_eq_left C.1
  ·show (W'.δ.take _).length=H'.length
   rw [List.length_take,F'.lδ];exact Nat.min_eq_left C.1
 have hout':(c.at G t).outer=b.env::b.outer:=hout
 rcases hfl with hfl | hfl
 ·refine wpAny_leaves_onW (outer:=b.env::b.outer) (by rw [c.hA,hout]) rfl (by rw [← hout];exact hfl) fun h'' h1 h2=>fin h'' h1 h2
 ·unfold «leaving»
  refine wpAny_bind (wpAny_noteFrame_againW (L:=c.L) rfl hfl.2.2.2 ?_)
  refine wpAny_landsW hfl fun h'' h1 h2=>fin h'' ?_ h2
  obtain ⟨k1,k2,k3,k4⟩:=h1
  refine ⟨k1,k2,?_,k4⟩
  have k3:h''.FunFrames B (c.env::c.outer):=k3
  rw [hout] at k3
  exact k3.2.2
 walk_at "z"
end
end
end Mine
end
section
namespace Mine
noncomputable abbrev Meets (bv:List V→Option (List V))(m k:Nat)(x:M Fl)(vs:List V)(H H0:List aE)(r:Option V×List aE):Prop:=H.length≤r.2.length∧∃ bs,bv vs=some bs∧bs.length=m∧∃ fl σ',x ⟨bs.map some++List.replicate k none,H0⟩=some (fl,σ')∧Ends0 fl H σ'.H r
theorem Meets.of {bv:List V→Option (List V)}{m k:Nat}{x:M Fl}{vs:List V}{H H0:List aE}{r:Option V×List aE}(h1:H.length≤r.2.length)(bs:List V)(h2:bv vs=some bs)(h3:bs.length=m)(fl:Option Fl)(σ:St)(e:x ⟨bs.map some++List.replicate k none,H0⟩=some (fl,σ))(h4:Ends0 fl H σ.H r):Meets bv m k x vs H H0 r:=by
 walk_at "a"
 exact ⟨h1,bs,h2,h3,fl,σ,e,h4⟩
 walk_at "z"
section
variable {prog:Program}{w:World}{K:Frag}{exc:Value}{sl:Addr}{sn:List Int}{Γ:CT}{n:Nat}
theorem cZ {f:Addr}{qual:Str}{params:Arguments}{body:List Stmt}{sc:Scope}(D:dG K f qual params body sc)(hcell:∀ x∈sc.names,x.2≠.cell){nm pn rest:List Str}(hnm:nm=pn++rest)(hn:nm.Nodup)(hloc:∀ y∈pn,sc.names.lookup y=some .local)
  {bv:List V→Option (List V)} (hb:Binds w.params K f pn bv) (G:GOK prog w K exc sl sn Γ n) {x:M Fl}
  (hbody:∀ c:Act prog w K,c.sc=sc→c.nm=nm→c.sl=sl→c.sn=sn→c.wp=(fun _=>True)→c.A.handled=none→COK c exc Γ→∀ W,BX c exc c.env W body x)
  {p:List V→List aE→Option (Option V×List aE)}
  (hp:∀ vs H r,p vs H=some r→Meets bv pn.length rest.length x vs H H r) :
  GOK prog w K exc sl sn (fun f' vs H=>if f'=f then p vs H else Γ f' vs H) (n+1):=by
 walk_at "a"
 intro a A cal h1 h2 f' vs rs W s σ r FF hv e
 try dsimp only at e
 by_cases q:f'=f
 ·subst q
  rw [if_pos rfl] at e
  refine ⟨D.keep,fun R T=>?_⟩
  obtain ⟨gg,tt,F⟩:=FF
  obtain ⟨hl,bs,hbs,hlen,fl,σ',hx,hCE⟩:=hp vs σ.H r e
  obtain ⟨hC,hE⟩:=hCE.to F.inv.ob (by rw [F.inv.lμ];exact hl)
  obtain ⟨name,dV,kV,doc,pm,an,cdv,ct,oc,od,osl,hK,hcd⟩:=D.at_
  obtain ⟨m,Fm,hm⟩:=F.fr
  have XK:K.In s.heap:=F.kin
  obtain ⟨binds,hbind,hb1,hb2⟩:=hb _ _ _ _ hK s W vs bs rs XK hv hbs
  obtain ⟨FG,BG,st,_⟩:=groundX (R:=R) (env:=a.env) (a.at gg tt).B Fm F.inv.news cal.fr rfl a.hk
  have hroom:A.depth<recursionLimit:=by have:=cal.hd;omega
  have hpn:(binds.map (·.1)).Nodup:=by rw [hb1];rw [hnm] at hn;exact (List.nodup_append.mp hn).1
  refine codeAny_call_def (fd:=fnOf name qual params body sc dV kV doc pm an cdv ct) (body:=body) (binds:=binds) hroom (XK _ _ hK) rfl ((a.at gg tt).T.nolimit.keeps Fm.keep) (codeRec_of XK hcd) rfl hbind hcell (fun y hy=>hloc y.1 (by rw [← hb1];exact List.mem_map_of_mem hy)) (fun h₁ hns hk₁=>?_) D.co D.gen D.kind
  let c:Act prog w K:=(a.at gg tt).callee (s:=s) A n qual sc f' cdv nm [] (fun _=>True) (fun _ h=>h) ⟨cal.fr,cal.hh,cal.hd,cal.hu⟩ BG D.kind hn
  have hcg:c.g.objs.size=s.heap.objs.size:=hideAll_size _ _
  have hcL:c.g.get? c.L=none:=by
   cases q:c.g.get? c.L with
   | none=>rfl
   | some o=>exact absurd (Heap.lt_size q) (by rw [hcg];exact Nat.lt_irrefl _)
  have Fc:FS c h₁ W ⟨bs.map some++List.replicate rest.length none,σ.H⟩:=by
   refine ⟨⟨_,⟨hns,fun b o e=>hk₁ b o (of_hideAll _ e),Nat.le_of_eq hcg⟩,fun k x v hk hv=>?_⟩,⟨fun p hp=>⟨hk₁ _ _ (F.inv.news p hp).1,Nat.ne_of_lt (F.inv.lt hp),hideAll_none _ (List.mem_map_of_mem hp)⟩,F.inv.nd,F.inv.dn,F.inv.lμ,F.inv.lδ,F.inv.ob,F.inv.hdn⟩,trivial⟩
   have hk:nm[k]? = some x:=hk
   have hv:(bs.map some++List.replicate rest.length none)[k]? = some (some v):=hv
   by_cases hkl:k<bs.length
   ·rw [List.getElem?_append_left (by simpa using hkl)] at hv
    rw [hnm,List.getElem?_append_left (by rw [← hlen];exact hkl)] at hk
    obtain ⟨r,e1,e2⟩:=lookup_zip hpn hb2 (by rw [hb1];exact hk) (v:=v) (by
     rw [List.getElem?_map] at hv
     obtain ⟨u,e1,e2⟩:=Option.map_eq_some_iff.mp hv
     cases e2;exact e1)
    exact ⟨r,by rw [lookup_reverse hpn];exact e1,e2⟩
   ·rw [List.getElem?_append_right (by simpa using hkl)] at hv
    have:=List.mem_of_getElem? hv
    rw [List.mem_replicate] at this
    exact absurd this.2 (by simp)
  have Gc:COK c exc Γ:=G c c.A ⟨c.hA,cal.hh,c.hd,c.hu⟩ h1 h2
  refine (hbody c rfl rfl h1 h2 rfl cal.hh Gc W).go _ _ (fl,σ') Fc.up hx _ _ ?_
  have hst:(a.at gg tt).g.StaysIn c.g:=st
  have hLg:∃ o,c.g.get? (a.at gg tt).L=some o:=by obtain ⟨o,_,_,ho,_⟩:=FG.ns;exact ⟨o,ho⟩
  obtain ⟨r1,r2⟩:=r
  cases fl with
  | none =>
   cases r1 with
   | some u=>exact hE.elim
   | none =>
    intro h' tk' W' e' Fl' X
    obtain ⟨G1,t1,F1⟩:=Fl'
    refine back_exc (b:=a.at gg tt) (c:=c) (σ:=σ) (H':=r2) F FG hm rfl rfl hcL F1 X hC hl fun h'' F2=>?_
    exact T h'' tk' _ e' ⟨gg,tt,F2⟩ (X.cut (by rw [F.inv.lμ];exact hl))
  | some fl =>
   cases r1 with
   | none=>cases fl<;>exact hE.elim
   | some u =>
    intro h' tk' W' y FF' X hy
    obtain ⟨G1,t1,F1⟩:=FF'
    obtain ⟨G2,t2,F2⟩:=back_ret (b:=a.at gg tt) (c:=c) (σ:=σ) (H':=r2) F FG hm hst rfl hLg F1 X hC hl
    have X2:=X.cut (k:=r2.length) (by rw [F.inv.lμ];exact hl)
    have T':=fun y' hy'=>T h' tk' (W'.cut r2.length) y' ⟨G2,tt.trans t2,F2⟩ X2 hy'
    cases hy with
    | next=>cases hE;exact T' _ .none
    | brk=>exact hE.elim
    | cont=>exact hE.elim
    | ret hr=>exact T' _ (hE.cut F1.inv.ob F1.inv.dn F1.inv.hdn.2 hr)
 ·have e:Γ f' vs σ.H=some r:=by rw [if_neg q] at e;exact e
  exact G.le (Nat.le_succ n) a A cal h1 h2 f' vs rs W s σ r FF hv e
 walk_at "z"
end
end Mine
end
section
namespace Mine
section
variable {prog:Program}{w:World}{K:Frag}{exc:Value}{sl:Addr}{sn:List Int}{Γ:CT}{n:Nat}
theorem FS.inst {a:Act prog w K}{h h':Heap}{W:Wd}{σ:St}{m:Str→Option Value}(F:FS a h W σ)(hm:∀ (k:Nat) (x:Str) (v:V),a.nm[k]? = some x→σ.ρ[k]? = some (some v)→∃ r,m x=some r∧VR w.params W v r){C x dx:Addr}
  (F':Fr a.g a.L h' m) (N':News a.g a.L h' ((x,instObj C dx)::(dx,dictOf [] 0)::W.N)) (h1:∀ p∈W.N,p.1<dx) (h2:dx<x) :
  FS a h' ⟨(x,instObj C dx)::(dx,dictOf [] 0)::W.N,W.μ++[x],W.δ++[dx],W.hd⟩ ⟨σ.ρ,σ.H++[.inst C []]⟩∧Ext W ⟨(x,instObj C dx)::(dx,dictOf [] 0)::W.N,W.μ++[x],W.δ++[dx],W.hd⟩:=by
 walk_at "a"
 have n1:∀ p∈W.N,p.1≠dx:=fun p hp=>Nat.ne_of_lt (h1 p hp)
 have n2:∀ p∈W.N,p.1≠x:=fun p hp=>Nat.ne_of_lt (Nat.lt_trans (h1 p hp) h2)
 have hδ:dx∉W.δ:=fun hp=>by
  obtain ⟨i,hi,e⟩:=List.mem_iff_getElem.mp hp
  obtain ⟨o,ho⟩:=F.inv.in (i:=i) (d:=dx) (by rw [List.getElem?_eq_getElem hi,e])
  exact n1 _ ho rfl
 have X:Ext W ⟨(x,instObj C dx)::(dx,dictOf [] 0)::W.N,W.μ++[x],W.δ++[dx],W.hd⟩ :=
  ⟨fun p h h'=>⟨.tail _ (.tail _ h),fun q=>(List.mem_append.mp q).elim h' fun q=>n1 p h (List.mem_singleton.mp q)⟩,fun _ _ h=>eI h,rfl⟩
 refine ⟨⟨⟨m,F',fun k y v hk hv=>?_⟩,⟨N',?_,?_,?_,?_,fun i o ho=>?_,fun d hd=>(let ⟨o,h⟩:=F.inv.hdn.1 d hd;⟨o,.tail _ (.tail _ h)⟩),fun d hd' hq=>(List.mem_append.mp hd').elim (fun q=>F.inv.hdn.2 d q hq) fun q=>by obtain ⟨o,ho⟩:=F.inv.hdn.1 d hq;exact n1 _ ho (List.mem_singleton.mp q)⟩,a.wpx X F.cells⟩,X⟩
 ·obtain ⟨r,e1,e2⟩:=hm k y v hk hv
  exact ⟨r,e1,e2.ext X⟩
 ·show (((x,instObj C dx)::(dx,dictOf [] 0)::W.N).map (·.1)).Nodup
  rw [List.map_cons,List.map_cons,List.nodup_cons,List.nodup_cons]
  refine ⟨fun q=>?_,fun q=>?_,F.inv.nd⟩
  ·rcases List.mem_cons.mp q with q | q
   ·exact Nat.ne_of_gt h2 q
   ·obtain ⟨p,hp,e⟩:=List.mem_map.mp q;exact n2 p hp e
  ·obtain ⟨p,hp,e⟩:=List.mem_map.mp q;exact n1 p hp e
 ·show (W.δ++[dx]).Nodup
  rw [List.nodup_append]
  exact ⟨F.inv.dn,by simp,fun u hu y hy e=>hδ (by rw [List.mem_singleton.mp hy] at e;exact e▸hu)⟩
 ·show (W.μ++[x]).length=(σ.H++[_]).length
  simp [F.inv.lμ]
 ·show (W.δ++[dx]).length=(σ.H++[_]).length
  simp [F.inv.lδ]
 ·have ho:(σ.H++[aE.inst C []])[i]? = some o:=ho
  by_cases hi:i<σ.H.length
  ·rw [List.getElem?_append_left hi] at ho
   exact (F.inv.ob i o ho).ext X (fun _ e=>eI e) fun _ hp _=>.tail _ (.tail _ hp)
  ·rw [List.getElem?_append_right (Nat.le_of_not_lt hi)] at ho
   have hz:i-σ.H.length=0:=by
    cases q:i-σ.H.length with
    | zero=>rfl
    | succ k=>rw [q] at ho;simp at ho
   rw [hz] at ho
   have:i=σ.H.length:=by omega
   subst this
   simp at ho
   subst ho
   exact ⟨x,dx,[],0,by simp [← F.inv.lμ],by simp [← F.inv.lδ],.head _,.tail _ (.head _),.nil⟩
 walk_at "z"
noncomputable def clsP (Γ:CT)(C fI:Addr)(vs:List V)(H:List aE):Option (Option V×List aE):=match Γ fI (.obj H.length::vs) (H++[.inst C []]) with
 | some (some .none,H')=>some (some (.obj H.length),H')
 | _=>none
theorem cls_ok {C fI:Addr}(hk:keepIn K (.ref C)=true)(hm:makesIn K C=true)(hi:findIn K (.ref C) "__init__"=some (some (.ref fI)))(hf:typeIn K (.ref fI)=some (.type "function"))(G:GOK prog w K exc sl sn Γ n)
  {p:List V→List aE→Option (Option V×List aE)} (hp:∀ vs H r,p vs H=some r→clsP Γ C fI vs H=some r) :
  GOK prog w K exc sl sn (fun f' vs H=>if f'=C then p vs H else Γ f' vs H) (n+1):=by
 walk_at "a"
 intro a A cal h1 h2 f' vs rs W s σ r FF hv e
 try dsimp only at e
 by_cases q:f'=C
 ·subst q
  rw [if_pos rfl] at e
  refine ⟨hk,fun R T=>?_⟩
  have e:=hp _ _ _ e
  obtain ⟨gg,tt,F⟩:=FF
  obtain ⟨m,Fm,hm'⟩:=F.fr
  refine make_K (K:=K) Fm F.inv.news F.kin hm hi hf fun x dx h' F' N' hl1 hl2=>?_
  obtain ⟨F2,X2⟩:=FS.inst F hm' F' N' hl1 hl2
  unfold clsP at e
  split at e
  ·rename_i H' eΓ
   cases e
   have hx:VR w.params ⟨(x,instObj f' dx)::(dx,dictOf [] 0)::W.N,W.μ++[x],W.δ++[dx],W.hd⟩ (.obj σ.H.length) (.ref x):=.obj (by simp [← F.inv.lμ])
   refine (G a (A.under (.builtin "type.__call__" ⟨.ref f'::rs,[]⟩)) ⟨cal.fr,cal.hh,by have:=cal.hd;show A.depth+1+2*n<_;omega,by have:=cal.hu;show A.units+1+8*n+8<_;omega⟩ h1 h2 fI (.obj σ.H.length::vs) (.ref x::rs) _ _ ⟨σ.ρ,σ.H++[.inst f' []]⟩ _ ⟨gg,tt,F2⟩ (.cons hx (hv.ext X2)) eΓ).2 _ ?_
   intro h3 tk3 W3 y F3 X3 hy
   cases hy
   exact ⟨rfl,T h3 tk3 W3 _ F3 (X2.trans X3) (hx.ext X3)⟩
  ·cases e
 ·have e:Γ f' vs σ.H=some r:=by rw [if_neg q] at e;exact e
  exact G.le (Nat.le_succ n) a A cal h1 h2 f' vs rs W s σ r FF hv e
 walk_at "z"
end
end Mine
end
section
namespace Mine
section
variable {prog:Program}{w:World}{K:Frag}{a:Act prog w K}{exc:Value}{W:Wd}{env:Env}
theorem noted {b:Act prog w K}{s:Shared}{σ:St}{e:Addr}{Q:Unit→Shared→Prop}{E:Value→Shared→Prop}{A:Around}(hA:A.frames=some (b.env::b.outer))(F:Flies b s.heap W σ e exc)
  (k:∀ h',Flies b h' W σ e exc→(∃ B a0,Heap.HeldW B (b.env::b.outer) e exc a0 b.L h')→Q () { s with heap:=h' }):wpAny (model prog w) A (noteFrame (.ref e) b.env) Q E s:=by
 walk_at "a"
 obtain ⟨g₂,m,h1,h2,h3,B,a0,h4,h5,h6,h7⟩:=F.ex
 rcases h7 with h7 | h7
 ·exact wpAny_looks_onW hA rfl h7 fun h' hh hs=>k h' ⟨⟨g₂,m,h1,h2.trans hs,h3,B,a0,h4,h5,h6,.inr hh⟩,F.nd,F.dn,F.lμ,F.lδ,F.ob,F.hdn,F.cells⟩ ⟨B,a0,hh⟩
 ·exact wpAny_noteFrame_againW (L:=b.L) rfl h7.2.2.2 (k s.heap F ⟨B,a0,h7⟩)
 walk_at "z"
theorem cameBack {b:Act prog w K}{s:Shared}{e:Addr}{A:Around}{E:Value→Shared→Prop}(hh:∃ B a0,Heap.HeldW B (b.env::b.outer) e exc a0 b.L s.heap)
  (k:E (.ref e) s):cameBackBy (model prog w) A b.env E (.ref e) s:=by
 walk_at "a"
 obtain ⟨B,a0,_,_,_,oe,vs,T,oT,ts,he,hcls,hd,h1,hnT,hTe,hT,hdT,h3⟩:=hh
 unfold cameBackBy
 refine wpAny_bind (wpAny_field he hd h1 ?_)
 dsimp only
 rw [if_neg (show ¬ ((Value.ref T==Value.none)=true) from by simp)]
 show wpAny _ _ (setFlight (.ref e) (some b.L)) _ _ s
 unfold setFlight
 refine wpAny_bind (wpAny_field he hd h1 ?_)
 rw [if_pos (show (Value.ref T != Value.none)=true from by simp)]
 refine wpAny_setField hT hdT (Array.getElem?_eq_some_iff.mp h3).1 ?_
 have hu:=Heap.update_setField_same s.heap T oT ts 3 (rawInt b.L) hT hdT h3
 show E (.ref e) { s with heap:=s.heap.update T (Obj.mapFields (·.setIfInBounds 3 (rawInt b.L))) }
 rw [hu]
 exact k
 walk_at "z"
theorem M.bind_val {α β:Type}{x:M α}{f:α→M β}{σ σ1:St}{y:α}(h:x σ=some (some y,σ1)):(x.bind f) σ=f y σ1:=by unfold M.bind;rw [h]
theorem M.bind_raise {α β:Type}{x:M α}{f:α→M β}{σ σ1:St}(h:x σ=some (none,σ1)):(x.bind f) σ=some (none,σ1):=by unfold M.bind;rw [h]
theorem M.bind_stuck {α β:Type}{x:M α}{f:α→M β}{σ:St}(h:x σ=none):(x.bind f) σ=none:=by unfold M.bind;rw [h]
noncomputable def afterM (k:M Fl):Fl→M Fl
 | .next=>k
 | .cont=>k
 | .brk=>M.ret .next
 | .ret v=>M.ret (.ret v)
noncomputable def cW:Nat→M Bool→M Fl→M Fl
 | 0,_,_=>M.stuck
 | n+1,c,b=>c.bind fun t=>if t then b.bind (afterM (cW n c b)) else M.ret .next
theorem flies_out {s:Shared}{σ:St}{e:Addr}{E:Value→Shared→Prop}(F:FlL a s.heap W σ e exc)(k:∀ h',FlL a h' W σ e exc→E (.ref e) { s with heap:=h' }):notedBy (model prog w) a.A a.env (cameBackBy (model prog w) a.A a.env E) (.ref e) s:=by
 obtain ⟨G,t,F⟩:=F
 exact noted (b:=a.at G t) a.hA F fun h' F' hh=>cameBack (b:=a.at G t) hh (k h' ⟨G,t,F'⟩)
theorem bind_inv {α β:Type}{x:M α}{f:α→M β}{σ:St}{r:Option β×St}(e:(x.bind f) σ=some r):(∃ σ1,x σ=some (none,σ1)∧r=(none,σ1))∨∃ y σ1,x σ=some (some y,σ1)∧f y σ1=some r:=by
 walk_at "a"
 unfold M.bind at e
 cases q:x σ with
 | none=>rw [q] at e;exact nomatch e
 | some r1 =>
  obtain ⟨y,σ1⟩:=r1
  rw [q] at e
  cases y with
  | none=>exact .inl ⟨σ1,rfl,(Option.some.inj e).symm⟩
  | some y=>exact .inr ⟨y,σ1,rfl,e⟩
 walk_at "z"
theorem aK.elim {α β α':Type}{T:Tr α'}{x:M α}{rel:Wd→α→α'→Prop}(h:aK a exc W T x rel){s:Shared}{σ:St}{r:Option β×St}{f:α→M β}(F:FL a s.heap W σ)(e:(x.bind f) σ=some r){Q:α'→Shared→Prop}{E:Value→Shared→Prop}
  (kr:∀ σ1,r=(none,σ1)→∀ h' tk' W' ex,FlL a h' W' σ1 ex exc→Ext W W'→E (.ref ex) { s with heap:=h',toks:=tk' })
  (kv:∀ v σ1,f v σ1=some r→∀ h' tk' W' y,FL a h' W' σ1→Ext W W'→rel W' v y→Q y { s with heap:=h',toks:=tk' }):T Q E s:=by
 rcases bind_inv e with ⟨σ1,q,er⟩ | ⟨y,σ1,q,e1⟩
 ·exact h.go s σ _ F q Q E (kr σ1 er)
 ·exact h.go s σ _ F q Q E (kv y σ1 e1)
inductive LpInv (a:Act prog w K)(W:Wd)(s:Shared)(g:Nat→M Fl)(r:Option Fl×St)(k:Nat)(s':Shared):Prop
 | mk (W':Wd) (σ':St) (h':Heap) (tk':Nat) (e:s'={ s with heap:=h',toks:=tk' }) (f:FL a h' W' σ') (x:Ext W W') (c:g k σ'=some r)
theorem lp_out {s:Shared}{r:Option Fl×St}{rel:Wd→Fl→Flow→Prop}{Q:Flow→Shared→Prop}{E:Value→Shared→Prop}(T:Then a exc W s rel r Q E){σ1:St}(er:r=(none,σ1)){h2:Heap}{tk2:Nat}{W1 W2:Wd}{ex:Addr}(F2:FlL a h2 W2 σ1 ex exc)(X1:Ext W W1)(X2:Ext W1 W2) :
  notedBy (model prog w) a.A a.env (cameBackBy (model prog w) a.A a.env E) (.ref ex) { s with heap:=h2,toks:=tk2 }:=by
 subst er
 exact flies_out F2 fun h3 F3=>T h3 tk2 W2 ex F3 (X1.trans X2)
theorem s_While {t:Expr}{body:List Stmt}{pos:Pos}(n:Nat){xt:M Bool}{x:M Fl}(ht:∀ W,TX a exc a.env W t xt)(hb:∀ W,BX a exc a.env W body x)(W:Wd):SX a exc a.env W (.While t body [] pos) (cW n xt x):=by
 walk_at "a"
 constructor;intro s σ r FF e Q E T
 refine wpAny_While ?_
 refine codeAny_whileLoop (LpInv a W s (fun k=>cW k xt x) r) (fun k s' hI=>?_) n ⟨W,σ,s.heap,s.toks,rfl,FF,Ext.refl W,e⟩
 obtain ⟨W',σ',h',tk',rfl,F',X',e'⟩:=hI
 cases k with
 | zero=>exact nomatch e'
 | succ k =>
  refine (ht W').elim F' e' (fun σ1 er h2 tk2 W2 ex F2 X2=>lp_out T er F2 X' X2) fun c σ1 e1 h2 tk2 W2 y F2 X2 hy=>?_
  have X2:=X'.trans X2
  clear F' X' e'
  cases hy
  cases c with
  | false =>
   rw [if_neg (by decide)] at e1
   obtain rfl:=Option.some.inj e1
   exact wpAny_execs_nil (T h2 tk2 W2 _ F2 X2 .next)
  | true =>
   rw [if_pos rfl] at e1
   refine (hb W2).elim F2 e1 (fun σ3 er h3 tk3 W3 ex F3 X3=>lp_out T er F3 X2 X3) fun f σ3 e3 h3 tk3 W3 y F3 X3 hy=>?_
   have X3:=X2.trans X3
   clear F2 X2 e1
   cases hy with
   | next=>exact ⟨k,Nat.lt_succ_self k,W3,σ3,h3,tk3,rfl,F3,X3,e3⟩
   | cont=>exact ⟨k,Nat.lt_succ_self k,W3,σ3,h3,tk3,rfl,F3,X3,e3⟩
   | brk =>
    obtain rfl:=Option.some.inj e3
    exact T h3 tk3 W3 _ F3 X3 .next
   | ret hv =>
    obtain rfl:=Option.some.inj e3
    exact T h3 tk3 W3 _ F3 X3 (.ret hv)
 walk_at "z"
end
end Mine
end
section
namespace Mine
section
variable {prog:Program}{w:World}{K:Frag}{a:Act prog w K}{exc:Value}{W:Wd}{env:Env}
noncomputable def Wd.drop (W:Wd)(I:Addr):Wd:={ W with N:=W.N.filter fun p=>decide (p.1≠I) }
theorem mem_drop {I:Addr}{p:Addr×Obj}(h:p∈W.N)(hp:p.1≠I):p∈(W.drop I).N:=List.mem_filter.mpr ⟨h,by simpa using hp⟩
theorem drop_v {I:Addr}{o:Obj}(nd:(W.N.map (·.1)).Nodup)(hm:(I,o)∈W.N)(ho:dataObj o=false):dJ W (W.drop I) :=
 ⟨fun p h h' hd=>⟨mem_drop h fun e=>absurd (hd.symm.trans ((congrArg dataObj (hO nd hm (show (I,p.2)∈W.N from e▸h))).symm.trans ho)) (by decide),h'⟩,fun _ _ h=>h⟩
theorem drop_ext {W0:Wd}{I:Addr}(X:Ext W0 W)(h:∀ p∈W0.N,p.1≠I):Ext W0 (W.drop I) :=
 ⟨fun p h1 h2=>⟨mem_drop (X.keep p h1 h2).1 (h p h1),(X.keep p h1 h2).2⟩,X.ids,X.hid⟩
noncomputable def iterObj (o:Obj):Prop:=dataObj o=false∧∀ C dx,o≠instObj C dx
theorem FS.drop {b:Act prog w K}{h:Heap}{σ:St}{I:Addr}{o:Obj}(F:FS b h W σ)(hm:(I,o)∈W.N)(hδ:I∉W.δ)(hh:I∉W.hd)(ho:iterObj o)(hw:b.wp (W.drop I)):FS b h (W.drop I) σ:=by
 walk_at "a"
 have X:=drop_v F.inv.nd hm ho.1
 obtain ⟨m,Fm,hm'⟩:=F.fr
 refine ⟨⟨m,Fm,fun k x v hk hv=>?_⟩,⟨fun p hp=>F.inv.news p (List.mem_filter.mp hp).1,?_,F.inv.dn,F.inv.lμ,F.inv.lδ,fun i u hu=>?_,fun d hd=>(let ⟨o,h⟩:=F.inv.hdn.1 d hd;⟨o,mem_drop h fun e=>hh (e▸hd)⟩),F.inv.hdn.2⟩,hw⟩
 ·obtain ⟨r,e1,e2⟩:=hm' k x v hk hv
  exact ⟨r,e1,VR.extV X e2⟩
 ·exact F.inv.nd.sublist (List.Sublist.map _ List.filter_sublist)
 ·refine (F.inv.ob i u hu).extV X (fun _ e=>e) fun p hp hq=>mem_drop hp fun e=>?_
  rcases hq with q | ⟨C,dx,q⟩
  ·exact hδ (e▸List.mem_of_getElem? q)
  ·have:(I,p.2)∈W.N:=by rw [← e];exact hp
   exact ho.2 C dx ((hO F.inv.nd hm this).trans q)
 walk_at "z"
theorem FS.but {b:Act prog w K}{h h':Heap}{σ:St}{I:Addr}(F:FS b h W σ)(hI:∀ p∈W.N,p.1≠I)(hL:b.L≠I)(hg:b.g.get? I=none)(hk:∀ x o,x∉[I]→h.get? x=some o→h'.get? x=some o):FS b h' W σ:=by
 walk_at "a"
 obtain ⟨m,Fm,hm'⟩:=F.fr
 have ne:∀ {x:Addr},x≠I→x∉[I]:=fun h q=>h (List.mem_singleton.mp q)
 refine ⟨⟨m,⟨Fm.ns.at' fun o e=>hk _ o (ne hL) e,fun x o e=>hk x o (ne fun q=>by rw [q,hg] at e;cases e) (Fm.keep x o e),Fm.above⟩,hm'⟩,⟨fun p hp=>⟨hk _ _ (ne (hI p hp)) (F.inv.news p hp).1,(F.inv.news p hp).2⟩,F.inv.nd,F.inv.dn,F.inv.lμ,F.inv.lδ,F.inv.ob,F.inv.hdn⟩,F.cells⟩
 walk_at "z"
theorem FS.see {b:Act prog w K}{h:Heap}{σ:St}{I:Addr}{o:Obj}(F:FS b h W σ)(hI:∀ p∈W.N,p.1≠I)(hL:b.L≠I)(hg:b.g.get? I=none)(ho:h.get? I=some o):FS b h (W.put I o) σ:=by
 obtain ⟨m,Fm,hm'⟩:=F.fr
 exact F.to hm' Fm Ext.put (F.inv.put (fun p hp=>by
  rcases List.mem_cons.mp hp with rfl | hp
  ·exact ⟨ho,fun q=>hL q.symm,hg⟩
  ·exact F.inv.news p hp) hI)
structure Iters (a:Act prog w K)(W:Wd)(h:Heap)(items:List V)(I:Addr)(fp:List Addr)(P:Nat→Value→Prop)(St:Nat→Heap→Prop):Prop where
 walks:Walks prog w a.A I fp [I] items.length P St
 start:St 0 h
 val:∀ i v,i<items.length→P i v→∃ u,items[i]? = some u∧VR w.params W u v
 obj:∀ i h,St i h→∃ o,h.get? I=some o∧iterObj o
 fp:∀ x∈fp,x=I∨(∃ o,(x,o)∈W.N∧x∉W.δ)∨(∃ o,a.base.get? x=some o)
noncomputable def forM (st:V→M Unit)(b:M Fl):List V→M Fl
 | []=>M.ret .next
 | v::vs=>(st v).bind fun _=>b.bind (afterM (forM st b vs))
noncomputable def IterX (a:Act prog w K)(its:St→V→Option (List V)):Prop:=∀ (gg:Heap) (tt:KtsTurn a.fs a.g gg) (s:Shared) (W:Wd) (σ:St) (v:V) (rv:Value) (items:List V),FS (a.at gg tt) s.heap W σ→VR w.params W v rv→its σ v=some items →
 ∀ (Q:Value→Shared→Prop) (E:Value→Shared→Prop),(∀ h' I fp P St tk,(∀ x o,s.heap.get? x=some o→h'.get? x=some o)→s.heap.get? I=none→Iters a W h' items I fp P St→Q (.ref I) { s with heap:=h',toks:=tk })→wpAny (model prog w) a.A (pyIter rv) Q E s
theorem off_δ {gg:Heap}{tt:KtsTurn a.fs a.g gg}{h:Heap}{σ:St}(F:FS (a.at gg tt) h W σ){x:Addr}(hx:∀ p∈W.N,p.1≠x):x∉W.δ:=by
 walk_at "a"
 exact fun hd=>by
  obtain ⟨j,hj,ej⟩:=List.mem_iff_getElem.mp hd
  obtain ⟨o,ho⟩:=F.inv.in (i:=j) (by rw [List.getElem?_eq_getElem hj,ej])
  exact hx _ ho rfl
 walk_at "z"
structure FoC (a:Act prog w K)(W:Wd)(I:Addr):Prop where
 wv:∀ {W W':Wd},dJ W W'→a.wp W→a.wp W'
 n:∀ p∈W.N,p.1≠I
 h:I∉W.hd
 l:a.L≠I
 g:a.g.get? I=none
structure FoIn (a:Act prog w K)(W:Wd)(I:Addr)(Sx:Nat→Heap→Prop)(k:Nat)(W':Wd)(σ':St)(h':Heap):Prop where
 f:FL a h' W' σ'
 x:Ext W W'
 n:∀ p∈W'.N,p.1≠I
 s:Sx k h'
inductive FoInv (a:Act prog w K)(W:Wd)(s:Shared)(I:Addr)(Sx:Nat→Heap→Prop)(st:V→M Unit)(x:M Fl)(items:List V)(r:Option Fl×St)(n:Nat)(s':Shared):Prop
 | mk (k:Nat) (W':Wd) (σ':St) (h':Heap) (tk':Nat) (e:s'={ s with heap:=h',toks:=tk' }) (p:FoIn a W I Sx k W' σ' h') (l:k+n=items.length) (c:forM st x (items.drop k) σ'=some r)
section
variable {h0:Heap}{items:List V}{I:Addr}{fp:List Addr}{P:Nat→Value→Prop}{Sx:Nat→Heap→Prop}{k:Nat}{W1 W':Wd}{σ':St}{h3 G':Heap}{t':KtsTurn a.fs a.g G'}{o3:Obj}
theorem fo_again (c:FoC a W1 I)(J:Iters a W1 h0 items I fp P Sx)(F3:FS (a.at G' t') h3 (W'.put I o3) σ')(X3:Ext W1 (W'.put I o3))(hδ:I∉W'.δ)(ho3:h3.get? I=some o3)(hio:iterObj o3)(hS:Sx k h3)
  {W5:Wd} {σ5:St} {h5:Heap} (F5:FL a h5 W5 σ5) (X5:Ext (W'.put I o3) W5):∃ W6,FoIn a W1 I Sx k W6 σ5 h5:=by
 walk_at "a"
 obtain ⟨G5,t5,F5⟩:=F5
 obtain ⟨hm5,hδ5⟩:=X5.keep (I,o3) (.head _) hδ
 have X15:=X3.trans X5
 refine ⟨W5.drop I,⟨⟨G5,t5,F5.drop hm5 hδ5 (by rw [X15.hid];exact c.h) hio (c.wv (drop_v F5.inv.nd hm5 hio.1) F5.cells)⟩,drop_ext X15 c.n,fun p hp=>by simpa using (List.mem_filter.mp hp).2,J.walks.frame k h3 h5 hS fun b hb o ho=>?_⟩⟩
 rcases J.fp b hb with rfl | ⟨o',h1,h2⟩ | ⟨o',h1⟩
 ·obtain rfl:=Option.some.inj (ho3.symm.trans ho)
  exact (F5.inv.news _ hm5).1
 ·have z1:h3.get? b=some o':=(F3.inv.news _ (X3.keep _ h1 h2).1).1
  obtain rfl:=Option.some.inj (z1.symm.trans ho)
  exact (F5.inv.news _ (X15.keep _ h1 h2).1).1
 ·obtain ⟨m3,Fm3,_⟩:=F3.fr
  obtain ⟨m5,Fm5,_⟩:=F5.fr
  have z1:h3.get? b=some o':=Fm3.keep b o' ((a.at G' t').B.stays b o' h1)
  obtain rfl:=Option.some.inj (z1.symm.trans ho)
  exact Fm5.keep b o' ((a.at G5 t5).B.stays b o' h1)
 walk_at "z"
theorem fo_start {gg:Heap}{tt:KtsTurn a.fs a.g gg}{h:Heap}{σ:St}(hwv:∀ {W W':Wd},dJ W W'→a.wp W→a.wp W')(F:FS (a.at gg tt) h W1 σ)(hI0:h.get? I=none):FoC a W1 I:=by
 walk_at "a"
 obtain ⟨m,Fm,hm⟩:=F.fr
 have hN0:∀ p∈W1.N,p.1≠I:=fun p hp e=>by
  have:=(F.inv.news p hp).1
  rw [e,hI0] at this
  exact nomatch this
 refine ⟨hwv,hN0,fun hp=>?_,fun e=>?_,?_⟩
 ·obtain ⟨o,ho⟩:=F.inv.hdn.1 _ hp
  exact hN0 _ ho rfl
 ·obtain ⟨o,_,_,ho,_⟩:=Fm.ns
  have ho:h.get? a.L=some o:=ho
  rw [e,hI0] at ho
  exact nomatch ho
 ·cases q:a.g.get? I with
  | none=>rfl
  | some o =>
   obtain ⟨sl,hs⟩:=tt.up q
   have:=Fm.keep I _ hs
   rw [hI0] at this
   exact nomatch this
 walk_at "z"
end
theorem s_For (hwv:∀ {W W':Wd},dJ W W'→a.wp W→a.wp W'){its:St→V→Option (List V)}(hI:IterX a its){target iter:Expr}{body:List Stmt}{pos:Pos}{xi:M V}{st:V→M Unit}{x:M Fl}(hi:∀ W,EX a exc a.env W iter xi)(hst:AsX a exc a.env (assign target a.env) st)(hb:∀ W,BX a exc a.env W body x)
  (hs:∀ x,foldedSetIterable iter a.env x=pure x) (ht:∀ it v,letOwnedTupleGo target it v=pure ()) (W:Wd) :
  SX a exc a.env W (.For target iter body [] pos) (xi.bind fun v=>fun σ=>match its σ v with | some items=>forM st x items σ | none=>none):=by
 walk_at "a"
 refine (aK.bind (hi W) (U:=fun v Q E s=>wpAny (model prog w) a.A (pyIter v) (fun it s₂=>codeAny (model prog w) a.A (.forLoop target it body [] a.env) (fun r s'=>match r with | .ok f=>Q f s' | .error e=>cameBackBy (model prog w) a.A a.env E e s') s₂) E s) fun W1 x1 v rv hv=>?_).imp fun _ _ _ z=>wpAny_For z hs
 constructor;intro s σ r FF e Q E T
 try dsimp only at e
 cases q:its σ v with
 | none=>rw [q] at e;cases e
 | some items =>
 rw [q] at e
 try dsimp only at e
 obtain ⟨gg,tt,F⟩:=FF
 refine hI gg tt s W1 σ v rv items F hv q _ _ fun h' I fp P Sx tk hk hI0 J=>?_
 have c:=fo_start hwv F hI0
 refine codeAny_forLoop_any (FoInv a W1 s I Sx st x items r) (fun n s' hInv=>?_) items.length
  ⟨0,W1,σ,h',tk,rfl,⟨⟨gg,tt,F.keep hk⟩,Ext.refl _,c.n,J.start⟩,by lia,by simpa using e⟩
 clear e q F hk
 obtain ⟨k,W',σ',h2,tk2,rfl,⟨⟨G',t',F'⟩,X',hN',hSt⟩,hkn,e'⟩:=hInv
 have hG':G'.get? I=none:=t'.none_ _ c.g
 cases n with
 | zero =>
  have hk':k=items.length:=by lia
  subst hk'
  rw [List.drop_length] at e'
  obtain rfl:=Option.some.inj e'
  exact J.walks.done _ _ _ hSt fun h3 tk3 hk3=>wpAny_execs_nil (T h3 tk3 W' _ ⟨G',t',F'.but hN' c.l hG' hk3⟩ X' .next)
 | succ n =>
  have hlt:k<items.length:=by lia
  refine J.walks.item k _ _ _ hlt hSt fun v h3 tk3 hP hSt3 hk3=>?_
  obtain ⟨u,hu,huv⟩:=J.val k v hlt hP
  have hdrop:items.drop k=u::items.drop (k+1):=by
   rw [List.drop_eq_getElem_cons hlt]
   congr 1
   rw [List.getElem?_eq_getElem hlt] at hu
   exact Option.some.inj hu
  rw [hdrop] at e'
  have hl:k+1+n=items.length:=by lia
  clear hdrop hu hkn
  obtain ⟨o3,ho3,hio⟩:=J.obj _ _ hSt3
  have F3:=(F'.but hN' c.l hG' hk3).see hN' c.l hG' ho3
  have X3:Ext W1 (W'.put I o3):=X'.trans Ext.put
  have hδ:=off_δ F' hN'
  clear X' hSt hk3 F'
  dsimp only
  rw [ht]
  refine wpAny_pure ((hst (W'.put I o3) u v (huv.ext X3)).elim (s:={ s with heap:=h3,toks:=tk3 }) ⟨G',t',F3⟩ e' (fun σ1 er h4 tk4 W4 ex F4 X4=>lp_out T er F4 X3 X4) fun u2 σ2 e2 h4 tk4 W4 y F4 X4 hy=>?_)
  refine (hb W4).elim F4 e2 (fun σ1 er h5 tk5 W5 ex F5 X5=>lp_out T er F5 (X3.trans X4) X5) fun f σ3 e3 h5 tk5 W5 y F5 X5 hy=>?_
  have X45:=X4.trans X5
  clear e2 F4 X4 X5 e'
  cases hy with
  | next =>
   obtain ⟨W6,p6⟩:=fo_again c J F3 X3 hδ ho3 hio hSt3 F5 X45
   exact ⟨n,Nat.lt_succ_self n,.mk (k+1) W6 σ3 h5 tk5 rfl p6 hl e3⟩
  | cont =>
   obtain ⟨W6,p6⟩:=fo_again c J F3 X3 hδ ho3 hio hSt3 F5 X45
   exact ⟨n,Nat.lt_succ_self n,.mk (k+1) W6 σ3 h5 tk5 rfl p6 hl e3⟩
  | brk =>
   obtain rfl:=Option.some.inj e3
   exact T h5 tk5 W5 _ F5 (X3.trans X45) .next
  | ret hv =>
   obtain rfl:=Option.some.inj e3
   exact T h5 tk5 W5 _ F5 (X3.trans X45) (.ret hv)
 walk_at "z"
end
end Mine
end
section
namespace Mine
section
variable {prog:Program}{w:World}{K:Frag}{a:Act prog w K}{exc:Value}{W:Wd}{env:Env}
theorem iN {o:Obj}{n:String}(h:o.cls=.type n)(h1:n≠"tuple")(h2:n≠"list")(h3:n≠"dict")(h4:n≠"range"):iterObj o:=by
 walk_at "a"
 refine ⟨?_,fun C dx e=>by rw [e] at h;cases h⟩
 unfold dataObj
 rw [h]
 have:∀ {m:String},n≠m→(Value.type n==Value.type m)=false:=fun q=>by rw [beq_eq_false_iff_ne];intro e;exact q (Value.type.inj e)
 rw [this h1,this h2,this h3,this h4]
 rfl
 walk_at "z"
theorem Iters.of {h:Heap}{items:List V}{I:Addr}{fp:List Addr}{P:Nat→Value→Prop}{Sx:Nat→Heap→Prop}{n:Nat}(X:Walks prog w a.A I fp [I] n P Sx)(hn:items.length=n)(h1:Sx 0 h)(h2:∀ i v,i<items.length→P i v→∃ u,items[i]? = some u∧VR w.params W u v)(h3:∀ i h,Sx i h→∃ o,h.get? I=some o∧iterObj o)
  (h4:∀ x∈fp,x=I∨(∃ o,(x,o)∈W.N∧x∉W.δ)∨(∃ o,a.base.get? x=some o)):Iters a W h items I fp P Sx:=by
 walk_at "a"
 exact ⟨by rw [hn];exact X,h1,h2,h3,h4⟩
 walk_at "z"
noncomputable def itsStr (_:St)(v:V):Option (List V):=match v with | .str x=>some (x.cps.toList.map fun c=>.str ⟨#[c]⟩) | _=>none
theorem iter_str (hh:a.A.handled=none):IterX a itsStr:=by
 walk_at "a"
 intro gg tt s W σ v rv items F hv e Q E k
 unfold itsStr at e
 split at e
 ·rename_i x
  cases e
  cases hv with
  | str x t =>
  have hlen:(x.cps.toList.map fun c=>V.str ⟨#[c]⟩).length=x.cps.size:=by simp
  have hval:∀ i v,i<(x.cps.toList.map fun c=>V.str ⟨#[c]⟩).length→SignAt x i v→∃ u,(x.cps.toList.map fun c=>V.str ⟨#[c]⟩)[i]? = some u∧VR w.params W u v:=fun i v _ ⟨c,u,h1,h2⟩=>by
   refine ⟨.str ⟨#[c]⟩,?_,by rw [h2];exact .str _ _⟩
   rw [List.getElem?_map,Array.getElem?_toList,h1];rfl
  have hfresh:s.heap.get? s.heap.objs.size=none:=Heap.get?_none_of_le (Nat.le_refl _)
  cases ha:x.cps.all (· < 128)
  ·refine wpAny_pyIter_wide ha (k _ _ _ _ _ s.toks (fun y o h=>Heap.get?_push_of_some _ h) hfresh (Iters.of (Walks.strWide hh _ x t) hlen ⟨_,Heap.get?_push_size _ rfl,rfl,rfl⟩ hval (fun i h ⟨o,h1,h2,_⟩=>⟨o,h1,iN h2 (by decide) (by decide) (by decide) (by decide)⟩) fun y hy=>.inl (List.mem_singleton.mp hy)))
  ·refine wpAny_pyIter_ascii ha (k _ _ _ _ _ s.toks (fun y o h=>Heap.get?_push_of_some _ h) hfresh (Iters.of (Walks.strAscii hh _ x t) hlen ⟨_,Heap.get?_push_size _ rfl,rfl,rfl⟩ hval (fun i h ⟨o,h1,h2,_⟩=>⟨o,h1,iN h2 (by decide) (by decide) (by decide) (by decide)⟩) fun y hy=>.inl (List.mem_singleton.mp hy)))
 ·cases e
 walk_at "z"
noncomputable def itsLst (_:St)(v:V):Option (List V):=match v with | .lst vs=>some vs | _=>none
theorem iter_lst (hh:a.A.handled=none):IterX a itsLst:=by
 walk_at "a"
 intro gg tt s W σ v rv items F hv e Q E k
 unfold itsLst at e
 split at e
 ·cases e
  cases hv with
  | lst h1 m1 d1 =>
  rename_i rs ax n
  have hl:=F.inv.isList m1
  have hfresh:s.heap.get? s.heap.objs.size=none:=Heap.get?_none_of_le (Nat.le_refl _)
  have hne:ax≠s.heap.objs.size:=F.fresh _ m1
  have hlen:items.length=rs.toArray.size:=by rw [List.size_toArray,VRs.length h1]
  refine wpAny_pyIter_list hl (k _ _ _ _ _ s.toks (fun y o h=>Heap.get?_push_of_some _ h) hfresh (Iters.of (Walks.list hh _ ax hne rs.toArray) hlen ⟨⟨_,Heap.get?_push_size _ rfl,rfl,rfl⟩,hl.push _⟩ (fun i v _ hv=>?_) (fun i h ⟨⟨o,h1,h2,_⟩,_⟩=>⟨o,h1,iN h2 (by decide) (by decide) (by decide) (by decide)⟩) fun y hy=>?_))
  ·have hv:rs[i]? = some v:=by simpa using hv
   have hi:i<items.length:=by rw [VRs.length h1];exact (List.getElem?_eq_some_iff.mp hv).1
   obtain ⟨r,e1,e2⟩:=VRs.at h1 (List.getElem?_eq_getElem hi)
   rw [hv] at e1;cases e1
   exact ⟨_,List.getElem?_eq_getElem hi,e2⟩
  ·rcases List.mem_cons.mp hy with rfl | hy
   ·exact .inl rfl
   ·rw [List.mem_singleton.mp hy]
    exact .inr (.inl ⟨_,m1,d1.1⟩)
 ·cases e
 walk_at "z"
theorem size_to {b:Int}(h:0≤b):Builtin.Range.rangeSize 0 b 1=b:=by
 walk_at "a"
 unfold Builtin.Range.rangeSize
 rw [if_pos (by decide)]
 split
 ·rw [Int.ediv_one];lia
 ·lia
 walk_at "z"
theorem small_to {b:Int}(h:0≤b)(h':b<1000000):Builtin.Range.small 0 b 1=true:=by
 walk_at "a"
 unfold Builtin.Range.small
 rw [size_to h]
 unfold Builtin.Range.rangeFitsLong
 simp
 lia
 walk_at "z"
noncomputable def rngV (x:Int)(c:Int)(n:Nat):List V:=(List.range n).map fun (i:Nat)=>V.int (x+i*c)
noncomputable def iI (_:St)(v:V):Option (List V):=match v with
 | .rng 0 b 1=>if 0≤b∧b<1000000 then some (rngV 0 1 b.toNat) else none
 | .rng 3 0 (-1)=>some (rngV 3 (-1) 3)
 | _=>none
theorem iter_rng (hh:a.A.handled=none):IterX a iI:=by
 walk_at "a"
 intro gg tt s W σ v rv items F hv e Q E k
 have hfresh:s.heap.get? s.heap.objs.size=none:=Heap.get?_none_of_le (Nat.le_refl _)
 have go:∀ (x y c:Int) (n:Nat) (r:Addr) (t u z:Tok),IsRange s.heap r x y c t u z→Builtin.Range.small x y c=true→Builtin.Range.rangeSize x y c=n→items=rngV x c n→wpAny (model prog w) a.A (pyIter (.ref r)) Q E s:=fun x y c n r t u z hr hsm hsz hit=>by
  subst hit
  have hlen:(rngV x c n).length=n:=by simp [rngV]
  refine wpAny_pyIter_range hr hsm (k _ _ _ _ _ s.toks (fun y o h=>Heap.get?_push_of_some _ h) hfresh (Iters.of (Walks.range hh _ x c n) hlen ?_ (fun i v hi ⟨t,hv⟩=>?_) (fun i h h1=>⟨_,h1,iN rfl (by decide) (by decide) (by decide) (by decide)⟩) fun y hy=>.inl (List.mem_singleton.mp hy)))
  ·rw [hsz]
   have:=Heap.get?_push_size s.heap (o:={ cls:=.type "range_iterator",data:=.fields #[rawInt x,rawInt n,rawInt c] }) rfl
   simpa [IsRangeIter] using this
  ·rw [hlen] at hi
   refine ⟨.int (x+i*c),?_,by rw [hv];exact .int _ _⟩
   unfold rngV
   rw [List.getElem?_map,List.getElem?_range hi]
   rfl
 unfold iI at e
 split at e
 ·split at e
  ·rename_i b hb
   cases e
   cases hv with
   | rng m1 d1=>exact go 0 b 1 b.toNat _ _ _ _ (F.inv.news _ m1).1 (small_to hb.1 hb.2) (by rw [size_to hb.1];lia) rfl
  ·cases e
 ·cases e
  cases hv with
  | rng m1 d1=>exact go 3 0 (-1) 3 _ _ _ _ (F.inv.news _ m1).1 (by decide +kernel) (by decide) rfl
 ·cases e
 walk_at "z"
end
end Mine
end
section
namespace Mine
section
variable {prog:Program}{w:World}{K:Frag}{a:Act prog w K}{exc:Value}{W:Wd}{env:Env}
noncomputable def keysOf (P:Params):List DictEntry→Option (List Str)
 | []=>some []
 | e::r=>match e.key,keysOf P r with
  | .str x _,some l=>if e.hash=PyData.keyHash P x then some (x::l) else none
  | _,_=>none
noncomputable def keysK (P:Params)(K:Frag)(d:Addr):Option (List Str):=if d==sysModules then none else match K.lookup d with
 | some ⟨c,dd,.dict es n,sl⟩=>if isDict ⟨c,dd,.dict es n,sl⟩ then (match keysOf P es.toList with | some l=>if l.Nodup then some l else none | none=>none) else none
 | _=>none
theorem keys_pairs {P:Params}(hP:w.params=P):∀ {l:List DictEntry} {ks:List Str},keysOf P l=some ks→∃ kvs:List (Str×Value),Pairs (PySem.strKind prog w) l kvs∧kvs.map (·.1)=ks∧∀ e∈l,∃ k,(PySem.strKind prog w).is k e.key=true∧e.hash=(PySem.strKind prog w).hash k
 | [],_,e=>by cases e;exact ⟨[],.nil,rfl,fun _ h=>nomatch h⟩
 | d::l,ks,e=>by
  walk_at "a"
  unfold keysOf at e
  split at e
  ·rename_i x t us hk hr
   split at e
   ·rename_i hh
    cases e
    obtain ⟨kvs,k1,k2,k3⟩:=keys_pairs hP hr
    have his:(PySem.strKind prog w).is x d.key=true:=by
     show Value.isStrOf x d.key=true
     rw [hk];simp [Value.isStrOf]
    refine ⟨(x,d.val)::kvs,.cons his rfl k1,by simp [k2],fun e' he'=>?_⟩
    rcases List.mem_cons.mp he' with rfl | he'
    ·exact ⟨x,his,by rw [hh,← hP];rfl⟩
    ·exact k3 e' he'
   ·cases e
  ·cases e
  walk_at "z"
noncomputable def itsTab (P:Params)(K:Frag)(_:St)(v:V):Option (List V):=match v with
 | .const d=>(keysK P K d).map fun l=>l.map V.str
 | _=>none
theorem iter_tab (hh:a.A.handled=none):IterX a (itsTab w.params K):=by
 walk_at "a"
 intro gg tt s W σ v rv items F hv e Q E k
 unfold itsTab at e
 split at e
 ·rename_i d
  cases hv
  obtain ⟨ks,e1,rfl⟩:=Option.map_eq_some_iff.mp e
  unfold keysK at e1
  split at e1
  ·cases e1
  ·rename_i hs
   split at e1
   ·rename_i c dd es n sl ho
    split at e1
    ·rename_i hd
     split at e1
     ·rename_i l hl
      split at e1
      ·rename_i hnd
       cases e1
       obtain ⟨kvs,k1,k2,k3⟩:=keys_pairs (prog:=prog) (w:=w) rfl hl
       have hsD:=F.kin _ _ ho
       have hD:s.heap.DictAt (PySem.strKind prog w) d kvs n:=⟨_,es,hsD,isDict_exact hd,rfl,fun e he=>k3 e (by simpa using he),k1,by rw [k2];exact hnd⟩
       have hfresh:s.heap.get? s.heap.objs.size=none:=Heap.get?_none_of_le (Nat.le_refl _)
       have hne:d≠s.heap.objs.size:=Nat.ne_of_lt (Heap.lt_size hsD)
       have hlen:(ks.map V.str).length=kvs.length:=by rw [← k2];simp
       refine wpAny_pyIter_dict (by simpa using hs) hD (k _ _ _ _ _ s.toks (fun y o h=>Heap.get?_push_of_some _ h) hfresh (Iters.of (Walks.dictKeys (knd:=PySem.strKind prog w) hh _ d hne kvs n) hlen ⟨⟨_,Heap.get?_push_size _ rfl,rfl,rfl⟩,hD.at' fun o h=>Heap.get?_push_of_some _ h⟩ (fun i v hi ⟨q,x,h1,h2⟩=>?_) (fun i h ⟨⟨o,h1,h2,_⟩,_⟩=>⟨o,h1,iN h2 (by decide) (by decide) (by decide) (by decide)⟩) fun y hy=>?_))
       ·obtain ⟨t,rfl⟩:=Value.isStrOf_shape h2
        refine ⟨.str q,?_,.str _ _⟩
        rw [← k2,List.map_map,List.getElem?_map,h1];rfl
       ·rcases List.mem_cons.mp hy with rfl | hy
        ·exact .inl rfl
        ·rw [List.mem_singleton.mp hy]
         exact .inr (.inr ⟨_,a.X₀ _ _ ho⟩)
      ·cases e1
     ·cases e1
    ·cases e1
   ·cases e1
 ·cases e
 walk_at "z"
end
end Mine
end
section
namespace Mine
section
variable {prog:Program}{w:World}{K:Frag}{a:Act prog w K}{exc:Value}{W:Wd}{env:Env}
theorem ints_vrs {P:Params}:∀ {vs:List Value} {ns:List Int},IntsAre vs ns→VRs P W (ns.map V.int) vs
 | _,_,.nil=>.nil
 | _,_,.cons n t h=>.cons (.int _ _) (ints_vrs h)
noncomputable def sliceB (sl:Addr)(sn:List Int)(o l u:V):M V:=match o,l,u with
 | .const d,.none,.int k=>if d=sl∧0≤k∧sn.length≤100000 then M.ret (.lst ((sn.take k.toNat).map V.int)) else M.stuck
 | _,_,_=>M.stuck
theorem ints_len {vs:List Value}{ns:List Int}(h:IntsAre vs ns):vs.length=ns.length:=h.length
theorem s_sliceB {value:Expr}{lower upper:Option Expr}{p:Pos}{o l u:V}{ro rl ru:Value}(ho:VR w.params W o ro)(hl:VR w.params W l rl)(hu:VR w.params W u ru)
  (hs:∀ o i,subscripted (.Slice lower upper none p) false o i=operate [i,o] (getItem o i)) (ht:∀ o r,letTemporaryGo value o r=pure ()) :
  aK a exc W (fun Q E s=>wpAny (model prog w) a.A (subscriptTail value (.Slice lower upper none p) ro (.ref s.heap.objs.size)) Q E { s with heap:=s.heap.push { cls:=.type "slice",data:=.fields #[rl,ru,.none] } }) (sliceB a.sl a.sn o l u) (VRw w):=by
 walk_at "a"
 unfold sliceB
 split
 ·split
  ·rename_i d k hk
   obtain ⟨rfl,h0,hsz⟩:=hk
   cases ho;cases hl;cases hu
   constructor;intro s σ r FF e Q E TT
   obtain ⟨gg,tt,F⟩:=FF
   have T:=TT.at (G:=gg) (t:=tt)
   cases e
   obtain ⟨m,Fm,hm⟩:=F.fr
   have hl0:s.heap.IsList a.sl a.sv.toArray:=stays_list Fm.keep (a.at gg tt).hs
   refine slice_list Fm F.inv.news hl0 .none (.int _ _) (fun h' Fm' N'=>?_) (hs _ _) (ht _) (by rw [List.size_toArray,ints_len a.hi];exact Nat.le_trans hsz gJ)
   have hlt:∀ p∈W.N,p.1≠s.heap.objs.size+1:=fun p hp=>Nat.ne_of_lt (Nat.lt_succ_of_lt (F.inv.lt hp))
   have hδ:W.free (s.heap.objs.size+1):=⟨fun hp=>Nat.lt_irrefl _ (Nat.lt_trans (Nat.lt_succ_self _) (F.inv.dlt hp)),fun hp=>by obtain ⟨o,ho⟩:=F.inv.hdn.1 _ hp;exact hlt _ ho rfl⟩
   exact T h' _ (W.put (s.heap.objs.size+1) (gI (slicePick a.sv.toArray none (some _) none).toList 0)) _ (F.to hm Fm' Ext.put (F.inv.put (by simpa [gI] using N') hlt)) Ext.put (.lst ((ints_vrs (slice_ints_uptoW a.hi h0)).ext Ext.put) (.head _) hδ)
  ·exact aK.stuck
 ·exact aK.stuck
 walk_at "z"
theorem e_SliceB {value:Expr}{lower upper:Option Expr}{p pos:Pos}{x y z:M V}(hx:∀ W,EX a exc env W value x)(hy:∀ W,PX a exc env W lower y)(hz:∀ W,PX a exc env W upper z)
  (hs:∀ o i,subscripted (.Slice lower upper none p) false o i=operate [i,o] (getItem o i)) (ht:∀ o r,letTemporaryGo value o r=pure ()) (W:Wd) :
  EX a exc env W (.Subscript value (.Slice lower upper none p) pos) (x.bind fun o=>y.bind fun l=>z.bind fun u=>sliceB a.sl a.sn o l u):=by
 walk_at "a"
 exact 
  (aK.bind (hx W) fun W1 _ o ro ho=>(aK.bind (hy W1) fun W2 x2 l rl hl=>aK.bind (hz W2) fun W3 x3 u ru hu=>s_sliceB (ho.ext (x2.trans x3)) (hl.ext x3) hu hs ht).imp fun _ _ _ z=>wpAny_Slice (wpAny_mono z (fun _ _ z=>wpAny_mono z (fun _ _ z=>by rw [evalPart_none];exact wpAny_pure z) fun _ _ e=>e) fun _ _ e=>e)).imp fun _ _ _ z=>Subscript_ z
 walk_at "z"
end
end Mine
end
section
namespace Mine
section
variable {prog:Program}{w:World}{K:Frag}{a:Act prog w K}{W:Wd}{env:Env}{C:Addr}
noncomputable def Act.marked (a:Act prog w K)(v:Value):Act prog w K:={ a with A:=a.A.mark (some v),hA:=a.hA,hd:=a.hd,hu:=a.hu }
noncomputable def tryM (x y:M Fl):M Fl:=fun σ=>match x σ with
 | some (none,σ1)=>y σ1
 | r=>r
theorem s_Try {x np:Pos}{n:Str}{body:List Stmt}{b₀:Stmt}{suite:List Stmt}{hpos pos:Pos}{m1 m2:M Fl}(hb:∀ W,BX a (.ref C) a.env W body m1)(hs:∀ v W,BX (a.marked v) (.ref C) a.env W (b₀::suite) m2)
  (ex:nsIn K mainGlobals n=some (some (.ref C))) (q:ktsIn K C "BaseException"=true) (hx:a.sc.names.lookup n=some .globalImplicit) (hd:(n==("__debug__":Str))=false) (W:Wd) :
  SX a (.ref C) a.env W (.Try body [.ExceptHandler (some (.Name n np)) none (b₀::suite) hpos] [] [] pos) (tryM m1 m2):=by
 walk_at "a"
 constructor;intro s σ r FF e Q E T
 refine wpAny_Try_except ?_
 unfold tryM at e
 cases q1:m1 σ with
 | none=>rw [q1] at e;cases e
 | some r1 =>
  obtain ⟨f,σ1⟩:=r1
  rw [q1] at e
  refine (hb W).go s σ _ FF q1 _ _ ?_
  cases f with
  | some f =>
   cases e
   intro h' tk' W1 y F1 X1 hy
   cases hy with
   | next=>exact wpAny_execs_nil (T h' tk' W1 _ F1 X1 .next)
   | brk=>exact T h' tk' W1 _ F1 X1 .brk
   | cont=>exact T h' tk' W1 _ F1 X1 .cont
   | ret hv=>exact T h' tk' W1 _ F1 X1 (.ret hv)
  | none =>
   have e:m2 σ1=some r:=e
   intro h' tk' W1 ev Fl1 X1
   obtain ⟨G,t,F⟩:=Fl1
   obtain ⟨g₂,m,Fm,hsm,hm,B,a0,hB,hBG,hl,hfl⟩:=F.ex
   have go:∀ h₄,Heap.HeldW B (a.env::a.outer) ev (.ref C) a0 a.L h₄→h'.UpToSlots h₄→wpAny (model prog w) a.A (setFlight (.ref ev) none) (fun _ s₃=>wpAny (model prog w) a.A (handleBy (.ref ev) a.env [.ExceptHandler (some (.Name n np)) none (b₀::suite) hpos]) Q E s₃) E { s with heap:=h₄,toks:=tk' }:=fun h₄ hheld₄ hsm₄=>by
    refine wpAny_landsW hheld₄ fun h₅ hheld hsm₅'=>?_
    have hsm₅:=hsm₄.trans hsm₅'
    obtain ⟨g₅,T₅,F₅,K₅⟩:=kts_ground (name:=a.qual) (scope:=a.sc) (a:=a.f) (cd:=a.cd) (a.at G t).B Fm hBG hheld.1 (hsm.trans hsm₅)
    have X₅:K.In g₅:=a.X₀.keeps K₅.stays
    have P₅:TopRead a.p a.loose a.mg a.mb g₅:=a.T₀.keeps K₅.stays
    obtain ⟨ob,hob,hobc⟩:=hheld.there
    obtain ⟨nm,q',N,bs,bm,hdct,sn,sub,ab,col,dd,k0,k1,k2,k3,k5,newId,hC,hbase,hbT⟩:=kts_cls X₅ q
    have hC₅:=F₅.keep _ _ hC
    refine wpAny_handleBy_cons (codeAny_handlers_test (nameX_K F₅ X₅ P₅ ex ?_ a.hk hx hd)) (by intro q;cases q)
    refine wpAny_excMatches_sub_self hC₅ hob hobc hbase (codeAny_handlers_suite ?_)
    refine lands_againW hheld fun h₆ hfl₆ hsm₆=>?_
    obtain ⟨g₆,T₆,F₆,K₆⟩:=kts_ground (name:=a.qual) (scope:=a.sc) (a:=a.f) (cd:=a.cd) (a.at G t).B Fm hBG hfl₆.1 ((hsm.trans hsm₅).trans hsm₆)
    have hL:B.get? a.L=none:=by
     obtain ⟨_,⟨L',_,hf,hn',_⟩,_⟩:=hfl₆.2.2.1
     rw [show a.L=L' from Option.some.inj hf]
     exact hn'
    have Fs:FS (a.at g₆ (t.trans T₆)) h₆ W1 σ1:=⟨⟨m,F₆,hm⟩,⟨fun p hp=>⟨hfl₆.1 _ _ (hl p hp).1,(fun z=>by have:=(hl p hp).1;rw [z,show (a.at g₆ (t.trans T₆)).L=a.L from rfl,hL] at this;cases this),T₆.none_ _ (kts_none Fm.keep (hl p hp).2.1)⟩,F.nd,F.dn,F.lμ,F.lδ,F.ob,F.hdn⟩,F.cells⟩
    have FsM:FL (a.marked (.ref ev)) h₆ W1 σ1:=⟨g₆,t.trans T₆,⟨Fs.fr,Fs.inv,Fs.cells⟩⟩
    refine (hs (.ref ev) W1).go { s with heap:=h₆,toks:=tk' } σ1 r FsM e _ _ ?_
    obtain ⟨r1,r2⟩:=r
    cases r1 with
    | none =>
     intro h7 tk7 W7 e7 F7 X7
     obtain ⟨G7,t7,F7⟩:=F7
     have F7':Flies (a.at G7 t7) h7 W7 r2 e7 (.ref C):=⟨F7.ex,F7.nd,F7.dn,F7.lμ,F7.lδ,F7.ob,F7.hdn,F7.cells⟩
     exact noted (b:=a.at G7 t7) (A:=a.A.mark (some (.ref ev))) a.hA F7' fun h8 F8 hh=>cameBack (b:=a.at G7 t7) hh (T h8 tk7 W7 e7 ⟨G7,t7,F8⟩ (X1.trans X7))
    | some f =>
     intro h7 tk7 W7 y F7 X7 hy
     obtain ⟨G7,t7,F7⟩:=F7
     exact T h7 tk7 W7 y ⟨G7,t7,⟨F7.fr,F7.inv,F7.cells⟩⟩ (X1.trans X7) hy
   rcases hfl with hfl | hfl
   ·exact wpAny_looks_onW a.hA rfl hfl fun h₄ hh hs=>go h₄ hh hs
   ·exact wpAny_noteFrame_againW (L:=a.L) rfl hfl.2.2.2 (go h' hfl (Heap.UpToSlots.refl _))
 walk_at "z"
end
end Mine
end
section
open PyProof.Rows.LCg (NsObj ns_obj lst lst_snoc)
namespace Mine
noncomputable def gY {α β:Type}(x:M α)(f:α→M β):M β:=fun σ=>match x σ with | some (some y,σ')=>f y σ' | _=>none
noncomputable def iG (nx:Nat→St→Option (Option V))(tt:V→M Bool)(ee:V→M V):Nat→Nat→List V→M V
 | 0,_,_=>M.stuck
 | n+1,i,acc=>fun σ=>match nx i σ with
  | none=>none
  | some none=>some (some (.lst acc),σ)
  | some (some u)=>gY (tt u) (fun c=>if c then gY (ee u) (fun y=>iG nx tt ee n (i+1) (acc++[y])) else iG nx tt ee n (i+1) acc) σ
section
variable {prog:Program}{w:World}{K:Frag}{a:Act prog w K}{exc:Value}{W:Wd}{env:Env}
noncomputable def Wd.hide (W:Wd)(l:List (Addr×Obj)):Wd:=⟨l++W.N,W.μ,W.δ,l.map (·.1)++W.hd⟩
noncomputable def Wd.show (W:Wd)(ks hd0:List Addr):Wd:=⟨W.N.filter fun p=>decide (p.1∉ks),W.μ,W.δ,hd0⟩
theorem hide_v {l:List (Addr×Obj)}(hf:∀ p∈l,∀ q∈W.N,q.1≠p.1):dJ W (W.hide l) :=
 ⟨fun p h h' _=>⟨List.mem_append_right _ h,h'.1,fun q=>(List.mem_append.mp q).elim (fun q=>by obtain ⟨x,hx,e⟩:=List.mem_map.mp q;exact hf x hx p h e.symm) h'.2⟩,fun _ _ h=>h⟩
theorem FS.hide {b:Act prog w K}{h:Heap}{σ:St}(F:FS b h W σ){l:List (Addr×Obj)}(hl:∀ p∈l,h.get? p.1=some p.2∧b.L≠p.1∧b.g.get? p.1=none∧∀ q∈W.N,q.1≠p.1)(nd:(l.map (·.1)).Nodup)(hw:b.wp (W.hide l)):FS b h (W.hide l) σ:=by
 walk_at "a"
 have X:=hide_v (W:=W) (l:=l) fun p hp=>(hl p hp).2.2.2
 obtain ⟨m,Fm,hm⟩:=F.fr
 refine ⟨⟨m,Fm,fun k x v hk hv=>?_⟩,⟨fun p hp=>?_,?_,F.inv.dn,F.inv.lμ,F.inv.lδ,fun i u hu=>(F.inv.ob i u hu).extV X (fun _ e=>e) fun p hp _=>List.mem_append_right _ hp,fun d hd=>?_,fun d hd hq=>?_⟩,hw⟩
 ·obtain ⟨r,e1,e2⟩:=hm k x v hk hv
  exact ⟨r,e1,VR.extV X e2⟩
 ·rcases List.mem_append.mp hp with hp | hp
  ·exact ⟨(hl p hp).1,fun e=>(hl p hp).2.1 e.symm,(hl p hp).2.2.1⟩
  ·exact F.inv.news p hp
 ·show ((l++W.N).map (·.1)).Nodup
  rw [List.map_append,List.nodup_append]
  refine ⟨nd,F.inv.nd,fun x hx y hy e=>?_⟩
  obtain ⟨p,hp,rfl⟩:=List.mem_map.mp hx
  obtain ⟨q,hq,rfl⟩:=List.mem_map.mp hy
  exact (hl p hp).2.2.2 q hq e.symm
 ·rcases List.mem_append.mp hd with hd | hd
  ·obtain ⟨p,hp,rfl⟩:=List.mem_map.mp hd
   exact ⟨p.2,List.mem_append_left _ hp⟩
  ·obtain ⟨o,ho⟩:=F.inv.hdn.1 d hd
   exact ⟨o,List.mem_append_right _ ho⟩
 ·rcases List.mem_append.mp hq with hq | hq
  ·obtain ⟨p,hp,rfl⟩:=List.mem_map.mp hq
   have hd:p.1∈W.δ:=hd
   obtain ⟨i,hi,e⟩:=List.mem_iff_getElem.mp hd
   obtain ⟨o,ho⟩:=F.inv.in (i:=i) (by rw [List.getElem?_eq_getElem hi,e])
   exact (hl p hp).2.2.2 _ ho rfl
  ·exact F.inv.hdn.2 d hd hq
 walk_at "z"
theorem show_v {ks hd0:List Addr}(hh:W.hd=ks++hd0):dJ W (W.show ks hd0) :=
 ⟨fun p h h' _=>⟨List.mem_filter.mpr ⟨h,by simpa using fun q=>h'.2 (by rw [hh];exact List.mem_append_left _ q)⟩,h'.1,fun q=>h'.2 (by rw [hh];exact List.mem_append_right _ q)⟩,fun _ _ h=>h⟩
theorem FS.show {b:Act prog w K}{h:Heap}{σ:St}(F:FS b h W σ){ks hd0:List Addr}(hh:W.hd=ks++hd0)(hno:∀ p∈W.N,p.1∈ks→∀ C dx,p.2≠instObj C dx)(hk0:∀ k∈hd0,k∉ks)(hw:b.wp (W.show ks hd0)):FS b h (W.show ks hd0) σ:=by
 walk_at "a"
 have X:=show_v hh
 obtain ⟨m,Fm,hm⟩:=F.fr
 refine ⟨⟨m,Fm,fun k x v hk hv=>?_⟩,⟨fun p hp=>F.inv.news p (List.mem_filter.mp hp).1,F.inv.nd.sublist (List.Sublist.map _ List.filter_sublist),F.inv.dn,F.inv.lμ,F.inv.lδ,fun i u hu=>(F.inv.ob i u hu).extV X (fun _ e=>e) fun p hp hq=>List.mem_filter.mpr ⟨hp,?_⟩,fun d hd=>?_,fun d hd hq=>?_⟩,hw⟩
 ·obtain ⟨r,e1,e2⟩:=hm k x v hk hv
  exact ⟨r,e1,VR.extV X e2⟩
 ·rw [decide_eq_true_eq]
  intro q
  rcases hq with e | ⟨C,dx,e⟩
  ·exact F.inv.hdn.2 p.1 (List.mem_of_getElem? e) (by rw [hh];exact List.mem_append_left _ q)
  ·exact hno p hp q C dx e
 ·obtain ⟨o,ho⟩:=F.inv.hdn.1 d (by rw [hh];exact List.mem_append_right _ hd)
  exact ⟨o,List.mem_filter.mpr ⟨ho,by rw [decide_eq_true_eq];exact hk0 d hd⟩⟩
 ·exact F.inv.hdn.2 d hd (by rw [hh];exact List.mem_append_right _ hq)
 walk_at "z"
noncomputable abbrev Act.blk (a:Act prog w K)(C:Addr)(oC:Obj)(v:V)(rv:Value):Act prog w K :=
 {a with wp:=fun W=>a.wp W∧(C,oC)∈W.N∧C∉W.δ∧VR w.params W v rv,wpx:=fun X h=>⟨a.wpx X h.1,(X.keep _ h.2.1 h.2.2.1).1,(X.keep _ h.2.1 h.2.2.1).2,h.2.2.2.ext X⟩ }
structure Nexts (a:Act prog w K)(W0:Wd)(I:Addr)(nx:Nat→St→Option (Option V))(Sx:Nat→Heap→Prop):Prop where
 next:∀ (i:Nat) (gg:Heap) (tt:KtsTurn a.fs a.g gg) (s:Shared) (W:Wd) (σ:St) (r:Option V),FS (a.at gg tt) s.heap W σ→Ext W0 W→Sx i s.heap→nx i σ=some r→∀ (Q:Option Value→Shared→Prop) (E:Value→Shared→Prop),
  (match r with
   | some u=>∀ v h' tk,VR w.params W u v→Sx (i+1) h'→(∀ b o,b∉[I]→s.heap.get? b=some o→h'.get? b=some o)→Q (some v) { s with heap:=h',toks:=tk }
   | none=>∀ h' tk,(∀ b o,b∉[I]→s.heap.get? b=some o→h'.get? b=some o)→Q none { s with heap:=h',toks:=tk })→wpAny (model prog w) a.A (pyNext (.ref I)) Q E s
 obj:∀ i h,Sx i h→∃ o,h.get? I=some o∧iterObj o
 frame:∀ (i:Nat) (h h':Heap) (gg:Heap) (tt:KtsTurn a.fs a.g gg) (W:Wd) (σ:St) (gg':Heap) (tt':KtsTurn a.fs a.g gg') (W':Wd) (σ':St),FS (a.at gg tt) h W σ→FS (a.at gg' tt') h' W' σ'→Ext W0 W→Ext W0 W'→Sx i h→(∀ o,h.get? I=some o→h'.get? I=some o)→Sx i h'
 self:∀ (i:Nat) (s:Shared) (Q:Value→Shared→Prop) (E:Value→Shared→Prop),Sx i s.heap→Q (.ref I) s→wpAny (model prog w) a.A (pyIter (.ref I)) Q E s
theorem Iters.nexts {h:Heap}{items:List V}{I:Addr}{fp:List Addr}{P:Nat→Value→Prop}{Sx:Nat→Heap→Prop}(J:Iters a W h items I fp P Sx):Nexts a W I (fun i _=>if i≤items.length then some items[i]? else none) Sx where
 next:=fun i gg tt s W' σ r F X hS e Q E k=>by
  split at e
  ·rename_i hi
   cases e
   by_cases hlt:i<items.length
   ·refine J.walks.item i s Q E hlt hS fun v h' tk hP hS' hk=>?_
    obtain ⟨u,e1,e2⟩:=J.val i v hlt hP
    rw [e1] at k
    exact k v h' tk (e2.ext X) hS' hk
   ·have:i=items.length:=by omega
    subst this
    rw [List.getElem?_eq_none (Nat.le_refl _)] at k
    exact J.walks.done s Q E hS k
  ·cases e
 obj:=J.obj
 frame:=fun i h1 h2 gg tt W1 σ1 gg' tt' W2 σ2 F1 F2 X1 X2 hS hI=>J.walks.frame i h1 h2 hS fun b hb o ho=>by
  rcases J.fp b hb with rfl | ⟨o',k1,k2⟩ | ⟨o',k1⟩
  ·exact hI o ho
  ·have z1:h1.get? b=some o':=(F1.inv.news _ (X1.keep _ k1 k2).1).1
   rw [← Option.some.inj (z1.symm.trans ho)]
   exact (F2.inv.news _ (X2.keep _ k1 k2).1).1
  ·obtain ⟨m3,Fm3,_⟩:=F1.fr
   obtain ⟨m5,Fm5,_⟩:=F2.fr
   have z1:h1.get? b=some o':=Fm3.keep b o' ((a.at gg tt).B.stays b o' k1)
   rw [← Option.some.inj (z1.symm.trans ho)]
   exact Fm5.keep b o' ((a.at gg' tt').B.stays b o' k1)
 self:=J.walks.self
noncomputable def nxOwn (j:Nat)(i:Nat)(σ:St):Option (Option V):=match σ.H[j]? with | some (.list us)=>if i≤us.length∧us.length≤100000 then some us[i]? else none | _=>none
theorem nexts_own (hh:a.A.handled=none){j:Nat}{ax I:Addr}(hμ:W.μ[j]? = some ax)(hne:ax≠I):Nexts a W I (nxOwn j) (fun i h=>h.IsListIter I ax i) where
 next:=fun i gg tt s W' σ r F X hS e Q E k=>by
  unfold nxOwn at e
  split at e
  ·rename_i us q
   split at e
   ·rename_i hi
    cases e
    obtain ⟨a',rs,n,k1,k2,k3,k4⟩:=F.inv.ob _ _ q
    have:=X.ids _ _ hμ
    rw [k1] at this
    cases this
    have hl:=F.inv.isList k3
    have hlen:=VRs.length k4
    by_cases hlt:i<us.length
    ·obtain ⟨u,e1,e2⟩:=VRs.at k4 (List.getElem?_eq_getElem hlt)
     rw [List.getElem?_eq_getElem hlt] at k
     refine wpAny_pyNext_list_item hS hl (x:=u) (by simpa using e1) fun h' hit' hs'=>?_
     exact k u h' s.toks e2 hit' fun b o hb e=>hs'.extBut b o (fun h=>hb (by simp [h])) e
    ·have:i=us.length:=by omega
     subst this
     rw [List.getElem?_eq_none (Nat.le_refl _)] at k
     exact wpAny_pyNext_list_end hh hS hl (by simp [hlen]) fun h' he'=>k h' s.toks fun b o hb e=>he' b o (fun h=>hb (by simp [h])) e
   ·cases e
  ·cases e
 obj:=fun i h ⟨o,h1,h2,_⟩=>⟨o,h1,iN h2 (by decide) (by decide) (by decide) (by decide)⟩
 frame:=fun i h1 h2 gg tt W1 σ1 gg' tt' W2 σ2 F1 F2 X1 X2 hS hI=>hS.at hI
 self:=fun i s Q E hS hQ=>wpAny_pyIter_listiter hS hQ
end
end Mine
end
section
open PyProof.Rows.LCg (NsObj ns_obj lst lst_snoc)
namespace Mine
section
variable {prog:Program}{w:World}{K:Frag}{a:Act prog w K}{exc:Value}{W:Wd}{env:Env}
theorem ns_noInst {o:Obj}{m:Str→Option Value}(h:NsObj o m)(C dx:Addr):o≠instObj C dx:=by
 walk_at "a"
 exact fun e=>by
  obtain ⟨es,ep,hd,_⟩:=h
  rw [e] at hd;cases hd
 walk_at "z"
noncomputable abbrev KX (b:Act prog w K)(exc:Value)(env:Env)(W:Wd)(ifs:List Expr)(x:M Bool):Prop :=
 aK b exc W (fun Q E s=>wpAny (model prog w) b.A (forIn ifs true fun c r=>if r=true then do let ok ← isTrue c env (eval c env);pure (ForInStep.yield ok) else pure (ForInStep.yield r)) Q E s) x EqR
theorem k_nil (W:Wd):KX a exc env W [] (M.ret true):=by
 walk_at "a"
 exact (aK.ret rfl).imp fun _ _ _ z=>wpAny_tests_nil z
 walk_at "z"
theorem k_one {c:Expr}{x:M Bool}(h:∀ W,TX a exc env W c x)(W:Wd):KX a exc env W [c] x:=by
 walk_at "a"
 exact (h W).imp fun _ _ _ z=>wpAny_tests_one z
 walk_at "z"
structure CpC (a:Act prog w K)(W:Wd)(I C D:Addr):Prop where
 wv:∀ {W W':Wd},dJ W W'→a.wp W→a.wp W'
 n:∀ p∈W.N,p.1≠I∧p.1≠C∧p.1≠D
 h:∀ k∈W.hd,k∉[I,C,D]
 il:a.L≠I
 cl:a.L≠C
 dl:a.L≠D
 id:I≠D
 ic:I≠C
 dc:D≠C
 ig:a.g.get? I=none
 cg:a.g.get? C=none
 dg:a.g.get? D=none
structure CpIn (a:Act prog w K)(W:Wd)(I C D:Addr)(Sx:Nat→Heap→Prop)(rs:List Value)(i:Nat)(W':Wd)(σ':St)(h':Heap)(G':Heap)(t':KtsTurn a.fs a.g G'):Prop where
 f:FS (a.at G' t') h' W' σ'
 x:Ext W W'
 n:∀ p∈W'.N,p.1≠I∧p.1≠C∧p.1≠D
 s:Sx i h'
 ns:∃ m',h'.Ns C m'
 d:h'.get? D=some (lst rs)
inductive CpInv (a:Act prog w K)(W:Wd)(s:Shared)(I C D:Addr)(nx:Nat→St→Option (Option V))(xt:V→M Bool)(xe:V→M V)(Sx:Nat→Heap→Prop)(r:Option V×St)(k:Nat)(s':Shared):Prop
 | mk (i:Nat) (W':Wd) (σ':St) (h':Heap) (tk':Nat) (ys:List V) (rs:List Value) (G':Heap) (t':KtsTurn a.fs a.g G') (e:s'={ s with heap:=h',toks:=tk' })
  (p:CpIn a W I C D Sx rs i W' σ' h' G' t') (v:VRs w.params W' ys rs) (l:rs.length+k≤100000) (c:iG nx xt xe k i ys σ'=some r)
theorem mem3 {p:Addr→Prop}{I C D:Addr}(h1:p I)(h2:p C)(h3:p D):∀ x∈[I,C,D],p x:=fun x hx=>by
 simp only [List.mem_cons,List.not_mem_nil,or_false] at hx
 rcases hx with rfl | rfl | rfl
 ·exact h1
 ·exact h2
 ·exact h3
theorem mem3o {p:Addr×Obj→Prop}{I C D:Addr×Obj}(h1:p I)(h2:p C)(h3:p D):∀ x∈[I,C,D],p x:=fun x hx=>by
 simp only [List.mem_cons,List.not_mem_nil,or_false] at hx
 rcases hx with rfl | rfl | rfl
 ·exact h1
 ·exact h2
 ·exact h3
section
variable {I C D:Addr}{nx:Nat→St→Option (Option V)}{Sx:Nat→Heap→Prop}{i:Nat}{W':Wd}{σ':St}{h3 G':Heap}{t':KtsTurn a.fs a.g G'}{rs:List Value}{oI oC:Obj}{m:Str→Option Value}{u:V}{v:Value}
theorem cp_again (c:CpC a W I C D)(J:Nexts a W I nx Sx)(p:CpIn a W I C D Sx rs i W' σ' h3 G' t')(heI:h3.get? I=some oI)(hio:iterObj oI)(hoC:NsObj oC m)
  {W5:Wd} {σ5:St} {h5 G5:Heap} {t5:KtsTurn (a.blk C oC u v).fs (a.blk C oC u v).g G5} (F5:FS ((a.blk C oC u v).at G5 t5) h5 W5 σ5) (X5:Ext (W'.hide [(I,oI),(C,oC),(D,lst rs)]) W5) :
  ∃ W6,CpIn a W I C D Sx rs i W6 σ5 h5 G5 t5∧dJ W5 W6∧dJ W' W6:=by
 walk_at "a"
 have XH:dJ W' (W'.hide [(I,oI),(C,oC),(D,lst rs)]):=hide_v (mem3o (fun q hq=>(p.n q hq).1) (fun q hq=>(p.n q hq).2.1) (fun q hq=>(p.n q hq).2.2))
 have hh:W5.hd=[I,C,D]++W.hd:=by rw [X5.hid,← p.x.hid];rfl
 have kI:=(X5.keep (I,oI) (List.mem_append_left _ (.head _)) (off_δ p.f fun q hq=>(p.n q hq).1)).1
 have kC:=(X5.keep (C,oC) (List.mem_append_left _ (.tail _ (.head _))) (off_δ p.f fun q hq=>(p.n q hq).2.1)).1
 have kD:=(X5.keep (D,lst rs) (List.mem_append_left _ (.tail _ (.tail _ (.head _)))) (off_δ p.f fun q hq=>(p.n q hq).2.2)).1
 have XS:dJ W5 (W5.show [I,C,D] W.hd):=show_v hh
 have F6:FS (a.at G5 t5) h5 W5 σ5:=⟨F5.fr,F5.inv,F5.cells.1⟩
 have F7:FS (a.at G5 t5) h5 (W5.show [I,C,D] W.hd) σ5:=F6.show hh (fun q hq hk=>by
  have z:∀ x∈[I,C,D],∀ o,(x,o)∈W5.N→∀ C dx,o≠instObj C dx:=mem3 (fun o ho=>by rw [hO F5.inv.nd ho kI];exact hio.2) (fun o ho=>by rw [hO F5.inv.nd ho kC];exact ns_noInst hoC) (fun o ho=>by rw [hO F5.inv.nd ho kD];exact fun C dx e=>by cases e)
  exact z _ hk q.2 hq) c.h (c.wv XS F6.cells)
 have X7:Ext W (W5.show [I,C,D] W.hd):=by
  refine ⟨fun q hq hd=>?_,fun j x h=>X5.ids j x (p.x.ids j x h),rfl⟩
  have k:=p.x.keep q hq hd
  have k3:=X5.keep q (List.mem_append_right _ k.1) k.2
  have:=c.n q hq
  exact ⟨List.mem_filter.mpr ⟨k3.1,by simp [this.1,this.2.1,this.2.2]⟩,k3.2⟩
 refine ⟨_,⟨F7,X7,fun q hq=>?_,J.frame i h3 h5 G' t' W' σ' G5 t5 _ σ5 p.f F7 p.x X7 p.s fun o ho=>?_,⟨_,hoC.ns (F5.inv.news _ kC).1⟩,(F5.inv.news _ kD).1⟩,XS,⟨fun q h h' hd=>?_,fun j x h=>X5.ids j x h⟩⟩
 ·have:=(List.mem_filter.mp hq).2
  simpa using this
 ·rw [Option.some.inj (ho.symm.trans heI)]
  exact (F5.inv.news _ kI).1
 ·have z:=XH.keep q h h' hd
  have k:=X5.v.keep q z.1 z.2 hd
  exact XS.keep q k.1 k.2 hd
 walk_at "z"
theorem cp_into (c:CpC a W I C D)(p:CpIn a W I C D Sx rs i W' σ' h3 G' t')(heI:h3.get? I=some oI)(heC:h3.get? C=some oC)(hv:VR w.params W' u v) :
  FS ((a.blk C oC u v).at G' t') h3 (W'.hide [(I,oI),(C,oC),(D,lst rs)]) σ':=by
 have oI':∀ q∈W'.N,q.1≠I:=fun q hq=>(p.n q hq).1
 have oC':∀ q∈W'.N,q.1≠C:=fun q hq=>(p.n q hq).2.1
 have oD':∀ q∈W'.N,q.1≠D:=fun q hq=>(p.n q hq).2.2
 have XH:dJ W' (W'.hide [(I,oI),(C,oC),(D,lst rs)]):=hide_v (mem3o oI' oC' oD')
 have F4:FS (a.at G' t') h3 (W'.hide [(I,oI),(C,oC),(D,lst rs)]) σ':=p.f.hide (mem3o ⟨heI,c.il,t'.none_ _ c.ig,oI'⟩ ⟨heC,c.cl,t'.none_ _ c.cg,oC'⟩ ⟨p.d,c.dl,t'.none_ _ c.dg,oD'⟩) (by simp [c.ic,c.id,Ne.symm c.dc]) (c.wv XH p.f.cells)
 exact ⟨F4.fr,F4.inv,F4.cells,List.mem_append_left _ (.tail _ (.head _)),off_δ p.f oC',VR.extV XH hv⟩
end
theorem calm_inv {α β:Type}{x:M α}{f:α→M β}{σ:St}{r:Option β×St}(e:gY x f σ=some r):∃ y σ1,x σ=some (some y,σ1)∧f y σ1=some r:=by
 unfold gY at e
 cases q:x σ with
 | none=>rw [q] at e;exact nomatch e
 | some r1 =>
  obtain ⟨y,σ1⟩:=r1
  cases y with
  | none=>rw [q] at e;exact nomatch e
  | some y=>rw [q] at e;exact ⟨y,σ1,rfl,e⟩
theorem comp_succ {nx:Nat→St→Option (Option V)}{xt:V→M Bool}{xe:V→M V}{k i:Nat}{ys:List V}{σ:St}{r:Option V×St}(e:iG nx xt xe (k+1) i ys σ=some r) :
  (nx i σ=some none∧r=(some (.lst ys),σ))∨∃ u c σ1,nx i σ=some (some u)∧xt u σ=some (some c,σ1)∧(if c then gY (xe u) (fun y=>iG nx xt xe k (i+1) (ys++[y])) else iG nx xt xe k (i+1) ys) σ1=some r:=by
 walk_at "a"
 have e:(match nx i σ with
  | none=>none
  | some none=>some (some (.lst ys),σ)
  | some (some u)=>gY (xt u) (fun c=>if c then gY (xe u) (fun y=>iG nx xt xe k (i+1) (ys++[y])) else iG nx xt xe k (i+1) ys) σ)=some r:=e
 cases q:nx i σ with
 | none=>rw [q] at e;exact nomatch e
 | some r0 =>
  rw [q] at e
  cases r0 with
  | none=>exact .inl ⟨rfl,(Option.some.inj e).symm⟩
  | some u =>
   obtain ⟨c,σ1,h1,h2⟩:=calm_inv e
   exact .inr ⟨u,c,σ1,rfl,h1,h2⟩
 walk_at "z"
section
variable {I C D:Addr}{nx:Nat→St→Option (Option V)}{Sx:Nat→Heap→Prop}{s:Shared}
 {elt iter:Expr} {ifs:List Expr} {x:Str} {px pos:Pos} {scope:Scope} {cl:List (Str×Addr)} {xt:V→M Bool} {xe:V→M V} {r:Option V×St} {RR:Value→Addr→Result→Shared→Prop} {E:Value→Shared→Prop}
noncomputable abbrev CpEnd (a:Act prog w K)(W:Wd)(s:Shared)(r:Option V×St)(RR:Value→Addr→Result→Shared→Prop):Prop :=
 ∀ D C h tk W' m' G' t' ys σ1,r=(some (.lst ys),σ1)→FS (a.at G' t') h W' σ1→Ext W W'→VR w.params W' (.lst ys) (.ref D)→h.Ns C m'→(∀ p∈W'.N,p.1≠C)→a.L≠C→G'.get? C=none→RR (.ref D) C (.ok .next) { s with heap:=h,toks:=tk }
theorem cp_end (c:CpC a W I C D)(hRR:CpEnd a W s r RR){i:Nat}{W':Wd}{σ':St}{h' G':Heap}{t':KtsTurn a.fs a.g G'}{rs:List Value}{ys:List V}(p:CpIn a W I C D Sx rs i W' σ' h' G' t')(hv:VRs w.params W' ys rs)(er:r=(some (.lst ys),σ'))
  {h2:Heap} {tk2:Nat} (hk2:∀ b o,b∉[I]→h'.get? b=some o→h2.get? b=some o):RR (.ref D) C (.ok .next) { s with heap:=h2,toks:=tk2 }:=by
 walk_at "a"
 obtain ⟨m',hn'⟩:=p.ns
 have F2:=p.f.but (fun q hq=>(p.n q hq).1) c.il (t'.none_ _ c.ig) hk2
 have hD2:h2.get? D=some (gI rs rs.length):=hk2 D _ (by simpa using Ne.symm c.id) p.d
 have hn2:h2.Ns C m':=hn'.at' fun o e=>hk2 _ o (by simpa using Ne.symm c.ic) e
 have F3:=F2.see (fun q hq=>(p.n q hq).2.2) c.dl (t'.none_ _ c.dg) hD2
 have XD:Ext W' (W'.put D (gI rs rs.length)):=Ext.put
 refine hRR D C h2 tk2 (W'.put D (gI rs rs.length)) m' G' t' ys σ' er F3 (p.x.trans XD) (.lst (hv.ext XD) (.head _) ⟨off_δ p.f fun q hq=>(p.n q hq).2.2,fun hp=>?_⟩) hn2 (fun q hq=>?_) c.cl (t'.none_ _ c.cg)
 ·obtain ⟨o,ho⟩:=p.f.inv.hdn.1 D hp
  exact (p.n _ ho).2.2 rfl
 ·rcases List.mem_cons.mp hq with rfl | hq
  ·exact c.dc
  ·exact (p.n q hq).2.1
 walk_at "z"
theorem cp_loop (c:CpC a W I C D)(J:Nexts a W I nx Sx)(hkind:scope.kind=.function)(hx:scope.names.lookup x=some .local)
  (htest:∀ C oC v rv m,NsObj oC m→m x=some rv→∀ W,KX (a.blk C oC v rv) exc (compEnvC scope cl C a.env) W ifs (xt v))
  (helt:∀ C oC v rv m,NsObj oC m→m x=some rv→∀ W,EX (a.blk C oC v rv) exc (compEnvC scope cl C a.env) W elt (xe v)) (hRR:CpEnd a W s r RR) (k0:Nat) (s0:Shared) (h0:CpInv a W s I C D nx xt xe Sx r k0 s0) :
  codeAny (model prog w) a.A (.compLoop (.ListComp elt [⟨.Name x px,iter,ifs,0⟩] scope pos) 0 (.ref I) (.ref D) (compEnvC scope cl C a.env)) (RR (.ref D) C) s0:=by
 walk_at "a"
 refine codeAny_compLoop_tests (CpInv a W s I C D nx xt xe Sx r) ?_ k0 h0
 rintro k s' ⟨i,W',σ',h',tk',ys,rs,G',t',rfl,p,hv,hlen,e'⟩
 cases k with
 | zero=>exact nomatch e'
 | succ k =>
 rcases comp_succ e' with ⟨hq,er⟩ | ⟨u,cb,σ4,hq,q1,e'⟩
 ·exact J.next i G' t' _ W' σ' none p.f p.x p.s hq _ _ fun h2 tk2 hk2=>cp_end c hRR p hv er hk2
 refine J.next i G' t' _ W' σ' (some u) p.f p.x p.s hq _ _ fun v h2 tk2 hvu hS2 hk2=>?_
 obtain ⟨m',hn'⟩:=p.ns
 refine wpAny_assign_Name (wpAny_storeName_local (lookup_relabel_local hx) (hn'.at' fun o e=>hk2 _ o (by simpa using Ne.symm c.ic) e) (fun h3 hn3 hs3=>?_) (by simp [compEnvC,relabel,hkind]))
 have p3:CpIn a W I C D Sx rs (i+1) W' σ' h3 G' t':=by
  have F2:=p.f.but (fun q hq=>(p.n q hq).1) c.il (t'.none_ _ c.ig) hk2
  have F3:FS (a.at G' t') h3 W' σ':=F2.but (fun q hq=>(p.n q hq).2.1) c.cl (t'.none_ _ c.cg) fun b o hb e=>hs3.extBut b o (fun q=>hb (by rw [show b=C from q];simp)) e
  exact ⟨F3,p.x,p.n,J.frame (i+1) h2 h3 G' t' W' σ' G' t' W' σ' F2 F3 p.x p.x hS2 fun o e=>hs3.extBut I o c.ic e,⟨_,hn3⟩,hs3.extBut D _ c.dc (hk2 D _ (by simpa using Ne.symm c.id) p.d)⟩
 clear hk2 hs3 hS2 hn' p h0
 obtain ⟨oI,heI,hio⟩:=J.obj _ _ p3.s
 obtain ⟨oC,heC,hoC⟩:=ns_obj hn3
 refine (htest C oC u v _ hoC (by simp) _).go _ σ' _ ⟨G',t',cp_into c p3 heI heC hvu⟩ q1 _ _ ?_
 rintro h4 tk4 W4 y ⟨G4,t4,F6⟩ X6 hy
 cases hy
 cases cb with
 | false =>
  rw [if_neg (by decide)] at e'
  rw [if_neg (by decide)]
  obtain ⟨W6,p6,f3,f3'⟩:=cp_again c J p3 heI hio hoC F6 X6
  exact ⟨k,Nat.lt_succ_self k,.mk (i+1) W6 σ4 h4 tk4 ys rs G4 t4 rfl p6 (VRs.extV f3' hv) (by omega) e'⟩
 | true =>
  rw [if_pos rfl] at e'
  rw [if_pos rfl]
  obtain ⟨z,σ5,q2,e'⟩:=calm_inv e'
  refine (helt C oC u v _ hoC (by simp) W4).go _ σ4 _ ⟨G4,t4,F6⟩ q2 _ _ ?_
  rintro h5 tk5 W5 y ⟨G5,t5,F7⟩ X7 hy
  obtain ⟨W6,p6,f3,f3'⟩:=cp_again c J p3 heI hio hoC F7 (X6.trans X7)
  refine append_at (hsz:=by rw [List.size_toArray];exact Nat.le_trans (by omega) gJ) p6.d fun h6 hs6 hD6=>?_
  have F8:FS (a.at G5 t5) h6 W6 σ5:=p6.f.but (fun q hq=>(p6.n q hq).2.2) c.dl (t5.none_ _ c.dg) fun b o hb e=>hs6.extBut b o (fun q=>hb (by rw [show b=D from q];simp)) e
  obtain ⟨m5,f6⟩:=p6.ns
  exact ⟨k,Nat.lt_succ_self k,.mk (i+1) W6 σ5 h6 tk5 (ys++[z]) (rs++[y]) G5 t5 rfl ⟨F8,p6.x,p6.n,J.frame (i+1) h5 h6 G5 t5 W6 σ5 G5 t5 W6 σ5 p6.f F8 p6.x p6.x p6.s fun o ho=>hs6.extBut I o c.id ho,⟨_,f6.sameBut hs6 (Ne.symm c.dc)⟩,hD6.trans (congrArg some (lst_snoc rs y))⟩
   (VRs.snoc (VRs.extV f3' hv) (VR.extV f3 hy)) (by rw [List.length_append,List.length_singleton];omega) e'⟩
 walk_at "z"
end
theorem block_M (hwv:∀ {W W':Wd},dJ W W'→a.wp W→a.wp W'){gg:Heap}{tt:KtsTurn a.fs a.g gg}{s:Shared}{σ:St}(F:FS (a.at gg tt) s.heap W σ){I:Addr}{nx:Nat→St→Option (Option V)}{Sx:Nat→Heap→Prop}
  (hI0:∀ p∈W.N,p.1≠I) (hIL:a.L≠I) (hIg:gg.get? I=none) (hIlt:I<s.heap.objs.size) (J:Nexts a W I nx Sx) (hst:Sx 0 s.heap)
  {elt iter:Expr} {ifs:List Expr} {x:Str} {px pos:Pos} {scope:Scope} {cl:List (Str×Addr)} (hcell:∀ y∈scope.names,y.2≠.cell) (hkind:scope.kind=.function) (hx:scope.names.lookup x=some .local)
  {xt:V→M Bool} {xe:V→M V} (htest:∀ C oC v rv m,NsObj oC m→m x=some rv→∀ W,KX (a.blk C oC v rv) exc (compEnvC scope cl C a.env) W ifs (xt v))
  (helt:∀ C oC v rv m,NsObj oC m→m x=some rv→∀ W,EX (a.blk C oC v rv) exc (compEnvC scope cl C a.env) W elt (xe v))
  {fuel:Nat} (hf:fuel≤100000) {r:Option V×St} (e:iG nx xt xe fuel 0 [] σ=some r) {RR:Value→Addr→Result→Shared→Prop} {E:Value→Shared→Prop}
  (hRR:CpEnd a W s r RR) :
  wpAny (model prog w) a.A (newList []) (fun acc s₃=>wpAny (model prog w) a.A (newFunctionEnv scope a.env.globals cl [] a.env.qual none .none (some a.env)) (fun cenv s₄ =>
   codeAny (model prog w) a.A (.compStart (.ListComp elt [⟨.Name x px,iter,ifs,0⟩] scope pos) 0 (.ref I) acc { cenv with scope:=relabel scope a.env }) (RR acc cenv.locals) s₄) E s₃) E s:=by
 walk_at "a"
 refine wpAny_newObj_type (wpAny_newFunctionEnv hcell (by intro y hy;simp at hy) (fun h₁ hns₁ hsb₁=>?_) hkind)
 dsimp only at hns₁ hsb₁ ⊢
 generalize hH2:s.heap.push { cls:=.type "list",dict:=none,data:=.seq ([]:List Value).toArray }=H2 at hns₁ hsb₁ ⊢
 have hC:H2.objs.size=s.heap.objs.size+1:=by rw [← hH2,Heap.size_push]
 have hDC:s.heap.objs.size≠H2.objs.size:=by rw [hC];exact Nat.ne_of_lt (Nat.lt_succ_self _)
 have below:∀ b,b<s.heap.objs.size→b≠H2.objs.size∧b≠s.heap.objs.size:=fun b hb=>⟨by rw [hC];exact Nat.ne_of_lt (Nat.lt_succ_of_lt hb),Nat.ne_of_lt hb⟩
 have old:∀ b o,s.heap.get? b=some o→h₁.get? b=some o:=fun b o e=>hsb₁.extBut b o (below b (Heap.lt_size e)).1 (Heap.get?_push_of_some _ (hH2▸Heap.get?_push_of_some _ e))
 have hacc:h₁.get? s.heap.objs.size=some (lst []):=hsb₁.extBut _ _ hDC (Heap.get?_push_of_some _ (hH2▸Heap.get?_push_size _ rfl))
 obtain ⟨m0,Fm0,_⟩:=F.fr
 have hLlt:a.L<s.heap.objs.size:=by
  obtain ⟨o,_,_,ho,_⟩:=Fm0.ns
  exact Heap.lt_size ho
 have fresh:∀ b,s.heap.objs.size≤b→gg.get? b=none:=fun b hb=>by
  cases q:gg.get? b with
  | none=>rfl
  | some o=>exact absurd (Heap.lt_size (Fm0.keep b o q)) (Nat.not_lt.mpr hb)
 have g0:∀ b,gg.get? b=none→a.g.get? b=none:=fun b hb=>by
  cases q:a.g.get? b with
  | none=>rfl
  | some o=>obtain ⟨sl,hs⟩:=tt.up q;rw [hb] at hs;cases hs
 generalize hDe:s.heap.objs.size=D at *
 generalize hCe:H2.objs.size=C at *
 have hDg:=g0 D (fresh D (Nat.le_refl _))
 have hCg:=g0 C (fresh C (by rw [hC];exact Nat.le_succ _))
 have hIg0:=g0 I hIg
 have hDL:a.L≠D:=(below _ hLlt).2
 have hCL:a.L≠C:=(below _ hLlt).1
 have hID:I≠D:=(below _ hIlt).2
 have hIC:I≠C:=(below _ hIlt).1
 have F1:FS (a.at gg tt) h₁ W σ:=F.keep old
 have hst₁:Sx 0 h₁:=J.frame 0 s.heap h₁ gg tt W σ gg tt W σ F F1 (Ext.refl W) (Ext.refl W) hst fun o ho=>old _ o ho
 have cc:CpC a W I C D:=⟨hwv,fun p hp=>⟨hI0 p hp,(below _ (hDe▸F.inv.lt hp)).1,(below _ (hDe▸F.inv.lt hp)).2⟩,fun k hk q=>by
  obtain ⟨o,ho⟩:=F.inv.hdn.1 k hk
  have hb:=below _ (hDe▸F.inv.lt ho)
  have z:∀ x∈[I,C,D],k≠x:=mem3 (hI0 _ ho) hb.1 hb.2
  exact z k q rfl,hIL,hCL,hDL,hID,hIC,hDC,hIg0,hCg,hDg⟩
 have loop:=cp_loop (px:=px) (pos:=pos) (iter:=iter) (s:=s) cc J hkind hx htest helt hRR fuel { s with heap:=h₁,toks:=s.toks+([]:List (Str×Value)).length } ⟨0,W,σ,h₁,_,[],[],gg,tt,rfl,⟨F1,Ext.refl W,cc.n,hst₁,⟨_,hns₁⟩,hacc⟩,.nil,by simpa using hf,e⟩
 exact codeAny_compStart_list loop (J.self 0 _ _ _ hst₁ loop)
 walk_at "z"
end
end Mine
end
section
open PyProof.Rows.LCg (NsObj ns_obj lst lst_snoc)
namespace Mine
section
variable {prog:Program}{w:World}{K:Frag}{a:Act prog w K}{exc:Value}{W:Wd}{env:Env}
noncomputable def SrcX (a:Act prog w K)(nxs:St→V→Option (Nat→St→Option (Option V))):Prop:=∀ (gg:Heap) (tt:KtsTurn a.fs a.g gg) (s:Shared) (W:Wd) (σ:St) (v:V) (rv:Value) (nx:Nat→St→Option (Option V)),FS (a.at gg tt) s.heap W σ→VR w.params W v rv→nxs σ v=some nx →
 ∀ (Q:Value→Shared→Prop) (E:Value→Shared→Prop),(∀ h' I Sx tk,(∀ x o,s.heap.get? x=some o→h'.get? x=some o)→s.heap.get? I=none→Nexts a W I nx Sx→Sx 0 h'→Q (.ref I) { s with heap:=h',toks:=tk })→wpAny (model prog w) a.A (pyIter rv) Q E s
noncomputable def nxsOf (its:St→V→Option (List V))(σ:St)(v:V):Option (Nat→St→Option (Option V)):=match its σ v with
 | some items=>some fun i _=>if i≤items.length then some items[i]? else none
 | none=>none
theorem src_iter {its:St→V→Option (List V)}(hI:IterX a its):SrcX a (nxsOf its):=by
 walk_at "a"
 intro gg tt s W σ v rv nx F hv e Q E k
 unfold nxsOf at e
 split at e
 ·rename_i items q
  cases e
  exact hI gg tt s W σ v rv items F hv q Q E fun h' I fp P Sx tk hk hI0 J=>k h' I Sx tk hk hI0 J.nexts J.start
 ·cases e
 walk_at "z"
noncomputable def nxsOwn (σ:St)(v:V):Option (Nat→St→Option (Option V)):=match v with
 | .obj j=>(match σ.H[j]? with | some (.list _)=>some (nxOwn j) | _=>none)
 | _=>none
theorem src_own (hh:a.A.handled=none):SrcX a nxsOwn:=by
 walk_at "a"
 intro gg tt s W σ v rv nx F hv e Q E k
 unfold nxsOwn at e
 split at e
 ·cases hv with
  | obj hi =>
  split at e
  ·rename_i us q
   cases e
   obtain ⟨ax,rs,n,k1,k2,k3,k4⟩:=F.inv.ob _ _ q
   rw [hi] at k1
   cases k1
   have hl:=F.inv.isList k3
   have hfresh:s.heap.get? s.heap.objs.size=none:=Heap.get?_none_of_le (Nat.le_refl _)
   exact wpAny_pyIter_list hl (k _ _ _ s.toks (fun y o h=>Heap.get?_push_of_some _ h) hfresh (nexts_own hh hi (F.fresh _ k3)) ⟨_,Heap.get?_push_size _ rfl,rfl,rfl⟩)
  ·cases e
 ·cases e
 walk_at "z"
theorem src_facts {gg:Heap}{tt:KtsTurn a.fs a.g gg}{s:Shared}{σ:St}(F:FS (a.at gg tt) s.heap W σ){I:Addr}(hI0:s.heap.get? I=none):(∀ p∈W.N,p.1≠I)∧a.L≠I∧gg.get? I=none:=by
 walk_at "a"
 obtain ⟨m,Fm,hm⟩:=F.fr
 refine ⟨fun p hp e=>?_,fun e=>?_,?_⟩
 ·have:=(F.inv.news p hp).1;rw [e,hI0] at this;cases this
 ·obtain ⟨o,_,_,ho,_⟩:=Fm.ns
  have ho:s.heap.get? a.L=some o:=ho
  rw [e,hI0] at ho;cases ho
 ·cases q:gg.get? I with
  | none=>rfl
  | some o=>have:=Fm.keep I o q;rw [hI0] at this;cases this
 walk_at "z"
section
variable {elt iter:Expr}{ifs:List Expr}{x:Str}{px pos:Pos}{scope:Scope}{cl:List (Str×Addr)}
noncomputable def lcM (xi:M V)(nxs:St→V→Option (Nat→St→Option (Option V)))(xt:V→M Bool)(xe:V→M V):M V :=
 xi.bind fun v=>fun σ=>match nxs σ v with | some nx=>iG nx xt xe 1000 0 [] σ | none=>none
theorem e_ListComp (hwv:∀ {W W':Wd},dJ W W'→a.wp W→a.wp W'){nxs:St→V→Option (Nat→St→Option (Option V))}(hI:SrcX a nxs)
  (hclos:closureFor scope a.env=pure cl) (hcell:∀ y∈scope.names,y.2≠.cell) (hkind:scope.kind=.function) (hnames:∀ y∈scope.names,y.2=.local→scope.names.lookup y.1=some .local) (hx:scope.names.lookup x=some .local)
  (hs:∀ x,foldedSetIterable iter a.env x=pure x) {xi:M V} {xt:V→M Bool} {xe:V→M V} (hi:∀ W,EX a exc a.env W iter xi)
  (htest:∀ C oC v rv m,NsObj oC m→m x=some rv→∀ W,KX (a.blk C oC v rv) exc (compEnvC scope cl C a.env) W ifs (xt v))
  (helt:∀ C oC v rv m,NsObj oC m→m x=some rv→∀ W,EX (a.blk C oC v rv) exc (compEnvC scope cl C a.env) W elt (xe v)) (W:Wd) :
  EX a exc a.env W (.ListComp elt [⟨.Name x px,iter,ifs,0⟩] scope pos) (lcM xi nxs xt xe):=by
 walk_at "a"
 refine (aK.bind (hi W) (U:=fun v Q E s=>wpAny (model prog w) a.A (pyIter v) (fun it s₂=>wpAny (model prog w) a.A (newList []) (fun acc s₃=>wpAny (model prog w) a.A (newFunctionEnv scope a.env.globals cl [] a.env.qual none .none (some a.env)) (fun cenv s₄ =>
   codeAny (model prog w) a.A (.compStart (.ListComp elt [⟨.Name x px,iter,ifs,0⟩] scope pos) 0 it acc { cenv with scope:=relabel scope a.env }) (compPost (model prog w) a.A E none Q acc cenv.locals) s₄) E s₃) E s₂) E s) fun W1 x1 v rv hv=>?_).imp fun Q E s z=>by
  rw [eval_ListComp]
  exact wpAny_comprehension_free (use:=none) rfl hs hclos hkind hnames z
 constructor;intro s σ r FF e Q E T
 try dsimp only at e
 cases q:nxs σ v with
 | none=>rw [q] at e;cases e
 | some nx =>
 rw [q] at e
 try dsimp only at e
 obtain ⟨gg,tt,F⟩:=FF
 refine hI gg tt s W1 σ v rv nx F hv q _ _ fun h' I Sx tk hk hI0 J hst=>?_
 obtain ⟨k1,k2,k3⟩:=src_facts F hI0
 obtain ⟨oI,hoI,_⟩:=J.obj 0 h' hst
 refine block_M (RR:=fun acc C=>compPost (model prog w) a.A E none Q acc C) hwv (F.keep hk) k1 k2 k3 (Heap.lt_size hoI) J hst hcell hkind hx htest helt (by decide) e ?_
 intro D C h tk2 W' m' G' t' ys σ1 er F' X' hv' hn hCN hCL hCg
 subst er
 exact ⟨m',hn,fun h'' hs''=>T h'' tk2 W' _ ⟨G',t',F'.but hCN hCL hCg fun b o hb e=>hs''.extBut b o (fun q=>hb (by rw [show b=C from q];simp)) e⟩ X' hv'⟩
 walk_at "z"
theorem s_AssignListComp (hwv:∀ {W W':Wd},dJ W W'→a.wp W→a.wp W'){nxs:St→V→Option (Nat→St→Option (Option V))}(hI:SrcX a nxs){y:Str}{k:Nat}{py spos:Pos}
  (hsw:swapsWith (.ListComp elt [⟨.Name x px,iter,ifs,0⟩] scope pos) (some (.Name y py)) spos.line a.env=pure true) (hk:a.nm[k]? = some y) (hy:a.sc.names.lookup y=some .local)
  (hclos:closureFor scope a.env=pure cl) (hcell:∀ y∈scope.names,y.2≠.cell) (hkind:scope.kind=.function) (hnames:∀ y∈scope.names,y.2=.local→scope.names.lookup y.1=some .local) (hx:scope.names.lookup x=some .local)
  (hs:∀ x,foldedSetIterable iter a.env x=pure x) {xi:M V} {xt:V→M Bool} {xe:V→M V} (hi:∀ W,EX a exc a.env W iter xi)
  (htest:∀ C oC v rv m,NsObj oC m→m x=some rv→∀ W,KX (a.blk C oC v rv) exc (compEnvC scope cl C a.env) W ifs (xt v))
  (helt:∀ C oC v rv m,NsObj oC m→m x=some rv→∀ W,EX (a.blk C oC v rv) exc (compEnvC scope cl C a.env) W elt (xe v)) (W:Wd) :
  SX a exc a.env W (.Assign [.Name y py] (.ListComp elt [⟨.Name x px,iter,ifs,0⟩] scope pos) spos) (gY (lcM xi nxs xt xe) fun v=>(aJ k v).bind fun _=>M.ret .next):=by
 walk_at "a"
 have hcalm:gY (lcM xi nxs xt xe) (fun v=>(aJ k v).bind fun _=>M.ret Fl.next)=fun σ=>match xi σ with
   | some (some v,σ0)=>(match nxs σ0 v with | some nx=>gY (iG nx xt xe 1000 0 []) (fun v=>(aJ k v).bind fun _=>M.ret Fl.next) σ0 | none=>none)
   | _=>none:=by
  funext σ
  unfold gY lcM M.bind
  cases q:xi σ with
  | none=>rfl
  | some r =>
   obtain ⟨v,σ0⟩:=r
   cases v with
   | none=>rfl
   | some v=>cases q2:nxs σ0 v<;>simp [q2]
 rw [hcalm]
 have go:aK a exc W (fun (Q:Flow→Shared→Prop) E s=>wpAny (model prog w) a.A (eval iter a.env) (fun v s₁=>wpAny (model prog w) a.A (pyIter v) (fun it s₂=>wpAny (model prog w) a.A (newList []) (fun acc s₃=>wpAny (model prog w) a.A (newFunctionEnv scope a.env.globals cl [] a.env.qual none .none (some a.env)) (fun cenv s₄ =>
   codeAny (model prog w) a.A (.compStart (.ListComp elt [⟨.Name x px,iter,ifs,0⟩] scope pos) 0 it acc { cenv with scope:=relabel scope a.env }) (compPost (model prog w) a.A E (some (assign (.Name y py) a.env)) (fun _ s'=>Q Flow.next s') acc cenv.locals) s₄) E s₃) E s₂) E s₁) E s)
   (xi.bind fun v=>fun σ=>match nxs σ v with | some nx=>gY (iG nx xt xe 1000 0 []) (fun v=>(aJ k v).bind fun _=>M.ret Fl.next) σ | none=>none) (FlRw w):=by
  refine aK.bind (hi W) (U:=fun v (Q:Flow→Shared→Prop) E s=>wpAny (model prog w) a.A (pyIter v) (fun it s₂=>wpAny (model prog w) a.A (newList []) (fun acc s₃=>wpAny (model prog w) a.A (newFunctionEnv scope a.env.globals cl [] a.env.qual none .none (some a.env)) (fun cenv s₄ =>
   codeAny (model prog w) a.A (.compStart (.ListComp elt [⟨.Name x px,iter,ifs,0⟩] scope pos) 0 it acc { cenv with scope:=relabel scope a.env }) (compPost (model prog w) a.A E (some (assign (.Name y py) a.env)) (fun _ s'=>Q Flow.next s') acc cenv.locals) s₄) E s₃) E s₂) E s) fun W1 x1 v rv hv=>?_
  constructor;intro s σ r FF e Q E T
  try dsimp only at e
  cases q:nxs σ v with
  | none=>rw [q] at e;cases e
  | some nx =>
  rw [q] at e
  try dsimp only at e
  cases q0:iG nx xt xe 1000 0 [] σ with
  | none=>unfold gY at e;rw [q0] at e;cases e
  | some r0 =>
  obtain ⟨gg,tt,F⟩:=FF
  refine hI gg tt s W1 σ v rv nx F hv q _ _ fun h' I Sx tk hk' hI0 J hst=>?_
  obtain ⟨k1,k2,k3⟩:=src_facts F hI0
  obtain ⟨oI,hoI,_⟩:=J.obj 0 h' hst
  refine block_M (RR:=fun acc C=>compPost (model prog w) a.A E (some (assign (.Name y py) a.env)) (fun _ s'=>Q Flow.next s') acc C) hwv (F.keep hk') k1 k2 k3 (Heap.lt_size hoI) J hst hcell hkind hx htest helt (by decide) q0 ?_
  intro D C h tk2 W' m' G' t' ys σ1 er F' X' hv' hn hCN hCL hCg
  subst er
  unfold gY at e
  rw [q0] at e
  have e:((aJ k (.lst ys)).bind fun _=>M.ret Fl.next) σ1=some r:=e
  obtain ⟨oC,heC,hoC⟩:=ns_obj hn
  have hl:∀ p∈[(C,oC)],h.get? p.1=some p.2∧(a.at G' t').L≠p.1∧(a.at G' t').g.get? p.1=none∧∀ q∈W'.N,q.1≠p.1:=fun p hp=>by
   rw [List.mem_singleton.mp hp];exact ⟨heC,hCL,hCg,hCN⟩
  have XH:dJ W' (W'.hide [(C,oC)]):=hide_v fun p hp=>(hl p hp).2.2.2
  have F2:FS (a.at G' t') h (W'.hide [(C,oC)]) σ1:=F'.hide hl (by simp) (hwv XH F'.cells)
  have s1:=(iR (p:=py) (exc:=exc) hk hy) (W'.hide [(C,oC)]) (.lst ys) (.ref D) (VR.extV XH hv')
  cases q1:aJ k (.lst ys) σ1 with
  | none=>rw [M.bind_stuck q1] at e;cases e
  | some r1 =>
  obtain ⟨u,σ2⟩:=r1
  cases u with
  | none=>unfold aJ at q1;split at q1<;>cases q1
  | some u =>
  rw [M.bind_val q1] at e
  cases e
  have nδ:C∉(W'.hide [(C,oC)]).δ:=fun hd=>by
   have hd:C∈W'.δ:=hd
   obtain ⟨j,hj,ej⟩:=List.mem_iff_getElem.mp hd
   obtain ⟨o,ho⟩:=F'.inv.in (i:=j) (by rw [List.getElem?_eq_getElem hj,ej])
   exact hCN _ ho rfl
  refine s1.go { s with heap:=h,toks:=tk2 } σ1 _ ⟨G',t',F2⟩ q1 _ _ ?_
  intro h3 tk3 W3 y3 F3 X3 _
  obtain ⟨G3,t3,F3⟩:=F3
  obtain ⟨kC,kC'⟩:=X3.keep (C,oC) (.head _) nδ
  have hh:W3.hd=[C]++W1.hd:=by rw [X3.hid];show [C]++W'.hd=_;rw [X'.hid]
  have XS:dJ W3 (W3.show [C] W1.hd):=show_v hh
  have hk0:∀ k∈W1.hd,k∉[C]:=fun k hk q=>by
   rw [List.mem_singleton.mp q] at hk
   obtain ⟨o,ho⟩:=F'.inv.hdn.1 C (by rw [X'.hid];exact hk)
   exact hCN _ ho rfl
  have F4:FS (a.at G3 t3) h3 (W3.show [C] W1.hd) σ2:=F3.show hh (fun p hp hk=>by
   have:(C,p.2)∈W3.N:=by rw [← List.mem_singleton.mp hk];exact hp
   rw [hO F3.inv.nd this kC];exact ns_noInst hoC) hk0 (hwv XS F3.cells)
  refine ⟨_,hoC.ns (F3.inv.news _ kC).1,fun h4 hs4=>?_⟩
  have F5:FS (a.at G3 t3) h4 (W3.show [C] W1.hd) σ2:=F4.but (fun p hp=>by simpa using (List.mem_filter.mp hp).2) hCL (by
   have:a.g.get? C=none:=by
    cases q:a.g.get? C with
    | none=>rfl
    | some o=>obtain ⟨sl,hs⟩:=t'.up q;rw [hCg] at hs;cases hs
   exact t3.none_ _ this) fun b o hb e=>hs4.extBut b o (fun q=>hb (by rw [show b=C from q];simp)) e
  refine T h4 tk3 (W3.show [C] W1.hd) _ ⟨G3,t3,F5⟩ ⟨fun p hp hd=>?_,fun j x h=>X3.ids j x (X'.ids j x h),rfl⟩ .next
  obtain ⟨j1,j2⟩:=X'.keep p hp hd
  obtain ⟨j3,j4⟩:=X3.keep p (List.mem_append_right _ j1) j2
  exact ⟨List.mem_filter.mpr ⟨j3,by simpa using hCN p j1⟩,j4⟩
 have go':aK a exc W (fun (Q:Flow→Shared→Prop) E s=>wpAny (model prog w) a.A (exec (.Assign [.Name y py] (.ListComp elt [⟨.Name x px,iter,ifs,0⟩] scope pos) spos) a.env) Q E s)
   (xi.bind fun v=>fun σ=>match nxs σ v with | some nx=>gY (iG nx xt xe 1000 0 []) (fun v=>(aJ k v).bind fun _=>M.ret Fl.next) σ | none=>none) (FlRw w):=go.imp fun Q E s z=>by
  rw [exec_Assign_Name_used _ _ _ _ hsw]
  refine wpAny_bind (wpAny_standAt (wpAny_bind ?_))
  show wpAny _ a.A (do let _ ← comprehension (.ListComp elt [⟨.Name x px,iter,ifs,0⟩] scope pos) scope a.env _ (newList []) false (eval iter a.env) (some (assign (.Name y py) a.env))) _ _ s
  exact wpAny_bind (wpAny_mono (wpAny_comprehension_free (use:=some (assign (.Name y py) a.env)) (Q:=fun _ s'=>Q .next s') rfl hs hclos hkind hnames z) (fun _ s' hq=>wpAny_pure (wpAny_pure hq)) fun _ _ e=>e)
 constructor;intro s σ r F e
 refine go'.go s σ r F ?_
 unfold M.bind
 try dsimp only at e
 revert e
 cases q:xi σ with
 | none=>intro e;cases e
 | some r0 =>
  obtain ⟨v,σ0⟩:=r0
  cases v with
  | none=>intro e;cases e
  | some v=>exact id
 walk_at "z"
end
end
end Mine
end
section
open PyProof.Rows.LCg (NsObj ns_obj lst lst_snoc)
namespace Mine
theorem fB {env:Env}:∀ {names:List (Str×NameKind)} {x:Str} {kd:NameKind},kd≠.free→names.lookup x=some kd →
  (names.map fun (n,k)=>if (k==NameKind.free&&env.scope.kind==.function&&env.kindOf n==some .cell) then (n,NameKind.cell) else (n,k)).lookup x=some kd
 | [],_,_,_,h=>by simp at h
 | (n,k)::r,x,kd,hk,h=>by
  walk_at "a"
  have ih:=@fB env r x kd hk
  show List.lookup x ((if (k==NameKind.free&&env.scope.kind==.function&&env.kindOf n==some .cell)=true then (n,NameKind.cell) else (n,k))::_)=_
  cases hx:x==n with
  | true =>
   simp only [List.lookup_cons,hx] at h
   cases h
   have:(k==NameKind.free)=false:=by cases k<;>first | rfl | exact absurd rfl hk
   simp [List.lookup_cons,hx,this]
  | false =>
   simp only [List.lookup_cons,hx] at h
   by_cases hc:(k==NameKind.free&&env.scope.kind==.function&&env.kindOf n==some .cell)=true
   ·rw [if_pos hc];simp only [List.lookup_cons,hx];exact ih h
   ·rw [if_neg hc];simp only [List.lookup_cons,hx];exact ih h
  walk_at "z"
theorem lookup_relabel_cell {env:Env}(h1:env.scope.kind=.function){x:Str}(h2:env.kindOf x=some .cell):∀ {names:List (Str×NameKind)},names.lookup x=some .free →
  (names.map fun (n,k)=>if (k==NameKind.free&&env.scope.kind==.function&&env.kindOf n==some .cell) then (n,NameKind.cell) else (n,k)).lookup x=some .cell
 | [],h=>by simp at h
 | (n,k)::r,h=>by
  walk_at "a"
  have ih:=@lookup_relabel_cell env h1 x h2 r
  show List.lookup x ((if (k==NameKind.free&&env.scope.kind==.function&&env.kindOf n==some .cell)=true then (n,NameKind.cell) else (n,k))::_)=_
  cases hx:x==n with
  | true =>
   simp only [List.lookup_cons,hx] at h
   cases h
   have hn:x=n:=beq_iff_eq.mp hx
   subst hn
   have h1':(env.scope.kind==ScopeKind.function)=true:=by rw [h1];rfl
   simp [List.lookup_cons,h1',h2]
  | false =>
   simp only [List.lookup_cons,hx] at h
   by_cases hc:(k==NameKind.free&&env.scope.kind==.function&&env.kindOf n==some .cell)=true
   ·rw [if_pos hc];simp only [List.lookup_cons,hx];exact ih h
   ·rw [if_neg hc];simp only [List.lookup_cons,hx];exact ih h
  walk_at "z"
noncomputable def cV (i:Nat):M V:=fun σ=>match σ.H[i]? with | some (.cell (some v))=>some (some v,σ) | _=>none
noncomputable def setCell (i:Nat)(v:V):M Unit:=fun σ=>match σ.H[i]? with | some (.cell _)=>some (some (),{ σ with H:=σ.H.set i (.cell (some v)) }) | _=>none
section
variable {prog:Program}{w:World}{K:Frag}{a:Act prog w K}{exc:Value}{W:Wd}{env:Env}{scope:Scope}{cl:List (Str×Addr)}
section
variable {C:Addr}{oC:Obj}{v:V}{rv:Value}{m:Str→Option Value}
theorem c_local {x:Str}{pos:Pos}(hoC:NsObj oC m)(hm:m x=some rv)(hk:scope.kind=.function)(hx:scope.names.lookup x=some .local)(hd:(x==("__debug__":Str))=false)(W:Wd) :
  EX (a.blk C oC v rv) exc (compEnvC scope cl C a.env) W (.Name x pos) (M.ret v) :=
 aK.here fun gg tt s σ F Q E k=>wpAny_Name (wpAny_loadName_local (env:=compEnvC scope cl C a.env) hk (fB (by decide) hx) (hoC.ns (F.inv.news _ F.cells.2.1).1) hm (k rv s.toks F.cells.2.2.2)) hd
theorem c_glob {x:Str}{pos:Pos}{u:Value}{vv:V}(e:nsIn K mainGlobals x=some (some u))(hv:∀ W,VR w.params W vv u)(hk:scope.kind=.function)(hx:scope.names.lookup x=some .globalImplicit)(hd:(x==("__debug__":Str))=false)(W:Wd) :
  EX (a.blk C oC v rv) exc (compEnvC scope cl C a.env) W (.Name x pos) (M.ret vv):=by
 walk_at "a"
 exact 
  aK.here fun gg tt s σ F Q E k=>by
   obtain ⟨m,Fm,_⟩:=F.fr
   exact Calls.Name_function_global (env:=compEnvC scope cl C a.env) hk (fB (by decide) hx) (Calls.loadGlobal_global (env:=compEnvC scope cl C a.env) (((a.blk C oC v rv).at gg tt).T.g.keeps Fm.keep) (mg_of ((a.blk C oC v rv).at gg tt).X ((a.blk C oC v rv).at gg tt).T.g e) (k u s.toks (hv W))) hd
 walk_at "z"
theorem c_builtin {x:Str}{pos:Pos}{u:Value}{vv:V}(e:nsIn K mainGlobals x=some none)(hb:bootBuiltins x=some u)(hv:∀ W,VR w.params W vv u)(hn:x≠"__name__")(hk:scope.kind=.function)(hx:scope.names.lookup x=some .globalImplicit)(hd:(x==("__debug__":Str))=false)(W:Wd) :
  EX (a.blk C oC v rv) exc (compEnvC scope cl C a.env) W (.Name x pos) (M.ret vv):=by
 walk_at "a"
 exact 
  aK.here fun gg tt s σ F Q E k=>by
   obtain ⟨m,Fm,_⟩:=F.fr
   exact Calls.Name_function_global (env:=compEnvC scope cl C a.env) hk (fB (by decide) hx) (Calls.loadGlobal_builtin (env:=compEnvC scope cl C a.env) (((a.blk C oC v rv).at gg tt).T.g.keeps Fm.keep) (mg_none_of ((a.blk C oC v rv).at gg tt).X ((a.blk C oC v rv).at gg tt).T.g e) (((a.blk C oC v rv).at gg tt).T.b.keeps Fm.keep) ((((a.blk C oC v rv).at gg tt).T.builtins x hn).trans hb) (k u s.toks (hv W))) hd
 walk_at "z"
theorem c_cell {x:Str}{pos:Pos}{i:Nat}{c:Addr}(hc:cl.lookup x=some c)(hw:∀ W,a.wp W→W.μ[i]? = some c)(hk:scope.kind=.function)(hx:scope.names.lookup x=some .free)(hx':a.sc.names.lookup x=some .cell)(hd:(x==("__debug__":Str))=false)(W:Wd) :
  EX (a.blk C oC v rv) exc (compEnvC scope cl C a.env) W (.Name x pos) (cV i):=by
 walk_at "a"
 constructor;intro s σ r FF e Q E TT
 obtain ⟨gg,tt,F⟩:=FF
 have T:=TT.at (G:=gg) (t:=tt)
 unfold cV at e
 split at e
 ·rename_i u q
  cases e
  obtain ⟨c',o,k1,k2,k3,rr,k4,k5⟩:=F.inv.ob _ _ q
  have hw':W.μ[i]? = some c:=hw W F.cells.1
  rw [hw'] at k1;cases k1
  obtain ⟨z,rfl,hz⟩:=k5 u rfl
  exact wpAny_Name (wpAny_loadName_cell (env:=compEnvC scope cl C a.env) hk (lookup_relabel_cell (env:=a.env) a.hk hx' hx) hc ⟨o,(F.inv.news _ k3).1,k4⟩ (T s.heap s.toks W z F (Ext.refl W) hz)) hd
 ·cases e
 walk_at "z"
end
theorem e_cell {x:Str}{pos:Pos}{i:Nat}{c:Addr}(hc:a.cl.lookup x=some c)(hw:∀ W,a.wp W→W.μ[i]? = some c)(hx:a.sc.names.lookup x=some .cell)(hd:(x==("__debug__":Str))=false)(W:Wd) :
  EX a exc a.env W (.Name x pos) (cV i):=by
 walk_at "a"
 constructor;intro s σ r FF e Q E TT
 obtain ⟨gg,tt,F⟩:=FF
 have T:=TT.at (G:=gg) (t:=tt)
 unfold cV at e
 split at e
 ·rename_i u q
  cases e
  obtain ⟨c',o,k1,k2,k3,rr,k4,k5⟩:=F.inv.ob _ _ q
  have hw':W.μ[i]? = some c:=hw W F.cells
  rw [hw'] at k1;cases k1
  obtain ⟨z,rfl,hz⟩:=k5 u rfl
  exact wpAny_Name (wpAny_loadName_cell (env:=a.env) a.hk hx hc ⟨o,(F.inv.news _ k3).1,k4⟩ (T s.heap s.toks W z F (Ext.refl W) hz)) hd
 ·cases e
 walk_at "z"
theorem s_storeCell {x:Str}{i:Nat}{c:Addr}{v:V}{rv:Value}(hc:a.cl.lookup x=some c)(hw:∀ W,a.wp W→W.μ[i]? = some c)(hx:a.sc.names.lookup x=some .cell)(hv:VR w.params W v rv):Snd a exc W (storeName a.env x rv) (setCell i v) EqR:=by
 walk_at "a"
 constructor;intro s σ r FF e Q E TT
 obtain ⟨gg,tt,F⟩:=FF
 have T:=TT.at (G:=gg) (t:=tt)
 unfold setCell at e
 split at e
 ·rename_i u q
  cases e
  obtain ⟨c',o,k1,k2,k3,rr,k4,k5⟩:=F.inv.ob _ _ q
  have hw':W.μ[i]? = some c:=hw W F.cells
  rw [hw'] at k1;cases k1
  obtain ⟨m,Fm,hm⟩:=F.fr
  have hmem:=F.inv.news _ k3
  refine wpAny_storeName_cell (env:=a.env) a.hk hx hc ⟨o,hmem.1,k4⟩ fun h' hcv hs=>?_
  obtain ⟨o',ho',hd'⟩:=hcv
  have hd:c∈W.δ:=List.mem_of_getElem? k2
  have X:=Ext.set (o:=o') hd
  have Fm':Fr gg a.L h' m:=⟨Fm.ns.sameBut hs (Ne.symm hmem.2.1),fun b ob e=>(hs.2 b (fun q=>by
   have h2:gg.get? c=none:=hmem.2.2
   rw [q,h2] at e;cases e)).trans (Fm.keep b ob e),Fm.above⟩
  have N':News gg a.L h' (setN c o' W.N):=fun p hp=>by
   obtain ⟨q,hq,rfl⟩:=List.mem_map.mp hp
   split
   ·exact ⟨ho',hmem.2⟩
   ·rename_i hne
    exact ⟨hs.extBut _ _ hne (F.inv.news q hq).1,(F.inv.news q hq).2⟩
  refine T h' s.toks (W.set c o') () (F.to hm Fm' X (F.inv.set k2 k3 (fun C dx e=>by rw [e] at k4;cases k4) N' ?_)) X rfl
  exact ⟨c,o',hw',k2,mem_setN_self k3,some rv,hd',fun u e=>by cases e;exact ⟨rv,rfl,hv.ext X⟩⟩
 ·cases e
 walk_at "z"
theorem s_AssignCell {x:Str}{i:Nat}{c:Addr}{p:Pos}{value:Expr}{pos:Pos}{y:M V}(h:∀ W,EX a exc a.env W value y)(hc:a.cl.lookup x=some c)(hw:∀ W,a.wp W→W.μ[i]? = some c)(hx:a.sc.names.lookup x=some .cell)(hs:swapsWith value (some (.Name x p)) pos.line a.env=pure false)(W:Wd) :
  SX a exc a.env W (.Assign [.Name x p] value pos) (y.bind fun v=>(setCell i v).bind fun _=>M.ret .next) :=
 (aK.bind (h W) fun W1 x1 v rv hv=>aK.next (s_storeCell hc hw hx hv)).imp fun _ _ _ z=>wpAny_Assign_Name z hs
end
theorem bindL_all {kindOf:Str→Option NameKind}{x:Str}:∀ {binds:List (Str×Value)} {m:Str→Option Value},(∀ b∈binds,kindOf b.1=some .local)→(binds.map (·.1)).Nodup→bindL kindOf binds m x=match binds.lookup x with | some v=>some v | none=>m x
 | [],m,_,_=>rfl
 | (n,v)::r,m,h,hn=>by
  walk_at "a"
  rw [List.map_cons,List.nodup_cons] at hn
  unfold bindL
  rw [if_pos (h (n,v) (.head _)),bindL_all (fun b hb=>h b (.tail _ hb)) hn.2]
  by_cases q:x=n
  ·subst q
   have:r.lookup x=none:=by
    cases e:r.lookup x with
    | none=>rfl
    | some v =>
     exact absurd (by
      obtain ⟨l1,l2,h1,h2⟩:=List.lookup_eq_some_iff.mp e
      rw [h1];simp) hn.1
   rw [this]
   simp [List.lookup]
  ·have q':(x==n)=false:=beq_eq_false_iff_ne.mpr q
   simp only [List.lookup,q',if_neg q]
  walk_at "z"
theorem bindC_all {kindOf:Str→Option NameKind}:∀ {binds:List (Str×Value)} {m:Str→Option Value},(∀ b∈binds,kindOf b.1=some .local)→bindC kindOf binds m=m
 | [],m,_=>rfl
 | (n,v)::r,m,h=>by
  walk_at "a"
  unfold bindC
  rw [if_pos (h (n,v) (.head _)),bindC_all fun b hb=>h b (.tail _ hb)]
  walk_at "z"
section
variable {prog:Program}{w:World}{K:Frag}{exc:Value}{sl:Addr}{sn:List Int}{Γ:CT}{n:Nat}
theorem def_okC {f:Addr}{qual:Str}{params:Arguments}{body:List Stmt}{sc:Scope}(D:dG K f qual params body sc){cx:Str}(hcf:∀ L,cellsFrom (L+1) sc.names []=[(cx,L+1)]){nm pn rest:List Str}(hnm:nm=pn++rest)(hn:nm.Nodup)(hloc:∀ y∈pn,sc.names.lookup y=some .local)
  {bv:List V→Option (List V)} (hb:Binds w.params K f pn bv) (G:GOK prog w K exc sl sn Γ n) {x:Nat→M Fl}
  (hbody:∀ (c:Act prog w K) (i:Nat),c.sc=sc→c.nm=nm→c.sl=sl→c.sn=sn→c.cl=[(cx,c.L+1)]→c.wp=(fun W=>W.μ[i]? = some (c.L+1))→c.A.handled=none→COK c exc Γ→∀ W,BX c exc c.env W body (x i))
  {p:List V→List aE→Option (Option V×List aE)}
  (hp:∀ vs H r,p vs H=some r→Meets bv pn.length rest.length (x H.length) vs H (H++[.cell none]) r) :
  GOK prog w K exc sl sn (fun f' vs H=>if f'=f then p vs H else Γ f' vs H) (n+1):=by
 walk_at "a"
 intro a A cal h1 h2 f' vs rs W s σ r FF hv e
 try dsimp only at e
 by_cases q:f'=f
 ·subst q
  rw [if_pos rfl] at e
  refine ⟨D.keep,fun R T=>?_⟩
  obtain ⟨gg,tt,F⟩:=FF
  obtain ⟨hl,bs,hbs,hlen,fl,σ',hx,hCE⟩:=hp vs σ.H r e
  obtain ⟨hC,hE⟩:=hCE.to F.inv.ob (by rw [F.inv.lμ];exact hl)
  obtain ⟨name,dV,kV,doc,pm,an,cdv,ct,oc,od,osl,hK,hcd⟩:=D.at_
  obtain ⟨m,Fm,hm⟩:=F.fr
  have XK:K.In s.heap:=F.kin
  obtain ⟨binds,hbind,hb1,hb2⟩:=hb _ _ _ _ hK s W vs bs rs XK hv hbs
  obtain ⟨FG,BG,st,_⟩:=groundX (R:=R) (env:=a.env) (a.at gg tt).B Fm F.inv.news cal.fr rfl a.hk
  have hroom:A.depth<recursionLimit:=by have:=cal.hd;omega
  have hpn:(binds.map (·.1)).Nodup:=by rw [hb1];rw [hnm] at hn;exact (List.nodup_append.mp hn).1
  have hloc':∀ b∈binds,sc.names.lookup b.1=some .local:=fun y hy=>hloc y.1 (by rw [← hb1];exact List.mem_map_of_mem hy)
  refine codeAny_call_function (fd:=fnOf name qual params body sc dV kV doc pm an cdv ct) (body:=body) hroom (XK _ _ hK) rfl D.co D.gen rfl (codeRec_of XK hcd) (hbind _ _ _ _ ?_)
  refine wpAny_newFunctionEnv_cells D.kind (fun y hy=>.inl (hloc' y hy)) fun env' he s' y=>?_
  subst he
  refine ⟨((a.at gg tt).T.nolimit.keeps Fm.keep).keeps y.toInCall.keep,codeAny_func ?_⟩
  obtain ⟨h₁,tk,rfl,_⟩:=y.done
  have hk₁:=y.toInCall.keep
  have hcl:=hcf s.heap.objs.size
  have hns:=y.toInCall.ns
  have hcell:=y.cell cx (s.heap.objs.size+1) (by show (cellsFrom (s.heap.objs.size+1) sc.names []).lookup cx=_;rw [hcl];simp [List.lookup])
  have hkl:∀ b∈binds,(newEnv sc s.heap.objs.size mainGlobals (cellsFrom (s.heap.objs.size+1) sc.names []) (qual++".<locals>.") (some f') cdv none builtinsNs).kindOf b.1=some .local:=hloc'
  obtain ⟨oc',hoc',hdc'⟩:=hcell
  rw [bindC_all hkl] at hdc'
  let c:Act prog w K:=(a.at gg tt).callee (s:=s) A n qual sc f' cdv nm [(cx,s.heap.objs.size+1)] (fun W=>W.μ[σ.H.length]? = some (s.heap.objs.size+1)) (fun X h=>X.ids _ _ h) ⟨cal.fr,cal.hh,cal.hd,cal.hu⟩ BG D.kind hn
  have hcg:c.g.objs.size=s.heap.objs.size:=hideAll_size _ _
  have hcL:c.g.get? c.L=none:=by
   cases q:c.g.get? c.L with
   | none=>rfl
   | some o=>exact absurd (Heap.lt_size q) (by rw [hcg];exact Nat.lt_irrefl _)
  have hnew:∀ p∈W.N,p.1≠s.heap.objs.size+1:=fun p hp=>Nat.ne_of_lt (Nat.lt_succ_of_lt (F.inv.lt hp))
  have hδ:s.heap.objs.size+1∉W.δ:=fun hp=>Nat.lt_irrefl _ (Nat.lt_trans (Nat.lt_succ_self _) (F.inv.dlt hp))
  have Ic:Inv w.params c.g c.L h₁ W σ.H:=⟨fun p hp=>⟨hk₁ _ _ (F.inv.news p hp).1,Nat.ne_of_lt (F.inv.lt hp),hideAll_none _ (List.mem_map_of_mem hp)⟩,F.inv.nd,F.inv.dn,F.inv.lμ,F.inv.lδ,F.inv.ob,F.inv.hdn⟩
  have Nc:News c.g c.L h₁ ((s.heap.objs.size+1,oc')::W.N):=fun p hp=>by
   rcases List.mem_cons.mp hp with rfl | hp
   ·exact ⟨hoc',Nat.succ_ne_self _,Heap.get?_none_of_le (by rw [hcg];exact Nat.le_succ _)⟩
   ·exact Ic.news p hp
  have kμ:(W.own (s.heap.objs.size+1) oc').μ[σ.H.length]? = some (s.heap.objs.size+1):=by show (W.μ++[_])[_]? = _;rw [← F.inv.lμ];simp
  have kδ:(W.own (s.heap.objs.size+1) oc').δ[σ.H.length]? = some (s.heap.objs.size+1):=by show (W.δ++[_])[_]? = _;rw [← F.inv.lδ];simp
  have XO:Ext W (W.own (s.heap.objs.size+1) oc'):=Ext.own hnew
  have Io:=Ic.own (m:=.cell none) Nc hnew hδ ⟨_,_,kμ,kδ,.head _,none,hdc',fun u e=>nomatch e⟩
  have Fc:FS c h₁ (W.own (s.heap.objs.size+1) oc') ⟨bs.map some++List.replicate rest.length none,σ.H++[.cell none]⟩:=by
   refine ⟨⟨_,⟨hns,fun b o e=>hk₁ b o (of_hideAll _ e),Nat.le_of_eq hcg⟩,fun k x v hk hv=>?_⟩,Io,kμ⟩
   have hk:nm[k]? = some x:=hk
   have hv:(bs.map some++List.replicate rest.length none)[k]? = some (some v):=hv
   by_cases hkl':k<bs.length
   ·rw [List.getElem?_append_left (by simpa using hkl')] at hv
    rw [hnm,List.getElem?_append_left (by rw [← hlen];exact hkl')] at hk
    obtain ⟨r,e1,e2⟩:=lookup_zip hpn hb2 (by rw [hb1];exact hk) (v:=v) (by
     rw [List.getElem?_map] at hv
     obtain ⟨u,e1,e2⟩:=Option.map_eq_some_iff.mp hv
     cases e2;exact e1)
    refine ⟨r,?_,e2.ext XO⟩
    rw [bindL_all hkl hpn,e1]
   ·rw [List.getElem?_append_right (by simpa using hkl')] at hv
    have:=List.mem_of_getElem? hv
    rw [List.mem_replicate] at this
    exact absurd this.2 (by simp)
  have Gc:COK c exc Γ:=G c c.A ⟨c.hA,cal.hh,c.hd,c.hu⟩ h1 h2
  have hb:=(hbody c σ.H.length rfl rfl h1 h2 rfl rfl cal.hh Gc (W.own (s.heap.objs.size+1) oc')).go { s with heap:=h₁,toks:=tk } _ (fl,σ') Fc.up hx
   (fun f s'=>R (.ok (.ret (match f with | .ret v=>v | _=>.none))) s')
   (fun e s'=>wpAny (model prog w) c.A («leaving» c.env e) (fun _ s''=>R (.error e) s'') (fun e' s''=>R (.error e') s'') s') ?_
  ·have henv:newEnv sc s.heap.objs.size mainGlobals (cellsFrom (s.heap.objs.size+1) sc.names []) (qual++".<locals>.") (some f') cdv none builtinsNs=c.env:=by rw [hcl];rfl
   show wpAny _ (A.deeper (newEnv sc s.heap.objs.size mainGlobals (cellsFrom (s.heap.objs.size+1) sc.names []) (qual++".<locals>.") (some f') cdv none builtinsNs)) (execs body (newEnv sc s.heap.objs.size mainGlobals (cellsFrom (s.heap.objs.size+1) sc.names []) (qual++".<locals>.") (some f') cdv none builtinsNs)) _ _ _
   rw [henv]
   exact hb
  have hst:(a.at gg tt).g.StaysIn c.g:=st
  have hLg:∃ o,c.g.get? (a.at gg tt).L=some o:=by obtain ⟨o,_,_,ho,_⟩:=FG.ns;exact ⟨o,ho⟩
  obtain ⟨r1,r2⟩:=r
  cases fl with
  | none =>
   cases r1 with
   | some u=>exact hE.elim
   | none =>
    intro h' tk' W' e' Fl' X
    obtain ⟨G1,t1,F1⟩:=Fl'
    refine back_exc (b:=a.at gg tt) (c:=c) (σ:=σ) (H':=r2) F FG hm rfl rfl hcL F1 (XO.trans X) hC hl fun h'' F2=>?_
    exact T h'' tk' _ e' ⟨gg,tt,F2⟩ ((XO.trans X).cut (by rw [F.inv.lμ];exact hl))
  | some fl =>
   cases r1 with
   | none=>cases fl<;>exact hE.elim
   | some u =>
    intro h' tk' W' y FF' X hy
    obtain ⟨G1,t1,F1⟩:=FF'
    obtain ⟨G2,t2,F2⟩:=back_ret (b:=a.at gg tt) (c:=c) (σ:=σ) (H':=r2) F FG hm hst rfl hLg F1 (XO.trans X) hC hl
    have X2:=(XO.trans X).cut (k:=r2.length) (by rw [F.inv.lμ];exact hl)
    have T':=fun y' hy'=>T h' tk' (W'.cut r2.length) y' ⟨G2,tt.trans t2,F2⟩ X2 hy'
    cases hy with
    | next=>cases hE;exact T' _ .none
    | brk=>exact hE.elim
    | cont=>exact hE.elim
    | ret hr=>exact T' _ (hE.cut F1.inv.ob F1.inv.dn F1.inv.hdn.2 hr)
 ·have e:Γ f' vs σ.H=some r:=by rw [if_neg q] at e;exact e
  exact G.le (Nat.le_succ n) a A cal h1 h2 f' vs rs W s σ r FF hv e
 walk_at "z"
end
end Mine
end
section
namespace Mine
noncomputable abbrev bmV:List Value:=[.type "ValueError",.type "Exception",.type "BaseException",.type "object"]
section
variable {prog:Program}{w:World}{A:Around}{E:Value→Shared→Prop}{h:Heap}{g:Array GenState}{d:Drawn}{t:Nat}{os:OsState}
variable {nm q:Str}{C N G:Addr}{bs:List Value}{hdct:Bool}{sn:List Str}{sub:List Value}{ab:Bool}{col:Option Bool}{dd:Option Addr}{k0 k1 k2 k3 k5:Option Value}
noncomputable abbrev badObj (nm q:Str)(C N G:Addr)(bs:List Value)(hdct:Bool)(sn:List Str)(sub:List Value)(ab:Bool)(col:Option Bool)(dd:Option Addr)(k0 k1 k2 k3 k5:Option Value):Obj :=
 excClassObj nm q C N bs (.ref G::bmV) hdct sn sub ab col dd k0 k1 k2 k3 k5 "ValueError.__new__"
theorem bad_checkNew {M:Model}{rest:List Value}{Q:Unit→Shared→Prop}(hC:h.get? C=some (badObj nm q C N G bs hdct sn sub ab col dd k0 k1 k2 k3 k5))
  (hq:Q () ⟨h,g,d,t,os⟩):wpAny M A (checkBuiltinCall "ValueError.__new__" ⟨.ref C::rest,[]⟩) Q E ⟨h,g,d,t,os⟩:=by
 walk_at "a"
 have Fn:=PySem.F.excBase_ValueError
 have hcont:(Value.ref C::.ref G::bmV).contains (.type "ValueError")=true:=by simp
 have hstar:=Fn.noStar
 simp only [checkBuiltinCall,Fn.newKind,Fn.newSplit,Fn.newRow]
 repeat (first | refine wpAny_loadPart_at hC ?_ | (refine wpAny_isSubtype_exc hC ?_;rw [hcont]) | refine wpAny_staticBase_exc hC ?_ | refine wpAny_madeBy_exc hC ?_ | simp only [bne_self_eq_false,Bool.false_eq_true,if_false] | wp_step)
 exact hq
 walk_at "z"
theorem bad_new {R:Result→Shared→Prop}{rest:List Value}(hC:h.get? C=some (badObj nm q C N G bs hdct sn sub ab col dd k0 k1 k2 k3 k5))
  (hq:R (.ok (.ret (.ref (h.objs.size+1)))) ⟨(h.push { cls:=.type "tuple",data:=.seq rest.toArray }).push
   {cls:=.ref C,data:=.fields #[.ref h.objs.size,.none,.none,.none,.bool false,.none] },g,d,t,os⟩) (hrest:rest.length≤sizeLine) :
  codeAny (model prog w) A (.builtin "ValueError.__new__" ⟨.ref C::rest,[]⟩) R ⟨h,g,d,t,os⟩:=by
 walk_at "a"
 have Fn:=PySem.F.excBase_ValueError
 have hends:=Fn.ends
 have hcB:(Value.ref C::.ref G::bmV).contains (.type "ValueError")=true:=by simp
 have hcA:(Value.ref C::.ref G::bmV).contains (.type "AttributeError")=false:=by simp
 have hcN:(Value.ref C::.ref G::bmV).contains (.type "NameError")=false:=by simp
 refine codeAny_builtinAt Fn.entry ?_
 unfold Builtin.«BaseException.__new__»
 refine PySem.wpAt_bind ?_
 show PySem.wpAt _ _ _ (stack >>= _) _ _ _
 refine PySem.wpAt_bind (PySem.wpAt_stack fun p below=>PySem.wpAt_of_wpAny ?_)
 wp_walk
 refine PySem.wpAt_of_wpAny ?_
 rw [Fn.owner]
 repeat (first | with_reducible refine wpAny_madeHere_exc Fn.canon hC ?_ | with_reducible refine wpAny_loadPart_at hC ?_ | (with_reducible refine wpAny_isSubtype_exc hC ?_;first | rw [hcB] | rw [hcA] | rw [hcN]) | wp_step)
 show R _ _
 rw [Heap.size_push]
 exact hq
 walk_at "z"
structure NewBad (h h':Heap)(C e:Addr):Prop where
 keeps:∀ b o,h.get? b=some o→h'.get? b=some o
 new:h.get? e=none
 there:∃ o a0,h'.get? e=some o∧o.cls=.ref C∧o.dict=none∧o.data=.fields #[.ref a0,.none,.none,.none,.bool false,.none]
theorem bad_call {rest:List Value}{fI:Addr}{Q:Value→Shared→Prop}
  (hC:h.get? C=some (badObj nm q C N G bs hdct sn sub ab col dd k0 k1 k2 k3 k5)) (hi:Looks (model prog w) h (typeLookup (.ref C) "__init__") (some (.ref fI))) (hb:∀ self,Looks (model prog w) h (bindSpecial (.ref fI) self) (.ref fI,[self]))
  (hq:∀ h' e,NewBad h h' C e→wpAny (model prog w) (A.under (.builtin "type.__call__" ⟨.ref C::rest,[]⟩)) (call (.ref fI) (.ref e::rest)) (fun r s'=>r=.none∧Q (.ref e) s') E ⟨h',g,d,t,os⟩) (hrest:rest.length≤sizeLine) :
  wpAny (model prog w) A (call (.ref C) rest) Q E ⟨h,g,d,t,os⟩:=by
 walk_at "a"
 have Fn:=PySem.F.excBase_ValueError
 have f1:=tc_lookup
 have f2:=tc_bind (.ref C)
 have hT:(⟨h,g,d,t,os⟩:Shared).TypeIs (.ref C) "type":=⟨_,hC,rfl⟩
 refine wpAny_call (codeAny_of_tree ?_)
 show wpAny _ _ (callAny (.ref C) _) _ _ _
 repeat (any_goals (first | assumption | with_reducible refine wpAny_loadPart_at hC ?_ | wp_step))
 refine ⟨rfl,?_⟩
 refine codeAny_call_builtin_at (Code.quiet_builtin _ (by decide +kernel)) entry_typeCall (wpAny_check_type_call_sub hC ?_)
 unfold Builtin.«type.__call__»
 repeat (first | with_reducible refine wpAny_loadPart_at hC ?_ | with_reducible refine wpAny_madeBy_exc hC ?_ | wp_step)
 refine codeAny_call_builtin_code (Code.quiet_builtin _ Fn.quiet) (bad_checkNew hC ?_)
 refine bad_new hC ?_ hrest
 show wpAny _ _ _ _ _ _
 have hC₁:=Heap.get?_push_of_some { cls:=.ref C,data:=.fields #[.ref h.objs.size,.none,.none,.none,.bool false,.none] }
  (Heap.get?_push_of_some { cls:=.type "tuple",data:=.seq rest.toArray } hC)
 have kk:∀ b o,h.get? b=some o→((h.push { cls:=.type "tuple",data:=.seq rest.toArray }).push { cls:=.ref C,data:=.fields #[.ref h.objs.size,.none,.none,.none,.bool false,.none] }).get? b=some o:=fun b o hb=>Heap.get?_push_of_some _ (Heap.get?_push_of_some _ hb)
 have hget:((h.push { cls:=.type "tuple",data:=.seq rest.toArray }).push
   {cls:=.ref C,data:=.fields #[.ref h.objs.size,.none,.none,.none,.bool false,.none] }).get? (h.objs.size+1)=some
   {cls:=.ref C,data:=.fields #[.ref h.objs.size,.none,.none,.none,.bool false,.none] }:=by heap_get
 have hcC:(Value.ref C::.ref G::bmV).contains (.ref C)=true:=by simp
 have i1:=hi.keeps kk
 have b1:=(hb (.ref (h.objs.size+1))).keeps kk
 unfold isInstance
 repeat (first | with_reducible refine wpAny_loadPart_at hget ?_ | (with_reducible refine wpAny_isSubtype_exc hC₁ ?_;rw [hcC]) | wp_step)
 refine wpAny_isSubtype_exc hC₁ ?_
 rw [hcC]
 repeat (first | with_reducible refine wpAny_loadPart_at hget ?_ | wp_step)
 show wpAny _ _ (typeLookup (.ref C) _) _ _ _
 refine i1.at ?_
 refine wpAny_holding (wpAny_bind (b1.at ?_))
 refine (wpAny_bind (wpAny_mono (hq _ (h.objs.size+1) ⟨kk,Heap.get?_none_of_le (Nat.le_succ _),_,h.objs.size,hget,rfl,rfl,rfl⟩) (fun r s' hr=>?_) fun _ _ x=>x))
 obtain ⟨rfl,hQ⟩:=hr
 refine wpAny_pure ?_
 wp_walk
 exact hQ
 walk_at "z"
end
end Mine
end
section
open Builtin Builtin.ObjectAttr
namespace Mine
structure Stored (h h':Heap)(x:Addr):Prop where
 rest:∀ b o,b≠x→(∀ o₀ dx,h.get? x=some o₀→o₀.dict=some dx→b≠dx)→h.get? b=some o→h'.get? b=some o
 self:∀ o₀,h.get? x=some o₀→∃ o₁ dx,h'.get? x=some o₁∧o₁.cls=o₀.cls∧o₁.data=o₀.data∧o₁.dict=some dx∧(o₀.dict=some dx∨h.get? dx=none)
section
variable {prog:Program}{w:World}{A:Around}{E:Value→Shared→Prop}{K:Frag}{s:Shared}{x C G:Addr}{name:Str}{v:Value}{cd:ClassData}{mA:Str→Option Value}{ns:List Str}
theorem exc_entry {tk:Tok}{b:Bool}{Q:Fin→Shared→Prop}(X:K.In s.heap)(hc:clsIn K C=some cd)(hdc:cd.hasDict=true)
  (I:s.heap.Inst x C mA) (hw:Within mA ns) (hsz:ns.length≤sizeLine)
  (hq:∀ h' tk',h'.Inst x C (fun y=>if y=name then some v else mA y)→Stored s.heap h' x→Q (.done (.ret .none)) { s with heap:=h',toks:=tk' }) :
  wpAny (model prog w) A (storeInOwnDict (.ref x) (.ref C) (.str name tk) name v b) Q E s:=by
 walk_at "a"
 obtain ⟨o,hx,hcl,hnc,hd⟩:=I
 obtain ⟨h,g,d,t,os⟩:=s
 have LC:Looks (model prog w) h (classData C) cd:=looks_clsIn X hc
 unfold storeInOwnDict
 refine wpAny_bind (wpAny_pure (wpAny_bind (wpAny_bind (wpAny_loadPart hx ?_))))
 rw [hcl]
 refine wpAny_bind (LC.here ?_)
 rw [hdc]
 rcases hd with ⟨hdn,hmA⟩ | ⟨dx,hdx,hne,hns⟩
 ·rw [hdn]
  simp only [typeHasDict]
  rw [if_neg (by decide),if_neg (by decide)]
  ·have hx₁:(h.push { cls:=.type "dict",data:=.dict #[] }).get? x=some o:=Heap.get?_push_of_some _ hx
   have hxs:x≠h.objs.size:=Nat.ne_of_lt (Heap.lt_size hx)
   refine wpAny_bind (wpAny_alloc' ?_)
   refine wpAny_bind (wpAny_update' hx₁ ?_)
   refine wpAny_pure ?_
   have hgd:((h.push { cls:=.type "dict",data:=.dict #[] }).update x fun o=>{ cls:=o.cls,dict:=some h.objs.size,data:=o.data,slots:=o.slots }).get? h.objs.size
     = some { cls:=.type "dict",data:=.dict #[] } :=
    (Heap.get?_update_ne _ _ _ _ hxs.symm).trans (Heap.get?_push_at rfl rfl)
   have hnd:((h.push { cls:=.type "dict",data:=.dict #[] }).update x fun o=>{ cls:=o.cls,dict:=some h.objs.size,data:=o.data,slots:=o.slots }).Ns h.objs.size (fun _=>none) :=
    ⟨_,#[],_,hgd,rfl,fun e he=>absurd he (by simp),fun _=>rfl⟩
   show wpAny _ _ (storeInDict h.objs.size (.str name tk) name v) _ _ _
   unfold storeInDict newKeyGuard
   refine wpAny_bind (wpAny_pure (wpAny_bind (wpAny_nsSet1 (Heap.Ns1.of_empty hnd) fun h' hn' hs=>?_)))
   obtain ⟨oD,esD,epD,hoD,hdD,hcD⟩:=hn'.count (Within.cons name v Within.nil)
   refine wpAny_bind (wpAny_lookBehind hoD (by rw [hdD];exact pastItsLine_dict (Nat.le_trans hcD (by rw [List.length_cons,List.length_nil,sizeLine_eq];lia))) ?_)
   wp_walk
   have hx':h'.get? x=some { cls:=o.cls,dict:=some h.objs.size,data:=o.data,slots:=o.slots }:=?_
   refine hq h' _ ⟨{ cls:=o.cls,dict:=some h.objs.size,data:=o.data,slots:=o.slots },hx',hcl,hnc,.inr ⟨h.objs.size,rfl,hxs.symm,?_⟩⟩ ⟨fun b ob hbx _ hb=>?_,
    fun o₀ h₀=>by obtain rfl:o=o₀:=Option.some.inj (hx.symm.trans h₀);exact ⟨_,h.objs.size,hx',rfl,rfl,rfl,.inr (Heap.get?_none_of_le (Nat.le_refl _))⟩⟩
   ·obtain ⟨o',es,ep,e1,e2,e3,eu,e4⟩:=hn'
    exact ⟨o',es,ep,e1,e2,e3,eu,fun y=>by rw [e4 y];by_cases hy:y=name<;>simp [hy,hmA]⟩
   ·exact (hs.2 b (Nat.ne_of_lt (Heap.lt_size hb))).trans ((Heap.get?_update_ne _ _ _ _ hbx).trans (Heap.get?_push_of_some _ hb))
   ·refine (hs.2 x hxs).trans (Heap.get?_update_self _ hx₁ ?_)
    have hfr:=(Heap.get?_some_iff.mp hx).2
    obtain ⟨oc,od,odt,osl⟩:=o
    cases odt<;>first | rfl | exact hfr
 ·rw [hdx]
  refine wpAny_pure ?_
  show wpAny _ _ (storeInDict dx (.str name tk) name v) _ _ _
  unfold storeInDict newKeyGuard
  refine wpAny_bind (wpAny_pure (wpAny_bind (wpAny_nsSet1 hns fun h' hn' hs=>?_)))
  obtain ⟨oD,esD,epD,hoD,hdD,hcD⟩:=hn'.count (Within.cons name v hw)
  refine wpAny_bind (wpAny_lookBehind hoD (by rw [hdD];exact pastItsLine_dict (Nat.le_trans hcD (by rw [List.length_cons];have:=hsz;rw [sizeLine_eq] at this ⊢;lia))) ?_)
  wp_walk
  refine hq h' _ ⟨o,(hs.2 x hne.symm).trans hx,hcl,hnc,.inr ⟨dx,hdx,hne,hn'⟩⟩ ⟨fun b ob _ hbd hb=>?_,
   fun o₀ h₀=>⟨o₀,dx,(hs.2 x hne.symm).trans h₀,rfl,rfl,by rw [show o₀=o from Option.some.inj (h₀.symm.trans hx)];exact hdx,.inl (by rw [show o₀=o from Option.some.inj (h₀.symm.trans hx)];exact hdx)⟩⟩
  exact (hs.2 b (hbd o dx hx hdx)).trans hb
 walk_at "z"
theorem exc_open {tk:Tok}{R:Result→Shared→Prop}(X:K.In s.heap)
  (hc:clsIn K C=some cd) (hm:cd.mro=.ref C::.ref G::bmV) (hdc:cd.hasDict=true) (hn:findIn K (.ref C) name=some none)
  (I:s.heap.Inst x C mA) (hw:Within mA ns) (hsz:ns.length<1000)
  (hq:∀ h' tk',h'.Inst x C (fun y=>if y=name then some v else mA y)→Stored s.heap h' x→R (.ok (.ret .none)) { s with heap:=h',toks:=tk' }) :
  codeAny (model prog w) A (.call (.builtin "object.__setattr__") ⟨[.ref x,.str name tk,v],[]⟩) R s:=by
 walk_at "a"
 have SF:=PySem.F.store_object
 have SV:=PySem.F.store_ValueError
 obtain ⟨o,hx,hcl,hnc,hd⟩:=id I
 have tl:Looks (model prog w) s.heap (typeOf (.ref x)) (.ref C):=hcl▸(Looks.ld hx).andThen .now
 have ne:cd.mro.isEmpty=false:=by rw [hm];rfl
 have hob:cd.mro.contains (.type "object")=true:=by rw [hm];simp
 have sub:Looks (model prog w) s.heap (isInstance (.ref x) (.type "object")) true:=tl.andThen (looks_mroIn X (by unfold mroIn;rw [hc,Option.bind_some,if_neg (by rw [ne];decide),hob]))
 have hmr:Looks (model prog w) s.heap (mroOf (.ref C)) cd.mro:=(looks_clsIn X hc).andThen .now
 refine codeAny_call_builtin SF.slot.plain SF.entry (@check_slot (model prog w) _ _ s "object.__setattr__" "object" "__setattr__" (.ref x) [.str name tk,v] [] _ SF.kind SF.split sub (SF.args (.ref x) (.str name tk) v) ?_)
 rw [osa_eq,refuse_eq]
 refine wpAny_bind (wpAny_bind (tl.here (wpAny_bind (hmr.here ?_))))
 rw [hm,refuseLoop_ref,refuseLoop_ref,SV.passes]
 refine wpAny_pure (wpAny_bind (tl.here (wpAny_bind ((looks_findIn X hn).here (wpAny_bind (wpAny_pure ?_))))))
 exact exc_entry X hc hdc I hw (Nat.le_trans (Nat.le_of_lt hsz) (by rw [sizeLine_eq];lia)) fun h' tk' I' S=>hq h' tk' I' S
 walk_at "z"
theorem exc_store {Q:Unit→Shared→Prop}(X:K.In s.heap)(hs:findIn K (.ref C) "__setattr__"=some (some (.builtin "object.__setattr__")))
  (hc:clsIn K C=some cd) (hm:cd.mro=.ref C::.ref G::bmV) (hdc:cd.hasDict=true) (hn:findIn K (.ref C) name=some none)
  (I:s.heap.Inst x C mA) (hw:Within mA ns) (hsz:ns.length<1000)
  (hq:∀ h' tk',h'.Inst x C (fun y=>if y=name then some v else mA y)→Stored s.heap h' x→Q () { s with heap:=h',toks:=tk' }) :
  wpAny (model prog w) A (setAttr (.ref x) name v) Q E s:=by
 walk_at "a"
 obtain ⟨o,hx,hcl,hnc,hd⟩:=id I
 have hno:notCls o=true:=by unfold notCls;split<;>first | rfl | exact absurd ‹_› (hnc _)
 have IA:∃ od,InstAt s.heap x o C od:=by
  rcases hd with ⟨hdn,_⟩ | ⟨dx,hdx,_,oD,_,_,hoD,_⟩
  ·exact ⟨none,hx,hcl,hno,by rw [hdn];trivial⟩
  ·exact ⟨some oD,hx,hcl,hno,by rw [hdx];exact hoD⟩
 obtain ⟨od,IA⟩:=IA
 exact set_plain X IA hs (exc_open (s:={ s with toks:=s.toks+1 }) X hc hm hdc hn I hw hsz hq)
 walk_at "z"
end
end Mine
end
section
open PySem PySem.W PyProof.Rows
namespace Mine.Top
open Lean Meta Elab PySem PySem.W
theorem run_more {tb : String → Option Builtin} {p : Program} {w : World} {n₀ : Nat} {ann : Option PySem.Value} {b : Nat} (k : Nat) :
    ∀ (n : Nat) (s : Shared) (t : PySem.Thread) (r : Flow × Shared × Code × Pos), segRun tb p w n₀ ann b n s t = some r → segRun tb p w n₀ ann b (n + k) s t = some r
  | 0, _, _, _, h => by simp [segRun] at h
  | n + 1, s, t, r, h => by
    rw [show n + 1 + k = (n + k) + 1 by omega]
    unfold segRun at h ⊢
    cases he : endAt b t with
    | some f => rw [he] at h; exact h
    | none =>
      rw [he] at h
      cases hk : stepOk n₀ ann t with
      | false => rw [hk] at h; cases h
      | true =>
        rw [hk] at h
        cases hs : step (denote tb) p w s t with
        | halt o s' => rw [hs] at h; cases h
        | go s' t' => rw [hs] at h; exact run_more k n s' t' r h
theorem fork_go {tb : String → Option Builtin} {p : Program} {n₀ : Nat} {ann : Option PySem.Value} {b : Nat} (row : String) {c d : Nat} {Sp Sn : World → Shared} {tp tn : World → PySem.Thread}
    (hf : ∀ w : World, segGo tb p (w.withFollow row false) n₀ ann b c (Sp (w.withFollow row false)) (tp (w.withFollow row false)) = some (Sn (w.withFollow row false), tn (w.withFollow row false)))
    (ht : ∀ w : World, segGo tb p (w.withFollow row true) n₀ ann b d (Sp (w.withFollow row true)) (tp (w.withFollow row true)) = some (Sn (w.withFollow row true), tn (w.withFollow row true)))
    (le : Nat.ble d c = true) (w : World) {N : Nat} {r : Flow × Shared × Code × Pos} (k : segRun tb p w n₀ ann b N (Sn w) (tn w) = some r) :
    segRun tb p w n₀ ann b (Nat.add c N) (Sp w) (tp w) = some r := by
  have e := World.withFollow_self w row
  cases hb : w.params.followText row <;> rw [hb] at e
  · have h := hf w
    rw [e] at h
    exact seg_go h k
  · have h := ht w
    rw [e] at h
    have := run_more (c - d) _ _ _ _ (seg_go h k)
    rwa [show d + N + (c - d) = Nat.add c N by have := Nat.le_of_ble_eq_true le; show _ = c + N; omega] at this
theorem _root_.Mine.top : True := by
  run_tac do
    let quickened := fun (e : Lean.Expr) => show MetaM Lean.Expr from do
      match ← Fast.quick e with
      | some (e', _) => return e'
      | none => return e
    let quickAt := fun (stem : Name) (ty val : Lean.Expr) => show MetaM Lean.Expr from do
      let c ← defAt stem ty val
      Fast.primed.modify (·.insert c.getAppFn.constName! none)
      return c
    let layQ := fun (old : Array (Obj × Obj × Lean.Expr)) (s s' : Shared) => show MetaM (Array (Obj × Obj × Lean.Expr)) from do
      let P := mkConst ``Params
      let ty ← mkArrow P (mkConst ``Obj)
      unless s.heap.objs.size == s'.heap.objs.size do throwError "the worlds part: sizes"
      let mut out := #[]
      for i in [0:s.heap.objs.size] do
        let (o, o') := (s.heap.objs[i]!, s'.heap.objs[i]!)
        let kept := match old[i]? with
          | some (a, a', e) => if sameObjNow a o && sameObjNow a' o' then some (a, a', e) else none
          | none => none
        match kept with
        | some x => out := out.push x
        | none =>
          let v ← withLocalDeclD `P P fun p => do
            let e := objE p o
            unless e == objE p o' do throwError "the worlds part: an object"
            mkLambdaFVars #[p] (← quickened e)
          out := out.push (o, o', ← quickAt `o ty v)
      unless toExpr s.heap.life == toExpr s'.heap.life do throwError "the worlds part: life"
      return out
    let stateQ := fun (old : Array (Obj × Obj × Lean.Expr)) (s s' : Shared) => show MetaM (Array (Obj × Obj × Lean.Expr) × W.State) from do
      let objs ← layQ old s s'
      unless toExpr s.drawn == toExpr s'.drawn && s.toks == s'.toks do throwError "the worlds part: draws"
      let P := mkConst ``Params
      let v ← withLocalDeclD `P P fun p => mkLambdaFVars #[p] (treeE p (objs.map (·.2.2)) 1 0)
      let t ← quickAt `tree (← mkArrow P (mkConst ``BT)) v
      return (objs, { heap := default, gens := ← gensE s s', drawn := toExpr s.drawn, toks := mkRawNatLit s.toks, tree := some (t, mkRawNatLit s.heap.objs.size, toExpr s.heap.life) })
    let runOf := fun (p : Program) (w : World) (n : Nat) (s : Shared) (t : PySem.Thread) => show Option (Shared × PySem.Thread) from Id.run do
      let mut x := (s, t)
      for _ in [0:n] do
        match step (denote table) p w x.1 x.2 with
        | .go s' t' => x := (s', t')
        | .halt _ _ => return none
      return some x
    let long : List (Nat × Option Nat × Bool) := [(138, some 128, false)] ++ List.replicate 6 (272, none, true) ++ [(136, none, true), (111, some 101, false)] ++ List.replicate 7 (272, none, true) ++ [(204, none, true)]
    let twin := fun (pE : Lean.Expr) => show Term.TermElabM Unit from do
      let some d := (← getEnv).find? pE.constName! | throwError "twin"
      let some v := d.value? | throwError "twin"
      let c ← quickAt `twin d.type (← quickened v)
      let e := pE.constName! ++ `quick
      let e := `Mine ++ e
      addDecl (.thmDecl { name := e, levelParams := [], type := ← mkEq pE c, value := mkApp2 (mkConst ``Eq.refl [1]) d.type pE })
      Fast.primed.modify (·.insert pE.constName! (some (c.constName!, e)))
    let walk := fun (nm : Name) (pE : Lean.Expr) (forked : Nat) (row : String) => show Term.TermElabM Unit from do
      let p ← progOf pE
      let c ← match ← openProbe p with
        | .error m => throwError "probe: {m}"
        | .ok c => pure c
      let N := 2 * c.steps + 100
      let (t, t') ← match ← traceTop p N 1, ← traceTop p N 2 with
        | .ok t, .ok t' => pure (t, t')
        | .error m, _ | _, .error m => throwError "trace: {m}"
      let some cells ← cellsD? (← mkAppM ``behindTheImports #[pE]) | throwError "cells"
      unless cells.length == t.pieces.length do throwError "cells"
      let tb := mkConst ``treeTable
      let one := natE 1
      let m0 := natE t.s0.heap.objs.size
      let annE := toExpr t.ann
      let stL := mkApp (mkConst ``List [0]) (mkConst ``Stmt)
      let scope ← mkAppM ``Module.scope #[← mkAppM ``Program.main #[pE]]
      let envE ← do
        let pS ← Term.exprToSyntax scope
        let cS ← Term.exprToSyntax (toExpr t.code)
        let e ← Term.withSynthesize (Term.elabTermEnsuringType (← `(({ scope := $pS, locals := mainNs, globals := mainNs, cells := [], code := $cS, frame := some $(quote t.frame) } : Env))) (mkConst ``Env))
        instantiateMVars e
      let envE ← defAt `env (mkConst ``Env) envE
      let qE := toExpr t.framePos
      let B := listE (mkConst ``Frame) [mkApp (mkConst ``topFrame) qE]
      let cd (b : Lean.Expr) := mkApp2 (mkConst ``Code.body) b envE
      let rst (n : Lean.Expr) (f : Name) (w p : Lean.Expr) (s th : Lean.Expr) := mkAppN (mkConst f) #[tb, p, w, m0, annE, one, n, s, th]
      let pair (w p b os : Lean.Expr) (S : W.State) (tn : Lean.Expr → Lean.Expr → Lean.Expr → Lean.Expr → Lean.Expr) : MetaM Lean.Expr := do mkAppM ``some #[← mkAppM ``Prod.mk #[S.atT w os, tn w p b os]]
      let last4 (w b os : Lean.Expr) (S : W.State) (pos : Lean.Expr) : MetaM Lean.Expr := do mkAppM ``some #[← mkAppM ``Prod.mk #[mkConst ``Flow.next, ← mkAppM ``Prod.mk #[S.atT w os, ← mkAppM ``Prod.mk #[cd b, pos]]]]
      let follow (w : Lean.Expr) (r : String) (v : Bool) := mkApp3 (mkConst ``World.withFollow) w (mkStrLit r) (mkConst (if v then ``Bool.true else ``Bool.false))
      let with4 (f : Lean.Expr → Lean.Expr → Lean.Expr → Lean.Expr → MetaM Lean.Expr) : MetaM Lean.Expr :=
        withLocalDeclD `w (mkConst ``World) fun w => withLocalDeclD `p (mkConst ``Program) fun p => withLocalDeclD `b stL fun b => withLocalDeclD `os (mkConst ``OsState) fun os => do
          mkLambdaFVars #[w, p, b, os] (← f w p b os)
      let (w1, w2) := (← fixWorld 1 true, ← fixWorld 2 false)
      let mut o0 : Array (Obj × Obj × Lean.Expr) := #[]
      for i in [0:t.s0.heap.objs.size] do
        let c := (`PySem.W).str s!"boot_o_{i}"
        let c' := match ← Fast.prime c with | some (a, _) => a | none => c
        o0 := o0.push (t.s0.heap.objs[i]!, t'.s0.heap.objs[i]!, mkConst c')
      let oP ← layQ o0 t.pre.s t'.pre.s
      let (oB, Sb) ← stateQ oP t.block.s t'.block.s
      let mut groups : Array (List Lean.Expr × List Stmt × Snap × Snap) := #[]
      for (st, v, x, x') in cells.zip (t.body.zip (t.pieces.zip t'.pieces)) do
        let n := max x.steps x'.steps
        let x := { x with steps := n }
        match groups.back? with
        | some (l, lv, y, y') => if y.steps + n ≤ 400 && (y.rows ++ y'.rows ++ x.rows ++ x'.rows).eraseDups.length ≤ 3 then groups := groups.pop.push (l ++ [st], lv ++ [v], { x with steps := y.steps + n, rows := y.rows ++ x.rows }, { x' with rows := y'.rows ++ x'.rows }) else groups := groups.push ([st], [v], x, x')
        | none => groups := groups.push ([st], [v], x, x')
      let mut o := oB
      let mut S := Sb
      let mut pos := t.block.pos
      let mut from1 := t.block.s
      let mut from2 := t'.block.s
      let mut idx := 0
      let mut lems : Array (Lean.Expr × W.State × Pos × W.State × Pos × Nat × Lean.Expr) := #[]
      for (sts, stVs, x, x') in groups do
        let stE ← quickAt `sts stL (← quickened (listE (mkConst ``Stmt) sts))
        let (S0, pos0) := (S, pos)
        let whole (b : Lean.Expr) : Lean.Expr := mkAppN (mkConst ``piecesOf) #[stE, envE, cd b, toExpr pos0, B]
        let th := piecesOf stVs t.benv t.bcode pos0 [topFrame t.framePos]
        let rows := (x.rows ++ x'.rows).eraseDups
        let list : List (Nat × Option Nat × Bool) ←
          if idx == forked then pure long
          else if x.steps > 600 then do
            let (cuts, _) ← cutsNow p 1 400 x.steps from1 th
            pure (cuts.toList.map fun (c, _, _) => (c, none, false))
          else pure []
        let rows := rows.filter (· != row)
        let mut thr : Lean.Expr → Lean.Expr → Lean.Expr → Lean.Expr → Lean.Expr := fun _ _ b _ => whole b
        let mut thrN : Name := .anonymous
        let mut r1 := (from1, th)
        let mut r2 := (from2, th)
        let mut links : Array (Nat × ((w p b os N r k : Lean.Expr) → MetaM Lean.Expr)) := #[]
        let mut left := x.steps
        for (cf, ct?, same) in list do
          let some q1 := runOf p w1 (ct?.getD cf) r1.1 r1.2 | throwError "a stretch (1)"
          let some q2 := runOf p w2 cf r2.1 r2.2 | throwError "a stretch (2)"
          let (o', Sn) ← stateQ o q1.1 q2.1
          let (Sp, tp) := (S, thr)
          let thrC ← if same then pure (mkConst thrN) else do
            let thrE ← with4 fun w p b os => do
              let W := (row :: rows).foldl (fun w r => follow w r false) w
              let r ← whnfQuick (rst (natE cf) ``segGoT W p (Sp.atT W os) (tp W p b os))
              unless r.isAppOfArity ``Option.some 2 do throwError "a cut: no state"
              let r2 ← Dig.kw r.appArg!
              unless r2.isAppOfArity ``Prod.mk 4 do throwError "a cut: no pair"
              return r2.appArg!.replace fun y => if y == W then some w else none
            quickAt `thread (← inferType thrE) thrE
          thrN := thrC.constName!
          let tn (w p b os : Lean.Expr) : Lean.Expr := mkApp4 thrC w p b os
          let eqP (n : Nat) : MetaM Lean.Expr := withLocalDeclD `w (mkConst ``World) fun w => do
            let side (f : Lean.Expr → Lean.Expr → Lean.Expr → MetaM Lean.Expr) : MetaM Lean.Expr := withLocalDeclD `p (mkConst ``Program) fun p => withLocalDeclD `b stL fun b => withLocalDeclD `os (mkConst ``OsState) fun os => do mkLambdaFVars #[p, b, os] (← f p b os)
            mkLambdaFVars #[w] (← mkEq (← side fun p b os => pure (rst (natE n) ``segGoT w p (Sp.atT w os) (tp w p b os))) (← side fun p b os => pair w p b os Sn tn))
          match ct? with
          | none =>
            let lem ← byKernelQuick (← eqP cf) rows
            links := links.push (cf, fun w p b os N r k => do
              return mkAppN (mkConst ``seg_go) #[tb, p, w, m0, annE, one, natE cf, N, Sp.at w os, Sn.at w os, tp w p b os, tn w p b os, r, ← mkAppM ``segGo_of #[← atS lem w p b os], k])
          | some ct =>
            let way (n : Nat) (v : Bool) : MetaM Lean.Expr := do
              let P ← eqP n
              let P' ← withLocalDeclD `w (mkConst ``World) fun w => do mkLambdaFVars #[w] (mkApp P (follow w row v)).headBeta
              byKernelQuick P' rows
            let lf ← way cf false
            let lt ← way ct true
            links := links.push (cf, fun w p b os N r k => do
              let lamW (f : Lean.Expr → MetaM Lean.Expr) : MetaM Lean.Expr := withLocalDeclD `w (mkConst ``World) fun w => do mkLambdaFVars #[w] (← f w)
              let SpL ← lamW fun w => pure (Sp.at w os)
              let SnL ← lamW fun w => pure (Sn.at w os)
              let tpL ← lamW fun w => pure (tp w p b os)
              let tnL ← lamW fun w => pure (tn w p b os)
              let at_ (l : Lean.Expr) : MetaM Lean.Expr := lamW fun w => do mkAppM ``segGo_of #[← atS l w p b os]
              return mkAppN (mkConst ``fork_go) #[tb, p, m0, annE, one, mkStrLit row, natE cf, natE ct, SpL, SnL, tpL, tnL, ← at_ lf, ← at_ lt, mkApp2 (mkConst ``Eq.refl [1]) (mkConst ``Bool) (mkConst ``Bool.true), w, N, r, k])
          S := Sn
          thr := tn
          o := o'
          r1 := q1
          r2 := q2
          left := left - cf
        let (o', S') ← stateQ o x.s x'.s
        let (Sl, tl) := (S, thr)
        let last ← byPieceS rows (fun w p b os => pure (rst (natE left.succ) ``segRunT w p (Sl.atT w os) (tl w p b os))) fun w _ b os => last4 w b os S' (toExpr x.pos)
        let steps := x.steps.succ
        let (ty, pf) ← withLocalDeclD `w (mkConst ``World) fun w => withLocalDeclD `p (mkConst ``Program) fun p => withLocalDeclD `b stL fun b => withLocalDeclD `os (mkConst ``OsState) fun os => do
          let mut k ← mkAppM ``segRun_of #[← atS last w p b os]
          let mut N' := natE left.succ
          let some (_, _, r) := (← inferType k).eq? | throwError "an equation"
          for (c, f) in links.toList.reverse do
            k ← f w p b os N' r.appArg! k
            N' := mkApp2 (mkConst ``Nat.add) (natE c) N'
          let want ← mkEq (rst (natE steps) ``segRun w p (S0.at w os) (whole b)) r
          pure (← mkForallFVars #[w, p, b, os] want, ← mkLambdaFVars #[w, p, b, os] k)
        let lem := mkConst (← withOptions (Elab.async.set · false) (mkAuxLemma [] ty pf (cache := false)))
        lems := lems.push (stE, S0, pos0, S', x.pos, steps, lem)
        o := o'
        S := S'
        pos := x.pos
        idx := idx + sts.length
        from1 := x.s
        from2 := x'.s
      let (Sk, posK) := (S, pos)
      let chain := nm ++ `chain
      let (ty, pf) ← withLocalDeclD `p (mkConst ``Program) fun p => withLocalDeclD `b stL fun b => withLocalDeclD `w (mkConst ``World) fun w => withLocalDeclD `os (mkConst ``OsState) fun os =>
        withLocalDeclD `rest stL fun rest => withLocalDeclD `N (mkConst ``Nat) fun N => withLocalDeclD `r (mkConst ``Shared) fun r => do
          let thT (rest : Lean.Expr) (pos : Pos) := mkAppN (mkConst ``restOf) #[rest, envE, cd b, toExpr pos, B]
          let run (N s th : Lean.Expr) := mkAppN (mkConst ``topRun) #[tb, p, w, m0, annE, N, s, th]
          let someR ← mkAppM ``some #[r]
          withLocalDeclD `h (← mkEq (run N (Sk.at w os) (thT rest posK)) someR) fun h => do
            let mut k := h
            let mut N' := N
            let mut rs := rest
            for (stE, S1, pos1, S2, pos2, n, lem) in lems.toList.reverse do
              k := mkAppN (mkConst ``piece_app) #[tb, p, w, m0, annE, envE, qE, natE n, N', S1.at w os, S2.at w os, r, stE, rs, cd b, toExpr pos1, toExpr pos2, mkAppN lem #[w, p, b, os], k]
              N' := mkApp2 (mkConst ``Nat.add) (natE n) N'
              rs ← mkAppM ``HAppend.hAppend #[stE, rs]
            let goal ← mkEq (run N' (Sb.at w os) (thT rs t.block.pos)) someR
            pure (← mkForallFVars #[p, b, w, os, rest, N, r, h] goal, ← mkLambdaFVars #[p, b, w, os, rest, N, r, h] k)
      addDecl (.thmDecl { name := chain, levelParams := [], type := ty, value := pf })
      let e : TopEntry := { cells := cells.toArray, groups := lems.map (·.1.constName!), steps := lems.map fun (_, _, _, _, _, n, _) => n, chain := chain, env := envE.constName!, m0 := m0, ann := annE, q := qE, posB := toExpr t.block.pos, posK := toExpr posK, o0 := #[], sB := ← noteOf oB Sb, sK := ← noteOf o Sk }
      modifyEnv fun env => topsExt.setState env #[e]
    let reached : List String := ["GemError.__init__", "BadToken.__init__", "Token.__init__", "is_digit", "digit_value",
      "Scanner.__init__", "Scanner.sign", "Scanner.begins", "Scanner.fail", "Scanner.step", "Scanner.name",
      "TextScanner.plain_text", "TextScanner.escaped", "TextScanner.text_parts", "TextScanner.code", "TextScanner.skip_code",
      "Lexer.__init__", "Lexer.put", "Lexer.whole", "Lexer.longest",
      "_law_signs", "_law_single", "_law_code_end", "_law_line", "_law_double", "_law_at", "_law_texts_right", "_law_word", "_law_worth",
      "_law_number", "_law_whole_right", "_law_longest", "_law_steps_right", "law"]
    let tables : List Nat := [2, 3, 64, 68, 79, 80, 122]
    let frag := fun (ns : Name) (pE : Lean.Expr) => show Term.TermElabM Unit from do
      let p ← progOf pE
      let some (h, h') ← twoRuns p | throwError "two runs"
      let mut as : List Nat := tables
      for i in [0:h.objs.size] do
        let some o := h.get? i | continue
        unless o.cls == .none do
          match o.data with
          | .func f => if reached.contains f.qualname.toString then as := as ++ (i :: refOf f.code ++ refOf f.defaults)
          | .cls c => as := as ++ [i, c.ns]
          | _ => pure ()
      let adrs := ((as.eraseDups).toArray.qsort (· < ·)).toList
      let def_ (n : Name) (ty val : Lean.Expr) : MetaM Lean.Expr := do
        addDecl (.defnDecl { name := n, levelParams := [], type := ty, value := val, hints := .abbrev, safety := .safe })
        Fast.primed.modify (·.insert n none)
        return mkConst n
      let pr := mkApp2 (mkConst ``Prod [0, 0]) (mkConst ``Nat) (mkConst ``Obj)
      let v ← withLocalDeclD `P (mkConst ``Params) fun P => do
        let mut rows := []
        for a in adrs do
          let (some o, some o') := (h.get? a, h'.get? a) | throwError "an object"
          let e := objE P o
          unless e == objE P o' do throwError "the world's object {a}"
          let e ← match o.data with
            | .func f => do
              let .stmts body := f.body | throwError "a body"
              let nm := ((f.qualname.toString.map fun c => if c == '.' then '_' else c).dropWhile (· == '_')).toString
              let b ← def_ (ns ++ Name.mkSimple ("body_" ++ nm)) (mkApp (mkConst ``List [0]) (mkConst ``Stmt)) (toExpr body)
              let s ← def_ (ns ++ Name.mkSimple ("scope_" ++ nm)) (mkConst ``Scope) (toExpr f.scope)
              let q ← def_ (ns ++ Name.mkSimple ("params_" ++ nm)) (mkConst ``Arguments) (toExpr f.params)
              let fd := mkAppN (mkConst ``fnOf) #[toExpr f.name, toExpr f.qualname, q, b, s, toExpr f.defaults, toExpr f.kwdefaults, toExpr f.doc, toExpr f.pyModule, toExpr f.annotations, toExpr f.code, toExpr f.closureTuple]
              let _ ← def_ (ns ++ Name.mkSimple ("at_" ++ nm)) (mkConst ``Nat) (mkRawNatLit a)
              pure (mkApp4 (mkConst ``Obj.mk) (toExpr o.cls) (toExpr o.dict) (mkApp (mkConst ``Data.func) fd) (toExpr o.slots))
            | .cls c => do
              let _ ← def_ (ns ++ Name.mkSimple ("cls_" ++ c.name.toString)) (mkConst ``Nat) (mkRawNatLit a)
              pure e
            | _ => pure e
          rows := rows ++ [mkApp4 (mkConst ``Prod.mk [0, 0]) (mkConst ``Nat) (mkConst ``Obj) (mkRawNatLit a) e]
        mkLambdaFVars #[P] (listE pr rows)
      let K ← def_ (ns ++ `K) (← mkArrow (mkConst ``Params) (mkConst ``Frag)) v
      let _ ← def_ (ns ++ `as) (mkApp (mkConst ``List [0]) (mkConst ``Nat)) (listE (mkConst ``Nat) (adrs.map mkRawNatLit))
      fragNow.modify ((K.constName!, adrs.filterMap fun a => (h.get? a).map fun o => (a, o)) :: ·)
    twin (mkConst ``PySem.Challenge.pw_on0139_01)
    walk `Mine.top (mkConst ``PySem.Challenge.pw_on0139_01) 23 "comprehension-iter-twice"
    frag `Mine.F (mkConst ``PySem.Challenge.pw_on0139_01)
    let some f ← PySem.W.leftPieces.get | throwError "no pieces"
    PySem.W.leftPieces.set (some fun g pE prog rows => do
      let t ← if g.name.isAnonymous then pure (mkConst ``True) else Lean.instantiateMVars (← g.getType)
      for v in t.getUsedConstants do
        if v.isStr && v.getString!.startsWith "view" then
          Term.TermElabM.run' (twin (mkConst v))
      f g pE prog rows)
  trivial
end Mine.Top
end
section
namespace Mine
noncomputable abbrev KK (w:World):Frag:=Mine.F.K w.params
noncomputable abbrev excD (a:Value):Data:=.fields #[a,.none,.none,.none,.bool false,.none]
theorem kk_C (P:Params):∃ nm q N bs hdct sn sub ab col dd k0 k1 k2 k3 k5,(Mine.F.K P).lookup 59=some (badObj nm q 59 N 39 bs hdct sn sub ab col dd k0 k1 k2 k3 k5):=⟨_,_,_,_,_,_,_,_,_,_,_,_,_,_,_,rfl⟩
theorem kk_cd (P:Params):∃ cd,clsIn (Mine.F.K P) 59=some cd∧cd.mro=.ref 59::.ref 39::bmV∧cd.hasDict=true:=⟨_,rfl,rfl,rfl⟩
theorem kk_set (P:Params):findIn (Mine.F.K P) (.ref 59) "__setattr__"=some (some (.builtin "object.__setattr__")):=by kernel_rfl
theorem kk_reason (P:Params):findIn (Mine.F.K P) (.ref 59) "reason"=some none:=by kernel_rfl
theorem kk_place (P:Params):findIn (Mine.F.K P) (.ref 59) "place"=some none:=by kernel_rfl
section
variable {prog:Program}{w:World}{A:Around}{E:Value→Shared→Prop}{s:Shared}
theorem ve_init {e t0:Addr}{ob:Obj}{vs:Array Value}{rest:List Value}{Q:Value→Shared→Prop}(X:(KK w).In s.heap)
  (he:s.heap.get? e=some ob) (hcls:ob.cls=.ref 59) (hd:ob.data=.fields vs) (h0:vs[0]? = some (.ref t0))
  (h:Q .none { s with heap:=(s.heap.push { cls:=.type "tuple",data:=.seq rest.toArray }).update e (Obj.mapFields (·.setIfInBounds 0 (.ref s.heap.objs.size))) }) (hrest:rest.length≤sizeLine) :
  wpAny (model prog w) A (call (.builtin "ValueError.__init__") (.ref e::rest)) Q E s:=by
 walk_at "a"
 have F:=PySem.F.excBase_ValueError
 obtain ⟨nm,q,N,bs,hdct,sn,sub,ab,col,dd,k0,k1,k2,k3,k5,hK⟩:=kk_C w.params
 have hC:=X _ _ hK
 refine wpAny_call (codeAny_call_builtin F.init.plain F.initEntry ?_)
 obtain ⟨hh,g,d,t,os⟩:=s
 have hchk:wpAny (model prog w) A.in1 (checkBuiltinCall "ValueError.__init__" ⟨.ref e::rest,[]⟩) (fun _ s'=>wpAny (model prog w) A.in1 (Builtin.«BaseException.__init__» ⟨.ref e::rest,[]⟩) (fun fin s'=>match fin with | .done f=>(match (Except.ok f:Result) with | .ok (.ret v)=>Q v s' | .ok _=>False | .error e=>E e s') | .again c'=>c'.quiet=true∧codeAny (model prog w) A c' (fun r s'=>match r with | .ok (.ret v)=>Q v s' | .ok _=>False | .error e=>E e s') s') (fun e s'=>E e s') s') (fun e s'=>E e s') ⟨hh,g,d,t,os⟩:=?_
 ·exact hchk
 have hcB:(Value.ref 59::.ref 39::bmV).contains (.type "ValueError")=true:=by simp
 have hshort:=F.noStar
 simp only [checkBuiltinCall,F.initKind,F.initSplit,F.initRow]
 repeat (first | (with_reducible refine wpAny_loadPart_at he ?_;rw [hcls]) | with_reducible refine wpAny_loadPart_at hC ?_ | (with_reducible refine wpAny_isSubtype_exc hC ?_;rw [hcB]) | wp_step)
 refine wpAny_onRaise ?_
 rw [show ∀ (a b:String) (n:Nat),Bind.check ⟨.positional,"*","ValueError",.self,[⟨"args",.varPos,false⟩]⟩ a b n (List.map (fun x=>x.fst) ({ pos:=Value.ref e::rest }:Args).kw)=pure () from
  fun a b n=>check_star_args _ _ _ _ _ _]
 refine wpAny_pure ?_
 unfold Builtin.«BaseException.__init__»
 dsimp only
 rw [if_neg (by simp)]
 unfold newTuple Builtin.BaseException.bexcPut
 have hsz:0<vs.size:=(Array.getElem?_eq_some_iff.mp h0).1
 have he₁:=Heap.get?_push_of_some (h:=hh) { cls:=.type "tuple",data:=.seq rest.toArray } he
 refine wpAny_bind (wpAny_newObj_type (wpAny_bind (wpAny_bind (wpAny_field he₁ hd h0 (wpAny_bind (wpAny_setField he₁ hd hsz ?_))))) (by show rest.toArray.size≤sizeLine;rw [List.size_toArray];exact hrest))
 exact wpAny_letGo (wpAny_pure h)
 walk_at "z"
theorem gem_def (P:Params):∃ name dV kV doc pm an cdv ct oc od osl T o tq n,(Mine.F.K P).lookup 36=some ⟨oc,od,.func (fnOf name "GemError.__init__" Mine.F.params_GemError___init__ Mine.F.body_GemError___init__ Mine.F.scope_GemError___init__ dV kV doc pm an cdv ct),osl⟩∧codeIn (Mine.F.K P) cdv "GemError.__init__"=true ∧
  dV=.ref T∧(Mine.F.K P).lookup T=some o∧o.data=.seq #[.str ⟨#[]⟩ tq] n:=by
 walk_at "a"
 exact ⟨_,_,_,_,_,_,_,_,_,_,_,_,_,_,_,rfl,by kernel_rfl,rfl,rfl,rfl⟩
 walk_at "z"
theorem bad_def (P:Params):∃ name doc pm an cdv ct oc od osl,(Mine.F.K P).lookup 56=some ⟨oc,od,.func (fnOf name "BadToken.__init__" Mine.F.params_BadToken___init__ Mine.F.body_BadToken___init__ Mine.F.scope_BadToken___init__ .none .none doc pm an cdv ct),osl⟩∧codeIn (Mine.F.K P) cdv "BadToken.__init__"=true:=⟨_,_,_,_,_,_,_,_,_,rfl,by kernel_rfl⟩
theorem kk_ve (P:Params):findCls (Mine.F.K P) (.type "ValueError") (.type "type") "__init__"=some (.val (.builtin "ValueError.__init__")):=by kernel_rfl
theorem kk_nve (P:Params):nsIn (Mine.F.K P) mainGlobals "ValueError"=some none:=by kernel_rfl
theorem kk_gem (P:Params):nsIn (Mine.F.K P) mainGlobals "GemError"=some (some (.ref 39)):=by kernel_rfl
theorem bb_ve:bootBuiltins "ValueError"=some (.type "ValueError"):=by kernel_rfl
theorem ty_ve:typeOf (.type "ValueError")=pure (.type "type"):=by kernel_rfl
theorem stub_ve:Manifest.isStub "ValueError"=false:=by decide +kernel
section
variable {p:Program}{loose:List Str}{mg mb:Str→Option Value}{g:Heap}{e:Addr}{x:Str}{tx:Tok}
theorem gem_body {o:Obj}{a0 L:Addr}{cdv:Value}{m:Str→Option Value}{Q:Flow→Shared→Prop}(X:(KK w).In g)(T:TopRead p loose mg mb g)(Fm:Fr g L s.heap m)(hself:m "self"=some (.ref e))(hreason:m "reason"=some (.str x tx))
  (he:s.heap.get? e=some o) (hcl:o.cls=.ref 59) (hdn:o.dict=none) (hd:o.data=excD (.ref a0)) (heg:g.get? e=none) (hLe:L≠e)
  (hq:∀ h' tk' a0' dx o',(∀ b ob,b≠e→s.heap.get? b=some ob→h'.get? b=some ob)→h'.get? e=some o'→o'.cls=.ref 59→o'.data=excD (.ref a0')→o'.dict=some dx→s.heap.get? dx=none →
   h'.Inst e 59 (fun y=>if y="reason" then some (.str x tx) else none)→Q .next { s with heap:=h',toks:=tk' }) :
  wpAny (model prog w) A (execs Mine.F.body_GemError___init__ (envX "GemError.__init__" Mine.F.scope_GemError___init__ L 36 cdv [])) Q E s:=by
 walk_at "a"
 refine wpAny_execs_cons (wpAny_Expr_any (MethodCall_ (nameX_B Fm X T (kk_nve _) bb_ve (by decide) ?_) (by rfl)) (by rfl) (by rfl))
 have hh:handedIn (.builtin "ValueError.__init__")=true:=by kernel_rfl
 have hf:findCls (KK w) (.type "ValueError") (.type "type") "__init__"=some (.val (.builtin "ValueError.__init__")):=kk_ve w.params
 refine method_type (K:=KK w) (T:="ValueError") (name:="__init__") (v:=.builtin "ValueError.__init__") Fm X ty_ve stub_ve hf hh ?_
 refine callWith_method1 (spliced_more (nameX_L Fm hself ?_ (by rfl) (by rfl) (by decide)) (by rfl)) (by rfl) (by rfl)
 refine spliced_more (nameX_L Fm hreason ?_ (by rfl) (by rfl) (by decide)) (by rfl)
 refine spliced_none ?_
 have XK:(KK w).In s.heap:=X.keeps Fm.keep
 refine ve_init (s:={ s with toks:=s.toks+1 }) XK he hcl hd rfl ?_ (Nat.le_trans (show 1≤100000 by decide) gJ)
 obtain ⟨h,gg,d,t,os⟩:=s
 dsimp only at *
 have hk2:∀ b ob,b≠e→h.get? b=some ob→((h.push { cls:=.type "tuple",data:=.seq #[Value.str x tx] }).update e (Obj.mapFields (·.setIfInBounds 0 (.ref h.objs.size)))).get? b=some ob:=fun b ob hb hg=>by
  rw [Heap.get?_update_ne _ _ _ _ hb];exact Heap.get?_push_of_some _ hg
 have he2:((h.push { cls:=.type "tuple",data:=.seq #[Value.str x tx] }).update e (Obj.mapFields (·.setIfInBounds 0 (.ref h.objs.size)))).get? e=some (o.mapFields (·.setIfInBounds 0 (.ref h.objs.size))) :=
  Heap.get?_update_self _ (Heap.get?_push_of_some _ he) (Obj.isFreed_of_fields (Obj.data_mapFields hd _))
 have hd2:(o.mapFields (·.setIfInBounds 0 (.ref h.objs.size))).data=excD (.ref h.objs.size):=by rw [Obj.data_mapFields hd];rfl
 have hc2:(o.mapFields (·.setIfInBounds 0 (.ref h.objs.size))).cls=.ref 59:=by rw [Obj.cls_mapFields];exact hcl
 have hn2:(o.mapFields (·.setIfInBounds 0 (.ref h.objs.size))).dict=none:=by
  obtain ⟨oc,od,odt,osl⟩:=o
  cases hd
  exact hdn
 generalize ((h.push { cls:=.type "tuple",data:=.seq #[Value.str x tx] }).update e (Obj.mapFields (·.setIfInBounds 0 (.ref h.objs.size))))=h2 at *
 generalize (o.mapFields (·.setIfInBounds 0 (.ref h.objs.size)))=o2 at *
 have F2:Fr g L h2 m:=by
  obtain ⟨oL,es,ep,hL,hr⟩:=Fm.ns
  exact ⟨⟨oL,es,ep,hk2 _ _ hLe hL,hr⟩,fun b ob hb=>hk2 b ob (fun q=>by rw [q,heg] at hb;cases hb) (Fm.keep b ob hb),Fm.above⟩
 refine wpAny_execs_cons (plainObj_wpAny_Assign_Attribute (nameX_L F2 hreason (nameX_L F2 hself ?_ (by rfl) (by rfl) (by decide)) (by rfl) (by rfl) (by decide)) (by rfl))
 obtain ⟨cd,hcd,hcm,hch⟩:=kk_cd w.params
 refine exc_store (s:=⟨h2,gg,d,t+1,os⟩) (K:=KK w) (mA:=fun _=>none) (ns:=[]) (X.keeps F2.keep) (kk_set _) hcd hcm hch (kk_reason _) ⟨o2,he2,hc2,(fun c q=>by rw [hd2] at q;cases q),.inl ⟨hn2,fun _=>rfl⟩⟩ Within.nil (by decide) fun h' tk' I' S=>?_
 obtain ⟨o1,dx,s1,s2,s3,s4,s5⟩:=S.self _ he2
 refine wpAny_execs_nil (hq h' tk' _ dx o1 (fun b ob hb hg=>S.rest b ob hb (fun o₀ dx' e1 e2=>?_) (hk2 b ob hb hg)) s1 (s2.trans hc2) (s3.trans hd2) s4 ?_ I')
 ·rw [he2] at e1;cases e1;rw [hn2] at e2;cases e2
 ·rcases s5 with s5 | s5
  ·rw [hn2] at s5;cases s5
  ·cases q:h.get? dx with
   | none=>rfl
   | some ob =>
    by_cases hx:dx=e
    ·rw [hx,he2] at s5;cases s5
    ·rw [hk2 _ _ hx q] at s5;cases s5
 walk_at "z"
theorem gem_init {o:Obj}{a0:Addr}{Q:Value→Shared→Prop}(X:(KK w).In g)(T:TopRead p loose mg mb g)(hg:g.StaysIn s.heap)(heg:g.get? e=none)
  (he:s.heap.get? e=some o) (hcl:o.cls=.ref 59) (hdn:o.dict=none) (hd:o.data=excD (.ref a0)) (hroom:A.depth<recursionLimit)
  (hq:∀ h' tk' a0' dx o',(∀ b ob,b≠e→s.heap.get? b=some ob→h'.get? b=some ob)→h'.get? e=some o'→o'.cls=.ref 59→o'.data=excD (.ref a0')→o'.dict=some dx→s.heap.get? dx=none →
   h'.Inst e 59 (fun y=>if y="reason" then some (.str x tx) else none)→Q .none { s with heap:=h',toks:=tk' }) :
  wpAny (model prog w) A (call (.ref 36) [.ref e,.str x tx]) Q E s:=by
 walk_at "a"
 obtain ⟨name,dV,kV,doc,pm,an,cdv,ct,oc,od,osl,TT,oT,tq,n,hK,hcd,rfl,hT,hs⟩:=gem_def w.params
 have XK:(KK w).In s.heap:=X.keeps hg
 refine wpAny_call (codeAny_call_def (fd:=fnOf name "GemError.__init__" Mine.F.params_GemError___init__ Mine.F.body_GemError___init__ Mine.F.scope_GemError___init__ (.ref TT) kV doc pm an cdv ct) (body:=Mine.F.body_GemError___init__) (binds:=[("self",.ref e),("reason",.str x tx)]) hroom (XK _ _ hK) rfl (T.nolimit.keeps hg) (codeRec_of XK hcd) rfl
  (binds_K XK rfl hT hs rfl (by kernel_rfl)) (by show ∀ x∈Mine.F.scope_GemError___init__.names,x.2≠.cell;decide) (fun y hy=>by simp only [List.mem_cons,List.not_mem_nil,or_false] at hy;rcases hy with rfl | rfl<;>rfl) (fun h₁ hns hk₁=>?_) rfl rfl rfl)
 have sg:g.StaysIn (hideAll s.heap [e]):=fun b ob hb=>hideAll_get _ (hg b ob hb) (fun q=>by rw [List.mem_singleton.mp q,heg] at hb;cases hb)
 have Xs:(KK w).In (hideAll s.heap [e]):=X.keeps sg
 have Ts:=T.keeps sg
 have Fm:Fr (hideAll s.heap [e]) s.heap.objs.size h₁ (fun y=>List.lookup y ([("self",.ref e),("reason",.str x tx)]:List (Str×Value)).reverse):=⟨hns,fun b ob hb=>hk₁ b ob (of_hideAll _ hb),Nat.le_of_eq (hideAll_size _ _)⟩
 have he₁:=hk₁ _ _ he
 have heL:e<s.heap.objs.size:=Heap.lt_size he
 refine gem_body (s:={ s with heap:=h₁,toks:=s.toks+2 }) (cdv:=cdv) Xs Ts Fm rfl rfl he₁ hcl hdn hd (hideAll_none _ (List.mem_singleton.mpr rfl)) (Nat.ne_of_gt heL) fun h' tk' a0' dx o' k1 k2 k3 k4 k5 k6 k7=>?_
 refine hq h' tk' a0' dx o' (fun b ob hb hg=>k1 b ob hb (hk₁ _ _ hg)) k2 k3 k4 k5 ?_ k7
 cases q:s.heap.get? dx with
 | none=>rfl
 | some ob=>rw [show h₁.get? dx=some ob from hk₁ _ _ q] at k6;cases k6
 walk_at "z"
theorem kk_sp39 (P:Params):specialIn (Mine.F.K P) (.ref 39) "__getattribute__"=some (some (.builtin "type.__getattribute__")):=by kernel_rfl
theorem kk_ty39 (P:Params):typeIn (Mine.F.K P) (.ref 39)=some (.type "type"):=by kernel_rfl
theorem kk_rd39 (P:Params):readsIn (Mine.F.K P) 39 (.type "type")=true:=by kernel_rfl
theorem kk_fc39 (P:Params):findCls (Mine.F.K P) (.ref 39) (.type "type") "__init__"=some (.val (.ref 36)):=by kernel_rfl
theorem kk_keep36 (P:Params):keepIn (Mine.F.K P) (.ref 36)=true:=by kernel_rfl
theorem bad_body {o:Obj}{a0 L:Addr}{cdv pv:Value}{m:Str→Option Value}{Q:Flow→Shared→Prop}(X:(KK w).In g)(T:TopRead p loose mg mb g)(Fm:Fr g L s.heap m)(hself:m "self"=some (.ref e))(hplace:m "place"=some pv)(hreason:m "reason"=some (.str x tx))
  (he:s.heap.get? e=some o) (hcl:o.cls=.ref 59) (hdn:o.dict=none) (hd:o.data=excD (.ref a0)) (heg:g.get? e=none) (hLe:L≠e) (hroom:A.depth<recursionLimit)
  (hq:∀ h' tk' a0' o',(∀ b ob,b≠e→s.heap.get? b=some ob→h'.get? b=some ob)→h'.get? e=some o'→o'.cls=.ref 59→o'.data=excD (.ref a0')→Q .next { s with heap:=h',toks:=tk' }) :
  wpAny (model prog w) A (execs Mine.F.body_BadToken___init__ (envX "BadToken.__init__" Mine.F.scope_BadToken___init__ L 56 cdv [])) Q E s:=by
 walk_at "a"
 have hn:nsIn (KK w) mainGlobals "GemError"=some (some (.ref 39)):=kk_gem w.params
 have h1:specialIn (KK w) (.ref 39) "__getattribute__"=some (some (.builtin "type.__getattribute__")):=kk_sp39 w.params
 have h2:typeIn (KK w) (.ref 39)=some (.type "type"):=kk_ty39 w.params
 have h3:readsIn (KK w) 39 (.type "type")=true:=kk_rd39 w.params
 have h4:findCls (KK w) (.ref 39) (.type "type") "__init__"=some (.val (.ref 36)):=kk_fc39 w.params
 have h5:keepIn (KK w) (.ref 36)=true:=kk_keep36 w.params
 refine wpAny_execs_cons (wpAny_Expr_any (MethodCall_ (nameX_K Fm X T hn ?_) (by rfl)) (by rfl) (by rfl))
 refine method_of_cls Fm X h1 (cls_val Fm X h2 h3 h4 (by rfl) ?_)
 refine callWith_K X h5 (spliced_more (nameX_L Fm hself ?_ (by rfl) (by rfl) (by decide)) (by rfl)) (by rfl) (by rfl)
 refine spliced_more (nameX_L Fm hreason ?_ (by rfl) (by rfl) (by decide)) (by rfl)
 refine spliced_none ⟨X.keeps Fm.keep,?_⟩
 refine gem_init (s:={ s with toks:=s.toks+1 }) X T Fm.keep heg he hcl hdn hd hroom fun h' tk' a0' dx o2 k1 he2 hc2 hd2 hx2 hxn I2=>?_
 obtain ⟨h,gg,d,t,os⟩:=s
 dsimp only at *
 have F2:Fr g L h' m:=by
  obtain ⟨oL,es,ep,hL,hr⟩:=Fm.ns
  exact ⟨⟨oL,es,ep,k1 _ _ hLe hL,hr⟩,fun b ob hb=>k1 b ob (fun q=>by rw [q,heg] at hb;cases hb) (Fm.keep b ob hb),Fm.above⟩
 refine wpAny_execs_cons (plainObj_wpAny_Assign_Attribute (nameX_L F2 hplace (nameX_L F2 hself ?_ (by rfl) (by rfl) (by decide)) (by rfl) (by rfl) (by decide)) (by rfl))
 obtain ⟨cd,hcd,hcm,hch⟩:=kk_cd w.params
 refine exc_store (s:=⟨h',gg,d,tk',os⟩) (K:=KK w) (ns:=["reason"]) (X.keeps F2.keep) (kk_set _) hcd hcm hch (kk_place _) I2 (Within.cons _ _ Within.nil) (by decide) fun h'' tk'' I' S=>?_
 obtain ⟨o1,dx',s1,s2,s3,s4,s5⟩:=S.self _ he2
 refine wpAny_execs_nil (hq h'' tk'' _ o1 (fun b ob hb hg=>S.rest b ob hb (fun o₀ dx'' e1 e2=>?_) (k1 b ob hb hg)) s1 (s2.trans hc2) (s3.trans hd2))
 rw [he2] at e1;cases e1;rw [hx2] at e2;cases e2
 intro q
 rw [q,hxn] at hg;cases hg
 walk_at "z"
theorem bad_init {o:Obj}{a0:Addr}{pv:Value}{Q:Value→Shared→Prop}(X:(KK w).In g)(T:TopRead p loose mg mb g)(hg:g.StaysIn s.heap)(heg:g.get? e=none)
  (he:s.heap.get? e=some o) (hcl:o.cls=.ref 59) (hdn:o.dict=none) (hd:o.data=excD (.ref a0)) (hroom:A.depth+1<recursionLimit)
  (hq:∀ h' tk' a0' o',(∀ b ob,b≠e→s.heap.get? b=some ob→h'.get? b=some ob)→h'.get? e=some o'→o'.cls=.ref 59→o'.data=excD (.ref a0')→Q .none { s with heap:=h',toks:=tk' }) :
  wpAny (model prog w) A (call (.ref 56) [.ref e,pv,.str x tx]) Q E s:=by
 walk_at "a"
 obtain ⟨name,doc,pm,an,cdv,ct,oc,od,osl,hK,hcd⟩:=bad_def w.params
 have XK:(KK w).In s.heap:=X.keeps hg
 refine wpAny_call (codeAny_call_def (fd:=fnOf name "BadToken.__init__" Mine.F.params_BadToken___init__ Mine.F.body_BadToken___init__ Mine.F.scope_BadToken___init__ .none .none doc pm an cdv ct) (body:=Mine.F.body_BadToken___init__) (binds:=[("self",.ref e),("place",pv),("reason",.str x tx)]) (Nat.lt_of_succ_lt hroom) (XK _ _ hK) rfl (T.nolimit.keeps hg) (codeRec_of XK hcd) rfl
  (BindsTo.of_eq (by kernel_rfl)) (by show ∀ x∈Mine.F.scope_BadToken___init__.names,x.2≠.cell;decide) (fun y hy=>by simp only [List.mem_cons,List.not_mem_nil,or_false] at hy;rcases hy with rfl | rfl | rfl<;>rfl) (fun h₁ hns hk₁=>?_) rfl rfl rfl)
 have sg:g.StaysIn (hideAll s.heap [e]):=fun b ob hb=>hideAll_get _ (hg b ob hb) (fun q=>by rw [List.mem_singleton.mp q,heg] at hb;cases hb)
 have Xs:(KK w).In (hideAll s.heap [e]):=X.keeps sg
 have Ts:=T.keeps sg
 have Fm:Fr (hideAll s.heap [e]) s.heap.objs.size h₁ (fun y=>List.lookup y ([("self",.ref e),("place",pv),("reason",.str x tx)]:List (Str×Value)).reverse):=⟨hns,fun b ob hb=>hk₁ b ob (of_hideAll _ hb),Nat.le_of_eq (hideAll_size _ _)⟩
 have he₁:=hk₁ _ _ he
 have heL:e<s.heap.objs.size:=Heap.lt_size he
 refine bad_body (s:={ s with heap:=h₁,toks:=s.toks+3 }) (cdv:=cdv) Xs Ts Fm rfl rfl rfl he₁ hcl hdn hd (hideAll_none _ (List.mem_singleton.mpr rfl)) (Nat.ne_of_gt heL) hroom fun h' tk' a0' o' k1 k2 k3 k4=>?_
 exact hq h' tk' a0' o' (fun b ob hb hg=>k1 b ob hb (hk₁ _ _ hg)) k2 k3 k4
 walk_at "z"
end
end
end Mine
end
section
namespace Mine
structure NewX (h h':Heap)(e:Addr):Prop where
 keeps:∀ b o,h.get? b=some o→h'.get? b=some o
 new:h.get? e=none
 there:∃ o a0,h'.get? e=some o∧o.cls=.ref 59∧o.data=excD (.ref a0)
theorem kk_find59 (P:Params):findIn (Mine.F.K P) (.ref 59) "__init__"=some (some (.ref 56)):=by kernel_rfl
theorem kk_ty56 (P:Params):typeIn (Mine.F.K P) (.ref 56)=some (.type "function"):=by kernel_rfl
theorem kk_keep59 (P:Params):keepIn (Mine.F.K P) (.ref 59)=true:=by kernel_rfl
theorem kk_bad (P:Params):nsIn (Mine.F.K P) mainGlobals "BadToken"=some (some (.ref 59)):=by kernel_rfl
section
variable {prog:Program}{w:World}{A:Around}{E:Value→Shared→Prop}{s:Shared}{p:Program}{loose:List Str}{mg mb:Str→Option Value}{g:Heap}{x:Str}{tx:Tok}
theorem bad_make {pv:Value}{Q:Value→Shared→Prop}(X:(KK w).In g)(T:TopRead p loose mg mb g)(hg:g.StaysIn s.heap)(hroom:A.depth+2<recursionLimit)
  (hq:∀ h' tk' e,NewX s.heap h' e→Q (.ref e) { s with heap:=h',toks:=tk' }) :
  wpAny (model prog w) A (call (.ref 59) [pv,.str x tx]) Q E s:=by
 walk_at "a"
 obtain ⟨nm,q,N,bs,hdct,sn,sub,ab,col,dd,k0,k1,k2,k3,k5,hK⟩:=kk_C w.params
 have XK:(KK w).In s.heap:=X.keeps hg
 obtain ⟨h,gg,d,t,os⟩:=s
 refine bad_call (C:=59) (G:=39) (rest:=[pv,.str x tx]) (fI:=56) (XK _ _ hK) (looks_findIn XK (kk_find59 _)) (fun self=>bind_fn XK self (kk_ty56 _)) (fun h' e nb=>?_) (Nat.le_trans (show 2≤100000 by decide) gJ)
 obtain ⟨o,a0,he,hcl,hdn,hd⟩:=nb.there
 have heg:g.get? e=none:=by
  cases q:g.get? e with
  | none=>rfl
  | some ob=>have:=hg e ob q;rw [show h.get? e=none from nb.new] at this;cases this
 refine bad_init (s:=⟨h',gg,d,t,os⟩) X T (fun b ob hb=>nb.keeps b ob (hg b ob hb)) heg he hcl hdn hd (by show A.depth+1+1<_;exact hroom) fun h'' tk'' a0' o' k1 k2 k3 k4=>⟨rfl,?_⟩
 refine hq h'' tk'' e ⟨fun b ob hb=>k1 b ob (fun q=>?_) (nb.keeps b ob hb),nb.new,o',a0',k2,k3,k4⟩
 rw [q,show h.get? e=none from nb.new] at hb
 cases hb
 walk_at "z"
theorem raise_bad {env:Env}{v:Sem Value}{Q:Flow→Shared→Prop}(hh:A.handled=none)
  (h:wpAny (model prog w) A v (fun v s₁=>∃ e o a0,v=.ref e∧(KK w).In s₁.heap∧s₁.heap.get? e=some o∧o.cls=.ref 59∧o.data=excD (.ref a0)∧E (.ref e) s₁) E s) :
  wpAny (model prog w) A (raiseStmt env (some v) none) Q E s:=by
 walk_at "a"
 have hcB:(Value.ref 59::.ref 39::bmV).contains (.type "BaseException")=true:=by simp
 unfold raiseStmt
 refine wpAny_bind (wpAny_mono h (fun v s₁ h₁=>?_) fun _ _ x=>x)
 obtain ⟨e,o,a0,rfl,XK,he,hcl,hd,hE⟩:=h₁
 obtain ⟨nm,q,N,bs,hdct,sn,sub,ab,col,dd,k0,k1,k2,k3,k5,hK⟩:=kk_C w.params
 have hC:=XK _ _ hK
 obtain ⟨hp,g,d,tk,os⟩:=s₁
 obtain ⟨oc,od,odt,osl⟩:=o
 cases hcl
 cases hd
 repeat (first | with_reducible refine wpAny_loadPart_at he ?_ | with_reducible refine wpAny_loadPart_at hC ?_ | (with_reducible refine wpAny_isSubtype_exc hC ?_;rw [hcB]) | wp_step)
 exact wpAny_raiseNew_none hh hE
 walk_at "z"
end
section
variable {prog:Program}{w:World}{W:Wd}{σ:St}
theorem leave_new {K:Frag}{b c:Act prog w K}{G:Heap}{t:KtsTurn c.fs c.g G}{hb:Heap}{s':Shared}{W':Wd}{H1 H':List aE}{ρ1:List (Option V)}{m:Str→Option Value}{h₀:Heap}{e:Addr}{Q:Unit→Shared→Prop}{E:Value→Shared→Prop}
  (F:FS b h₀ W σ) (Fg:Fr b.g b.L c.g m) (hm:∀ (k:Nat) (x:Str) (v:V),b.nm[k]? = some x→σ.ρ[k]? = some (some v)→∃ r,m x=some r∧VR w.params W v r) (hout:c.outer=b.env::b.outer) (hbase:c.base=b.base) (hcL:c.g.get? c.L=none)
  (F':FS (c.at G t) hb W' ⟨ρ1,H1⟩) (nx:NewX hb s'.heap e) (X:Ext W W') (C:Close H1 H') (hl:σ.H.length≤H'.length)
  (k:∀ h'',Flies b h'' (W'.cut H'.length) ⟨σ.ρ,H'⟩ e (.ref 59)→Q () { s' with heap:=h'' }):wpAny (model prog w) c.A («leaving» c.env (.ref e)) Q E s':=by
 walk_at "a"
 obtain ⟨m1,Fm1,_⟩:=F'.fr
 obtain ⟨o,a0,he,hcl,hd⟩:=nx.there
 have Xc:=X.cut (k:=H'.length) (by rw [F.inv.lμ];exact hl)
 have K':Below (c.A₀.deeper c.env) c.base (c.env::c.outer) hb:=pushX (env:=c.env) (c.at G t).B Fm1 rfl c.hk
 have hin:∀ env∈(c.env::c.outer),∀ b,env.frame=some b→b∈(c.env::c.outer).filterMap (·.frame):=fun env he b hb=>List.mem_filterMap.mpr ⟨env,he,hb⟩
 have st:c.base.StaysIn (hideAll hb ((c.env::c.outer).filterMap (·.frame))):=fun b o q=>hideAll_get _ (K'.stays b o q) fun hm=>by
  rw [(K'.frames.mem hm).1] at q;cases q
 have fs_eq:(c.env::c.outer).filterMap (·.frame)=c.L::c.fs:=rfl
 have upG:∀ x o,c.g.get? x=some o→∃ sl,hb.get? x=some { o with slots:=sl }:=fun x o e=>by
  obtain ⟨sl,hs⟩:=t.up e
  exact ⟨sl,Fm1.keep _ _ hs⟩
 have ben:(hideAll hb ((c.env::c.outer).filterMap (·.frame))).get? e=none:=by
  cases q:(hideAll hb ((c.env::c.outer).filterMap (·.frame))).get? e with
  | none=>rfl
  | some ob=>have:=of_hideAll _ q;rw [nx.new] at this;cases this
 refine wpAny_leaving_firstW (a0:=.ref a0) c.hA ((funFrames_hide K'.frames hin).of_keeps fun b o hb _=>⟨o,nx.keeps b o hb,rfl⟩) rfl he (fun b o hb=>nx.keeps b o (of_hideAll _ hb)) ben hd rfl rfl fun h' hL=>?_
 obtain ⟨k1,⟨_,_,k2⟩,k3,k4⟩:=hL
 rw [hcl] at k3
 have hf:Heap.FlyingW (hideAll hb ((c.env::c.outer).filterMap (·.frame))) (b.env::b.outer) e (.ref 59) (.ref a0) h':=⟨k1,ben,by rw [← hout];exact k2,k3⟩
 refine k h' ⟨⟨c.g,m,Fg,fun x o e hn=>?_,fun k x v hk hv=>?_,_,_,by rw [← hbase];exact st,fun x o e hx=>?_,fun q hq=>?_,.inl hf⟩,F'.inv.nd,F'.inv.dn.sublist (List.take_sublist _ _),?_,?_,C.ob F'.inv.ob,⟨F'.inv.hdn.1,fun d hd=>F'.inv.hdn.2 d (List.mem_of_mem_take hd)⟩,b.wpx Xc F.cells⟩
 ·obtain ⟨sl,h1⟩:=upG x o e
  obtain ⟨sl2,h2⟩:=k4 _ _ (nx.keeps _ _ h1) hn
  exact ⟨sl2,h2⟩
 ·obtain ⟨r,e1,e2⟩:=hm k x v hk hv
  exact ⟨r,e1,e2.ext Xc⟩
 ·have hx':x∉c.fs:=by
   show x∉c.outer.filterMap (·.frame)
   rw [hout];exact hx
  refine hideAll_get _ (Fm1.keep _ _ (t.other x o e hx')) fun q=>?_
  rw [fs_eq] at q
  rcases List.mem_cons.mp q with q | q
  ·subst q;rw [hcL] at e;cases e
  ·exact hx' q
 ·have hn:=F'.inv.news q hq
  have hgn:c.g.get? q.1=none:=by
   cases z:c.g.get? q.1 with
   | none=>rfl
   | some o =>
    obtain ⟨sl,h4⟩:=t.up z
    rw [show G.get? q.1=none from hn.2.2] at h4;cases h4
  refine ⟨hideAll_get _ hn.1 fun z=>?_,hgn,?_⟩
  ·rw [fs_eq] at z
   rcases List.mem_cons.mp z with z | z
   ·exact hn.2.1 z
   ·obtain ⟨_,o',ho',_⟩:=(c.at G t).B.frames.mem (show q.1∈(c.at G t).outer.filterMap (·.frame) from z)
    rw [show (c.at G t).g.get? q.1=none from hn.2.2] at ho';cases ho'
  ·rw [← hbase];exact fresh_of_stays c.B.stays hgn
 ·show (W'.μ.take _).length=H'.length
  rw [List.length_take,F'.inv.lμ];exact Nat.min_eq_left C.1
 ·show (W'.δ.take _).length=H'.length
  rw [List.length_take,F'.inv.lδ];exact Nat.min_eq_left C.1
 walk_at "z"
end
end Mine
namespace Mine
section
variable {prog:Program}{w:World}{sl:Addr}{sn:List Int}{Γ:CT}{n:Nat}
noncomputable def failP (K:Frag):List V→List aE→Option (Option V×List aE)
 | [v,.str x],H=>(match cR K "place" v ⟨[some v,some (.str x)],H⟩ with | some (some _,_)=>some (none,H) | _=>none)
 | _,_=>none
theorem kk_fail (P:Params):dG (Mine.F.K P) 182 "Scanner.fail" Mine.F.params_Scanner_fail Mine.F.body_Scanner_fail Mine.F.scope_Scanner_fail:=⟨⟨_,_,_,_,_,_,_,_,_,_,_,rfl,by kernel_rfl⟩,by kernel_rfl,by rfl,by rfl,by rfl⟩
theorem fail_def (P:Params):∃ name doc pm an cdv ct oc od osl,(Mine.F.K P).lookup 182=some ⟨oc,od,.func (fnOf name "Scanner.fail" Mine.F.params_Scanner_fail Mine.F.body_Scanner_fail Mine.F.scope_Scanner_fail .none .none doc pm an cdv ct),osl⟩∧codeIn (Mine.F.K P) cdv "Scanner.fail"=true:=⟨_,_,_,_,_,_,_,_,_,rfl,by kernel_rfl⟩
theorem getA_same {K:Frag}{name:Str}{v u:V}{σ σ':St}(h:cR K name v σ=some (some u,σ')):σ'=σ:=by
 walk_at "a"
 refine on1_e (p:=fun z=>z=some (some u,σ')→σ'=σ) (fun i hi e=>cK (fun p hp e=>?_) e) (fun e=>cK (fun C hC e=>cK (fun b hb e=>by cases e;rfl) e) e) h
 by_cases hk:okGet K p.1 name=true
 ·rw [if_pos hk] at e
  refine cK (fun v hv e=>?_) e
  cases hb:v.isBi with
  | true=>rw [hb] at e;cases e
  | false=>rw [hb] at e;cases e;rfl
 ·rw [if_neg hk] at e
  cases e
 walk_at "z"
theorem fail_body {c:Act prog w (KK w)}(hsc:c.sc=Mine.F.scope_Scanner_fail)(hnm:c.nm=[Str.ofString "self",Str.ofString "reason"])(hh:c.A.handled=none)(hroom:c.A.depth+2<recursionLimit){W:Wd}{s:Shared}{v u:V}{x:Str}{H:List aE}{σ':St}
  (F:FL c s.heap W ⟨[some v,some (.str x)],H⟩) (hg:cR (KK w) "place" v ⟨[some v,some (.str x)],H⟩=some (some u,σ')) {Q:Flow→Shared→Prop} {E:Value→Shared→Prop}
  (k:∀ hb W' h' tk' e,FL c hb W' ⟨[some v,some (.str x)],H⟩→Ext W W'→NewX hb h' e→E (.ref e) { s with heap:=h',toks:=tk' }) :
  wpAny (model prog w) c.A (execs Mine.F.body_Scanner_fail c.env) Q E s:=by
 walk_at "a"
 have hL:∀ W,AX c (.ref 59) c.env W { line:=67,col:=14,endLine:=67,endCol:=42 } [(Expr.Name (Str.ofString "self") { line:=67,col:=23,endLine:=67,endCol:=27 }).Attribute
      (Str.ofString "place") { line:=67,col:=23,endLine:=67,endCol:=33 },
     Expr.Name (Str.ofString "reason") { line:=67,col:=35,endLine:=67,endCol:=41 }] (((getVar 0).bind (cR (KK w) "place")).bind fun v=>((getVar 1).bind fun v=>(M.ret []).bind fun vs=>M.ret (v::vs)).bind fun vs=>M.ret (v::vs)):=fun W =>
  aA (bB (fun W=>e_local (by rw [hnm];rfl) (by rw [hsc];rfl) (by decide)) rfl) (aA (fun W=>e_local (by rw [hnm];rfl) (by rw [hsc];rfl) (by decide)) (aM) rfl) rfl W
 have eM:(((getVar 0).bind (cR (KK w) "place")).bind fun v=>((getVar 1).bind fun v=>(M.ret []).bind fun vs=>M.ret (v::vs)).bind fun vs=>M.ret (v::vs)) ⟨[some v,some (.str x)],H⟩=some (some [u,.str x],⟨[some v,some (.str x)],H⟩):=by
  have hg':=getA_same hg
  subst hg'
  simp [M.bind,getVar,hg,M.ret]
 obtain ⟨gg,tt,F0⟩:=id F
 obtain ⟨m,Fm,_⟩:=F0.fr
 have h1:nsIn (KK w) mainGlobals "BadToken"=some (some (.ref 59)):=kk_bad w.params
 have h2:keepIn (KK w) (.ref 59)=true:=kk_keep59 w.params
 refine wpAny_execs_cons ?_
 rw [arm_exec_Raise]
 simp only [evalOpt,Option.map]
 refine wpAny_bind (wpAny_standAt (raise_bad hh (wpAny_bind (wpAny_mono (Call_ (nameX_K Fm (c.at gg tt).X (c.at gg tt).T h1 ?_ c.hk (by show c.sc.names.lookup _=_;rw [hsc];rfl) (by decide)) (by rfl)) (fun v s₃ h₃=>wpAny_bind (wpAny_standAt (wpAny_pure h₃))) fun _ _ x=>x))))
 refine callWith_K (c.at gg tt).X h2 ?_ (by rfl) (by rfl)
 refine (hL W).go s _ _ F eM _ _ ?_
 intro h' tk' W' y F1 X1 hy
 refine ⟨F1.kin,?_⟩
 obtain ⟨G,t,F2⟩:=id F1
 obtain ⟨m2,Fm2,_⟩:=F2.fr
 cases hy with
 | cons hu hy =>
  cases hy with
  | cons hx hy =>
   cases hy
   cases hx
   refine bad_make (s:={ s with heap:=h',toks:=tk' }) (c.at G t).X (c.at G t).T Fm2.keep hroom fun h3 tk3 e nx=>?_
   obtain ⟨o,a0,n1,n2,n3⟩:=nx.there
   exact ⟨e,o,a0,rfl,(F1.kin).keeps nx.keeps,n1,n2,n3,k h' W' h3 tk3 e F1 X1 nx⟩
 walk_at "z"
theorem fail_ok (hn1:1≤n)(G:GOK prog w (KK w) (.ref 59) sl sn Γ n):GOK prog w (KK w) (.ref 59) sl sn (fun f' vs H=>if f'=182 then failP (KK w) vs H else Γ f' vs H) (n+1):=by
 walk_at "a"
 intro a A cal h1 h2 f' vs rs W s σ r FF hv e
 try dsimp only at e
 by_cases q:f'=182
 ·subst q
  rw [if_pos rfl] at e
  have D:=kk_fail w.params
  refine ⟨D.keep,fun R T=>?_⟩
  obtain ⟨gg,tt,F⟩:=FF
  unfold failP at e
  split at e
  ·rename_i v x
   split at e
   ·rename_i u σ' hg
    cases e
    obtain ⟨name,doc,pm,an,cdv,ct,oc,od,osl,hK,hcd⟩:=fail_def w.params
    obtain ⟨m,Fm,hm⟩:=F.fr
    have XK:(KK w).In s.heap:=F.kin
    cases hv with
    | cons hv0 hv =>
    cases hv with
    | cons hv1 hv =>
    cases hv
    cases hv1 with
    | str _ tx =>
    rename_i r0
    obtain ⟨FG,BG,st,_⟩:=groundX (R:=R) (env:=a.env) (a.at gg tt).B Fm F.inv.news cal.fr rfl a.hk
    have hroom:A.depth<recursionLimit:=by have:=cal.hd;lia
    refine codeAny_call_def (fd:=fnOf name "Scanner.fail" Mine.F.params_Scanner_fail Mine.F.body_Scanner_fail Mine.F.scope_Scanner_fail .none .none doc pm an cdv ct) (body:=Mine.F.body_Scanner_fail) (binds:=[("self",r0),("reason",.str x tx)]) hroom (XK _ _ hK) rfl ((a.at gg tt).T.nolimit.keeps Fm.keep) (codeRec_of XK hcd) rfl (BindsTo.of_eq (by kernel_rfl)) (by show ∀ x∈Mine.F.scope_Scanner_fail.names,x.2≠.cell;decide) (fun y hy=>by simp only [List.mem_cons,List.not_mem_nil,or_false] at hy;rcases hy with rfl | rfl<;>rfl) (fun h₁ hns hk₁=>?_) rfl rfl rfl
    let c:Act prog w (KK w):=(a.at gg tt).callee (s:=s) A n "Scanner.fail" Mine.F.scope_Scanner_fail 182 cdv ["self","reason"] [] (fun _=>True) (fun _ h=>h) ⟨cal.fr,cal.hh,cal.hd,cal.hu⟩ BG rfl (by decide)
    have hcg:c.g.objs.size=s.heap.objs.size:=hideAll_size _ _
    have hcL:c.g.get? c.L=none:=by
     cases q:c.g.get? c.L with
     | none=>rfl
     | some o=>exact absurd (Heap.lt_size q) (by rw [hcg];exact Nat.lt_irrefl _)
    have Fc:FS c h₁ W ⟨[some v,some (.str x)],σ.H⟩:=by
     refine ⟨⟨_,⟨hns,fun b o e=>hk₁ b o (of_hideAll _ e),Nat.le_of_eq hcg⟩,fun k y u hk hu=>?_⟩,⟨fun p hp=>⟨hk₁ _ _ (F.inv.news p hp).1,Nat.ne_of_lt (F.inv.lt hp),hideAll_none _ (List.mem_map_of_mem hp)⟩,F.inv.nd,F.inv.dn,F.inv.lμ,F.inv.lδ,F.inv.ob,F.inv.hdn⟩,trivial⟩
     match k,hk,hu with
     | 0,hk,hu=>cases hk;cases hu;exact ⟨r0,rfl,hv0⟩
     | 1,hk,hu=>cases hk;cases hu;exact ⟨.str x tx,rfl,.str _ _⟩
    have hst:(a.at gg tt).g.StaysIn c.g:=st
    have hgc:cR (KK w) "place" v ⟨[some v,some (.str x)],σ.H⟩=some (some u,σ'):=hg
    refine fail_body (c:=c) rfl rfl cal.hh (by have:=cal.hd;show A.depth+1+2<_;lia) (s:={ s with heap:=h₁,toks:=s.toks+2 }) Fc.up hgc fun hb W' h' tk' ex F1 X1 nx=>?_
    obtain ⟨G1,t1,F1⟩:=F1
    refine leave_new (b:=a.at gg tt) (c:=c) (σ:=σ) (H':=σ.H) (s':={ s with heap:=h',toks:=tk' }) F FG hm rfl rfl hcL F1 nx X1 ⟨Nat.le_refl _,fun i o hi=>?_⟩ (Nat.le_refl _) fun h'' F2=>?_
    ·have:=OR.fit (F1.inv.ob i o hi)
     rw [F1.inv.lμ] at this
     exact .inr ⟨hi,this⟩
    ·exact T h'' tk' _ ex ⟨gg,tt,F2⟩ (X1.cut (by rw [F.inv.lμ];exact Nat.le_refl _))
   ·cases e
  ·cases e
 ·have e:Γ f' vs σ.H=some r:=by rw [if_neg q] at e;exact e
  exact G.le (Nat.le_succ n) a A cal h1 h2 f' vs rs W s σ r FF hv e
 walk_at "z"
end
end Mine
end
section
namespace Mine
section
variable {prog:Program}{w:World}{K:Frag}{a:Act prog w K}{exc:Value}{W:Wd}{env:Env}
noncomputable def bD {α:Type}(c:Bool)(x y:M α):M α:=if c then x else y
noncomputable abbrev nmE:Expr:=.Name (Str.ofString "_") ⟨0,0,0,0⟩
theorem cP {value slice:Expr}{pos:Pos}{x y:M V}(hx:∀ W,EX a exc env W value x)(hy:∀ W,EX a exc env W slice y)
  (hs:∀ o k u,subscripted slice false o (.int k u)=operate [o,.int k u] (getItem o (.int k u))) (W:Wd) :
  EX a exc env W (.Subscript value slice pos) (x.bind fun o=>y.bind fun i=>cU o i):=by
 walk_at "a"
 exact 
  (aK.bind (hx W) fun W1 _ o ro ho=>aK.bind (hy W1) fun W2 x2 i ri hi=>(s_item (value:=nmE) (ho.ext x2) hi hs (fun _ _=>rfl)).imp fun _ _ _ z=>kba_turn (fun _=>rfl) z).imp fun _ _ _ z=>Subscript_ z
 walk_at "z"
theorem bY {value:Expr}{lower upper:Option Expr}{p pos:Pos}{x y z:M V}(hx:∀ W,EX a exc env W value x)(hy:∀ W,PX a exc env W lower y)(hz:∀ W,PX a exc env W upper z)
  (hs:∀ o i,subscripted (.Slice lower upper none p) false o i=operate [i,o] (getItem o i)) (W:Wd) :
  EX a exc env W (.Subscript value (.Slice lower upper none p) pos) (x.bind fun o=>y.bind fun l=>z.bind fun u=>bM o l u):=by
 walk_at "a"
 exact 
  (aK.bind (hx W) fun W1 _ o ro ho=>(aK.bind (hy W1) fun W2 x2 l rl hl=>aK.bind (hz W2) fun W3 x3 u ru hu=>(s_slice (value:=nmE) (ho.ext (x2.trans x3)) (hl.ext x3) hu hs (fun _ _=>rfl)).imp fun _ _ _ z=>kba_turn (fun _=>rfl) z).imp fun _ _ _ z=>wpAny_Slice (wpAny_mono z (fun _ _ z=>wpAny_mono z (fun _ _ z=>by rw [evalPart_none];exact wpAny_pure z) fun _ _ e=>e) fun _ _ e=>e)).imp fun _ _ _ z=>Subscript_ z
 walk_at "z"
noncomputable def binL (op:Operator)(x y:V):M V:=match op,x,y with
 | .Add,.lst xs,.lst ys=>if xs.length+ys.length≤100000 then M.ret (.lst (xs++ys)) else M.stuck
 | op,x,y=>bO op x y
theorem s_binL {op:Operator}{x y:V}{rx ry:Value}(hx:VR w.params W x rx)(hy:VR w.params W y ry):Snd a exc W (binaryOp op rx ry) (binL op x y) (VRw w):=by
 walk_at "a"
 unfold binL
 split
 ·rename_i xs ys
  split
  ·rename_i hl
   cases hx with
   | lst h1 m1 d1 =>
   cases hy with
   | lst h2 m2 d2 =>
   rename_i rs1 a1 n1 rs2 a2 n2
   constructor;intro s σ r FF e Q E TT
   obtain ⟨gg,tt,F⟩:=FF
   have T:=TT.at (G:=gg) (t:=tt)
   cases e
   obtain ⟨m,Fm,hm⟩:=F.fr
   refine add_lists Fm F.inv.news (F.inv.isList m1) (F.inv.isList m2) (fun h' Fm' N'=>T h' s.toks (W.put s.heap.objs.size (gI (rs1++rs2) 0)) _ (F.to hm Fm' Ext.put (F.inv.put N' F.fresh)) Ext.put (.lst (n:=0) ((VRs.append h1 h2).ext Ext.put) (.head _) F.freshF)) ?_
   rw [← VRs.length h1,← VRs.length h2]
   exact Nat.le_trans hl gJ
  ·exact aK.stuck
 ·exact s_bin hx hy
 walk_at "z"
theorem e_BinOpL {l r:Expr}{op:Operator}{pos:Pos}{xl xr:M V}(hl:∀ W,EX a exc env W l xl)(hr:∀ W,EX a exc env W r xr)(W:Wd) :
  EX a exc env W (.BinOp l op r pos) (xl.bind fun x=>xr.bind fun y=>binL op x y) :=
 (aK.bind (hl W) fun W1 _ x rx hx=>aK.bind (hr W1) fun W2 x2 y ry hy=>s_binL (hx.ext x2) hy).imp fun _ _ _ z=>wpAny_BinOp z
theorem eB:interactive a.env=false:=by
 walk_at "a"
 have:(a.sc.kind==ScopeKind.module)=false:=by rw [a.hk];rfl
 show (a.sc.kind==ScopeKind.module&&_)=false
 rw [this];rfl
 walk_at "z"
theorem lk {c:Act prog w K}{nm:List Str}{k:Nat}{x:Str}(h:c.nm=nm)(e:nm[k]? = some x):c.nm[k]? = some x:=by
 walk_at "a"
 rw [h];exact e
 walk_at "z"
theorem lx {c:Act prog w K}{sc:Scope}{x:Str}{k:NameKind}(h:c.sc=sc)(e:sc.names.lookup x=some k):c.sc.names.lookup x=some k:=by
 walk_at "a"
 rw [h];exact e
 walk_at "z"
theorem lsc {α:Type}{c:Act prog w K}{sc:Scope}{f:Env→α}{y:α}(h:c.sc=sc)(e:∀ q L g cd cl,f (envX q sc L g cd cl)=y):f c.env=y:=by
 walk_at "a"
 show f (envX c.qual c.sc c.L c.f c.cd c.cl)=y
 rw [h];exact e _ _ _ _ _
 walk_at "z"
theorem COK.blk {Γ:CT}(G:COK a exc Γ){C:Addr}{oC:Obj}{v:V}{rv:Value}:COK (a.blk C oC v rv) exc Γ:=by
 walk_at "a"
 intro f vs rs W s σ r F hv e
 obtain ⟨gg,tt,F⟩:=F
 have wb:=F.cells
 have F':FL a s.heap W σ:=⟨gg,tt,⟨F.fr,F.inv,wb.1⟩⟩
 refine ⟨(G f vs rs W s σ r F' hv e).1,fun R T=>(G f vs rs W s σ r F' hv e).2 R ?_⟩
 obtain ⟨r1,r2⟩:=r
 cases r1 with
 | none =>
  intro h' tk' W' ex Fl X
  obtain ⟨g2,t2,F2⟩:=Fl
  exact T h' tk' W' ex ⟨g2,t2,⟨F2.ex,F2.nd,F2.dn,F2.lμ,F2.lδ,F2.ob,F2.hdn,(a.blk C oC v rv).wpx X wb⟩⟩ X
 | some u =>
  intro h' tk' W' y Fl X hy
  obtain ⟨g2,t2,F2⟩:=Fl
  exact T h' tk' W' y ⟨g2,t2,⟨F2.fr,F2.inv,(a.blk C oC v rv).wpx X wb⟩⟩ X hy
 walk_at "z"
theorem closX {scope:Scope}{cl cl':List (Str×Addr)}(h:a.cl=cl)(e:∀ q sc L g cd,closureFor scope (envX q sc L g cd cl)=pure cl'):closureFor scope a.env=pure cl':=by
 walk_at "a"
 show closureFor scope (envX a.qual a.sc a.L a.f a.cd a.cl)=_
 rw [h];exact e _ _ _ _ _
 walk_at "z"
end
end Mine
end
section
namespace Mine
noncomputable def lok (nm:List Str)(sc:Scope)(k:Nat)(x:Str):Prop:=nm[k]? = some x∧sc.names.lookup x=some .local∧(x==("__debug__":Str))=false
theorem aD {prog:Program}{w:World}{K:Frag}{c:Act prog w K}{exc:Value}{nm:List Str}{sc:Scope}{x:Str}{k:Nat}{pos:Pos}(hnm:c.nm=nm)(hsc:c.sc=sc)(h:lok nm sc k x:=by exact ⟨rfl,rfl,by decide⟩)(W:Wd):EX c exc c.env W (.Name x pos) (getVar k):=e_local (lk hnm h.1) (lx hsc h.2.1) h.2.2
theorem kg_BASES (P:Params):nsIn (F.K P) mainGlobals "BASES"=some (some (.ref 80)):=by kernel_rfl
theorem kg_BadToken (P:Params):nsIn (F.K P) mainGlobals "BadToken"=some (some (.ref 59)):=by kernel_rfl
theorem kg_ESCAPES (P:Params):nsIn (F.K P) mainGlobals "ESCAPES"=some (some (.ref 79)):=by kernel_rfl
theorem kg_LONGEST_OPERATOR (P:Params):nsIn (F.K P) mainGlobals "LONGEST_OPERATOR"=some (some (.int 3 483)):=by kernel_rfl
theorem kg_Lexer (P:Params):nsIn (F.K P) mainGlobals "Lexer"=some (some (.ref 479)):=by kernel_rfl
theorem kg_METHOD_OPERATORS (P:Params):nsIn (F.K P) mainGlobals "METHOD_OPERATORS"=some (some (.ref 68)):=by kernel_rfl
theorem kg_OPERATORS (P:Params):nsIn (F.K P) mainGlobals "OPERATORS"=some (some (.ref 64)):=by kernel_rfl
theorem kg_Scanner (P:Params):nsIn (F.K P) mainGlobals "Scanner"=some (some (.ref 199)):=by kernel_rfl
theorem kg_Signs (P:Params):nsIn (F.K P) mainGlobals "Signs"=some (some (.ref 128)):=by kernel_rfl
theorem kg_TextScanner (P:Params):nsIn (F.K P) mainGlobals "TextScanner"=some (some (.ref 248)):=by kernel_rfl
theorem kg_Token (P:Params):nsIn (F.K P) mainGlobals "Token"=some (some (.ref 97)):=by kernel_rfl
theorem kg_law_at (P:Params):nsIn (F.K P) mainGlobals "_law_at"=some (some (.ref F.at_law_at)):=by kernel_rfl
theorem eE (P:Params):nsIn (F.K P) mainGlobals "_law_code_end"=some (some (.ref F.at_law_code_end)):=by kernel_rfl
theorem kg_law_double (P:Params):nsIn (F.K P) mainGlobals "_law_double"=some (some (.ref F.at_law_double)):=by kernel_rfl
theorem kg_law_line (P:Params):nsIn (F.K P) mainGlobals "_law_line"=some (some (.ref F.at_law_line)):=by kernel_rfl
theorem kg_law_longest (P:Params):nsIn (F.K P) mainGlobals "_law_longest"=some (some (.ref F.at_law_longest)):=by kernel_rfl
theorem kg_law_number (P:Params):nsIn (F.K P) mainGlobals "_law_number"=some (some (.ref F.at_law_number)):=by kernel_rfl
theorem kg_law_signs (P:Params):nsIn (F.K P) mainGlobals "_law_signs"=some (some (.ref F.at_law_signs)):=by kernel_rfl
theorem kg_law_single (P:Params):nsIn (F.K P) mainGlobals "_law_single"=some (some (.ref F.at_law_single)):=by kernel_rfl
theorem kg_law_steps_right (P:Params):nsIn (F.K P) mainGlobals "_law_steps_right"=some (some (.ref F.at_law_steps_right)):=by kernel_rfl
theorem kg_law_texts_right (P:Params):nsIn (F.K P) mainGlobals "_law_texts_right"=some (some (.ref F.at_law_texts_right)):=by kernel_rfl
theorem kg_law_whole_right (P:Params):nsIn (F.K P) mainGlobals "_law_whole_right"=some (some (.ref F.at_law_whole_right)):=by kernel_rfl
theorem kg_law_word (P:Params):nsIn (F.K P) mainGlobals "_law_word"=some (some (.ref F.at_law_word)):=by kernel_rfl
theorem hR (P:Params):nsIn (F.K P) mainGlobals "_law_worth"=some (some (.ref F.at_law_worth)):=by kernel_rfl
theorem fU (P:Params):nsIn (F.K P) mainGlobals "digit_value"=some (some (.ref F.at_digit_value)):=by kernel_rfl
theorem kg_is_digit (P:Params):nsIn (F.K P) mainGlobals "is_digit"=some (some (.ref F.at_is_digit)):=by kernel_rfl
theorem kb_abs (P:Params):nsIn (F.K P) mainGlobals "abs"=some none:=by kernel_rfl
theorem bb_abs:bootBuiltins "abs"=some (.builtin "abs"):=by kernel_rfl
theorem kb_bool (P:Params):nsIn (F.K P) mainGlobals "bool"=some none:=by kernel_rfl
theorem bb_bool:bootBuiltins "bool"=some (.type "bool"):=by kernel_rfl
theorem gH (P:Params):nsIn (F.K P) mainGlobals "chr"=some none:=by kernel_rfl
theorem iL:bootBuiltins "chr"=some (.builtin "chr"):=by kernel_rfl
theorem kb_int (P:Params):nsIn (F.K P) mainGlobals "int"=some none:=by kernel_rfl
theorem bb_int:bootBuiltins "int"=some (.type "int"):=by kernel_rfl
theorem kb_isinstance (P:Params):nsIn (F.K P) mainGlobals "isinstance"=some none:=by kernel_rfl
theorem bb_isinstance:bootBuiltins "isinstance"=some (.builtin "isinstance"):=by kernel_rfl
theorem eS (P:Params):nsIn (F.K P) mainGlobals "len"=some none:=by kernel_rfl
theorem eV:bootBuiltins "len"=some (.builtin "len"):=by kernel_rfl
theorem kb_ord (P:Params):nsIn (F.K P) mainGlobals "ord"=some none:=by kernel_rfl
theorem bb_ord:bootBuiltins "ord"=some (.builtin "ord"):=by kernel_rfl
theorem kb_range (P:Params):nsIn (F.K P) mainGlobals "range"=some none:=by kernel_rfl
theorem bb_range:bootBuiltins "range"=some (.type "range"):=by kernel_rfl
theorem kb_str (P:Params):nsIn (F.K P) mainGlobals "str"=some none:=by kernel_rfl
theorem bb_str:bootBuiltins "str"=some (.type "str"):=by kernel_rfl
noncomputable def nm_Token___init__:List Str:=["self","kind","value","line","spaced","place"]
noncomputable def fZ (K:Frag)(Γ:CT):M Fl:=(aF ((getVar 1).bind fun v1=>(getVar 0).bind fun o2=>(dN K "kind" o2 v1).bind fun _=>M.ret Fl.next) (aF ((getVar 2).bind fun v3=>(getVar 0).bind fun o4=>(dN K "value" o4 v3).bind fun _=>M.ret Fl.next) (aF ((getVar 3).bind fun v5=>(getVar 0).bind fun o6=>(dN K "line" o6 v5).bind fun _=>M.ret Fl.next) (aF ((getVar 4).bind fun v7=>(getVar 0).bind fun o8=>(dN K "spaced" o8 v7).bind fun _=>M.ret Fl.next) (aF ((getVar 5).bind fun v9=>(getVar 0).bind fun o10=>(dN K "place" o10 v9).bind fun _=>M.ret Fl.next) (M.ret Fl.next))))))
theorem bx_Token___init__ {prog:Program}{w:World}{c:Act prog w (KK w)}{Γ:CT}(hsc:c.sc=F.scope_Token___init__)(hnm:c.nm=nm_Token___init__)(hh:c.A.handled=none)(G:COK c (.ref 59) Γ)(hwp:c.wp=fun _=>True)(W:Wd):BX c (.ref 59) c.env W F.body_Token___init__ (fZ (KK w) Γ):=by
 have hwv:∀ {W W':Wd},dJ W W'→c.wp W→c.wp W':=fun x h=>by rw [hwp] at h ⊢;trivial
 exact aB (cC (aD hnm hsc) (aD hnm hsc) (by rfl)) (aB (cC (aD hnm hsc) (aD hnm hsc) (by rfl)) (aB (cC (aD hnm hsc) (aD hnm hsc) (by rfl)) (aB (cC (aD hnm hsc) (aD hnm hsc) (by rfl)) (aB (cC (aD hnm hsc) (aD hnm hsc) (by rfl)) aO)))) W
noncomputable def nm_is_digit:List Str:=["sign"]
noncomputable def iM (K:Frag)(Γ:CT):M Fl:=(aF (((M.ret (.str "0")).bind fun x1=>(getVar 0).bind fun y2=>(aY .LtE x1 y2).bind fun c4=>(bI c4).bind fun t5=>bD t5 ((M.ret (.str "9")).bind fun z3=>aY .LtE y2 z3) (M.ret c4)).bind fun v6=>M.ret (.ret v6)) (M.ret Fl.next))
theorem bx_is_digit {prog:Program}{w:World}{c:Act prog w (KK w)}{Γ:CT}(hsc:c.sc=F.scope_is_digit)(hnm:c.nm=nm_is_digit)(hh:c.A.handled=none)(G:COK c (.ref 59) Γ)(hwp:c.wp=fun _=>True)(W:Wd):BX c (.ref 59) c.env W F.body_is_digit (iM (KK w) Γ):=by
 have hwv:∀ {W W':Wd},dJ W W'→c.wp W→c.wp W':=fun x h=>by rw [hwp] at h ⊢;trivial
 exact aB (aX (e_Chain (bP) (aD hnm hsc) (bP) (by rfl))) aO W
noncomputable def nm_digit_value:List Str:=["sign","lower"]
noncomputable def dS (K:Frag)(Γ:CT):M Fl:=(aF ((((M.ret (.const F.at_is_digit)).bind fun f3=>aC K Γ f3 [] ((getVar 0).bind fun v1=>(M.ret []).bind fun w2=>M.ret (v1::w2))).bind bI).bind fun c13=>bD c13 (aF ((((M.ret (.bi "ord")).bind fun f6=>aC K Γ f6 [] ((getVar 0).bind fun v4=>(M.ret []).bind fun w5=>M.ret (v4::w5))).bind fun x10=>((M.ret (.bi "ord")).bind fun f9=>aC K Γ f9 [] ((M.ret (.str "0")).bind fun v7=>(M.ret []).bind fun w8=>M.ret (v7::w8))).bind fun y11=>bO .Sub x10 y11).bind fun v12=>M.ret (.ret v12)) (M.ret Fl.next)) (M.ret Fl.next)) (aF (((getVar 0).bind fun v14=>(getM K "lower" v14).bind fun c15=>bU K Γ c15.1 c15.2).bind fun v16=>(aJ 1 v16).bind fun _=>M.ret Fl.next) (aF ((((((M.ret (.bi "len")).bind fun f19=>aC K Γ f19 [] ((getVar 1).bind fun v17=>(M.ret []).bind fun w18=>M.ret (v17::w18))).bind fun x20=>(M.ret (.int 1)).bind fun y21=>(aY .Eq x20 y21).bind bI).bind fun c28=>bD c28 (((M.ret (.str "a")).bind fun x22=>(getVar 1).bind fun y23=>(aY .LtE x22 y23).bind fun c25=>(bI c25).bind fun t26=>bD t26 ((M.ret (.str "f")).bind fun z24=>(aY .LtE y23 z24).bind bI) (M.ret false)).bind fun c27=>bD c27 (M.ret true) (M.ret false)) (M.ret false)).bind fun c39=>bD c39 ((((M.ret (.bi "ord")).bind fun f31=>aC K Γ f31 [] ((getVar 1).bind fun v29=>(M.ret []).bind fun w30=>M.ret (v29::w30))).bind fun x35=>((M.ret (.bi "ord")).bind fun f34=>aC K Γ f34 [] ((M.ret (.str "a")).bind fun v32=>(M.ret []).bind fun w33=>M.ret (v32::w33))).bind fun y36=>bO .Sub x35 y36).bind fun x37=>(M.ret (.int 10)).bind fun y38=>bO .Add x37 y38) (M.ret (.int 99))).bind fun v40=>M.ret (.ret v40)) (M.ret Fl.next))))
theorem bx_digit_value {prog:Program}{w:World}{c:Act prog w (KK w)}{Γ:CT}(hsc:c.sc=F.scope_digit_value)(hnm:c.nm=nm_digit_value)(hh:c.A.handled=none)(G:COK c (.ref 59) Γ)(hwp:c.wp=fun _=>True)(W:Wd):BX c (.ref 59) c.env W F.body_digit_value (dS (KK w) Γ):=by
 have hwv:∀ {W W':Wd},dJ W W'→c.wp W→c.wp W':=fun x h=>by rw [hwp] at h ⊢;trivial
 exact aB (dO (iP (aS G (bN (kg_is_digit w.params) (fun _=>.const _) (lx hsc rfl) (by decide)) (aA (aD hnm hsc) aM (by rfl)) (by rfl) (by rfl) (by rfl)) (by rfl)) (aB (aX (aQ (aS G (aU (kb_ord w.params) (bb_ord) (fun _=>.bi _) (by decide) (lx hsc rfl) (by decide)) (aA (aD hnm hsc) aM (by rfl)) (by rfl) (by rfl) (by rfl)) (aS G (aU (kb_ord w.params) (bb_ord) (fun _=>.bi _) (by decide) (lx hsc rfl) (by decide)) (aA (bP) aM (by rfl)) (by rfl) (by rfl) (by rfl)))) aO) aO) (aB (aV (bH G (aD hnm hsc) (by rfl)) (lk hnm rfl) (lx hsc rfl) (by rfl)) (aB (aX (eL (eP (aI (aS G (aU (eS w.params) (eV) (fun _=>.bi _) (by decide) (lx hsc rfl) (by decide)) (aA (aD hnm hsc) aM (by rfl)) (by rfl) (by rfl) (by rfl)) (aR) (by rfl)) (eP (t_Chain (bP) (aD hnm hsc) (bP) (by rfl)) (t_and0))) (aQ (aQ (aS G (aU (kb_ord w.params) (bb_ord) (fun _=>.bi _) (by decide) (lx hsc rfl) (by decide)) (aA (aD hnm hsc) aM (by rfl)) (by rfl) (by rfl) (by rfl)) (aS G (aU (kb_ord w.params) (bb_ord) (fun _=>.bi _) (by decide) (lx hsc rfl) (by decide)) (aA (bP) aM (by rfl)) (by rfl) (by rfl) (by rfl))) (aR)) (aR))) aO)) W
noncomputable def nm_Scanner___init__:List Str:=["self","source","line"]
noncomputable def fA (K:Frag)(Γ:CT):M Fl:=(aF ((getVar 1).bind fun v1=>(getVar 0).bind fun o2=>(dN K "source" o2 v1).bind fun _=>M.ret Fl.next) (aF ((M.ret (.int 0)).bind fun v3=>(getVar 0).bind fun o4=>(dN K "place" o4 v3).bind fun _=>M.ret Fl.next) (aF ((getVar 2).bind fun v5=>(getVar 0).bind fun o6=>(dN K "line" o6 v5).bind fun _=>M.ret Fl.next) (M.ret Fl.next))))
theorem bx_Scanner___init__ {prog:Program}{w:World}{c:Act prog w (KK w)}{Γ:CT}(hsc:c.sc=F.scope_Scanner___init__)(hnm:c.nm=nm_Scanner___init__)(hh:c.A.handled=none)(G:COK c (.ref 59) Γ)(hwp:c.wp=fun _=>True)(W:Wd):BX c (.ref 59) c.env W F.body_Scanner___init__ (fA (KK w) Γ):=by
 have hwv:∀ {W W':Wd},dJ W W'→c.wp W→c.wp W':=fun x h=>by rw [hwp] at h ⊢;trivial
 exact aB (cC (aD hnm hsc) (aD hnm hsc) (by rfl)) (aB (cC (aR) (aD hnm hsc) (by rfl)) (aB (cC (aD hnm hsc) (aD hnm hsc) (by rfl)) aO)) W
noncomputable def nm_Scanner_sign:List Str:=["self","ahead","at"]
noncomputable def hV (K:Frag)(Γ:CT):M Fl:=(aF ((((getVar 0).bind (cR K "place")).bind fun x1=>(getVar 1).bind fun y2=>bO .Add x1 y2).bind fun v3=>(aJ 2 v3).bind fun _=>M.ret Fl.next) (aF ((((getVar 0).bind (cR K "source")).bind fun o6=>(getVar 2).bind fun l7=>((getVar 2).bind fun x4=>(M.ret (.int 1)).bind fun y5=>bO .Add x4 y5).bind fun u8=>bM o6 l7 u8).bind fun v9=>M.ret (.ret v9)) (M.ret Fl.next)))
theorem bx_Scanner_sign {prog:Program}{w:World}{c:Act prog w (KK w)}{Γ:CT}(hsc:c.sc=F.scope_Scanner_sign)(hnm:c.nm=nm_Scanner_sign)(hh:c.A.handled=none)(G:COK c (.ref 59) Γ)(hwp:c.wp=fun _=>True)(W:Wd):BX c (.ref 59) c.env W F.body_Scanner_sign (hV (KK w) Γ):=by
 have hwv:∀ {W W':Wd},dJ W W'→c.wp W→c.wp W':=fun x h=>by rw [hwp] at h ⊢;trivial
 exact aB (aV (aQ (bB (aD hnm hsc) (by rfl)) (aD hnm hsc)) (lk hnm rfl) (lx hsc rfl) (by rfl)) (aB (aX (bY (bB (aD hnm hsc) (by rfl)) (bR (aD hnm hsc)) (bR (aQ (aD hnm hsc) (aR))) (fun _ _=>rfl))) aO) W
noncomputable def nm_Scanner_begins:List Str:=["self","text"]
noncomputable def gA (K:Frag)(Γ:CT):M Fl:=(aF (((((getVar 0).bind (cR K "source")).bind fun o6=>((getVar 0).bind (cR K "place")).bind fun l7=>(((getVar 0).bind (cR K "place")).bind fun x4=>((M.ret (.bi "len")).bind fun f3=>aC K Γ f3 [] ((getVar 1).bind fun v1=>(M.ret []).bind fun w2=>M.ret (v1::w2))).bind fun y5=>bO .Add x4 y5).bind fun u8=>bM o6 l7 u8).bind fun x9=>(getVar 1).bind fun y10=>(aY .Eq x9 y10)).bind fun v11=>M.ret (.ret v11)) (M.ret Fl.next))
theorem bx_Scanner_begins {prog:Program}{w:World}{c:Act prog w (KK w)}{Γ:CT}(hsc:c.sc=F.scope_Scanner_begins)(hnm:c.nm=nm_Scanner_begins)(hh:c.A.handled=none)(G:COK c (.ref 59) Γ)(hwp:c.wp=fun _=>True)(W:Wd):BX c (.ref 59) c.env W F.body_Scanner_begins (gA (KK w) Γ):=by
 have hwv:∀ {W W':Wd},dJ W W'→c.wp W→c.wp W':=fun x h=>by rw [hwp] at h ⊢;trivial
 exact aB (aX (fJ (bY (bB (aD hnm hsc) (by rfl)) (bR (bB (aD hnm hsc) (by rfl))) (bR (aQ (bB (aD hnm hsc) (by rfl)) (aS G (aU (eS w.params) (eV) (fun _=>.bi _) (by decide) (lx hsc rfl) (by decide)) (aA (aD hnm hsc) aM (by rfl)) (by rfl) (by rfl) (by rfl)))) (fun _ _=>rfl)) (aD hnm hsc) (by rfl))) aO W
noncomputable def nm_Scanner_step:List Str:=["self","sign"]
noncomputable def hU (K:Frag)(Γ:CT):M Fl:=(aF (((getVar 0).bind fun v1=>(getM K "sign" v1).bind fun c2=>bU K Γ c2.1 c2.2).bind fun v3=>(aJ 1 v3).bind fun _=>M.ret Fl.next) (aF (((getVar 1).bind fun x4=>(M.ret (.str "\n")).bind fun y5=>(aY .Eq x4 y5).bind bI).bind fun c10=>bD c10 (aF ((getVar 0).bind fun o6=>(cR K "line" o6).bind fun u7=>(M.ret (.int 1)).bind fun v8=>(iopV .Add u7 v8).bind fun z9=>(dN K "line" o6 z9).bind fun _=>M.ret Fl.next) (M.ret Fl.next)) (M.ret Fl.next)) (aF ((getVar 0).bind fun o11=>(cR K "place" o11).bind fun u12=>(M.ret (.int 1)).bind fun v13=>(iopV .Add u12 v13).bind fun z14=>(dN K "place" o11 z14).bind fun _=>M.ret Fl.next) (aF ((getVar 1).bind fun v15=>M.ret (.ret v15)) (M.ret Fl.next)))))
theorem bx_Scanner_step {prog:Program}{w:World}{c:Act prog w (KK w)}{Γ:CT}(hsc:c.sc=F.scope_Scanner_step)(hnm:c.nm=nm_Scanner_step)(hh:c.A.handled=none)(G:COK c (.ref 59) Γ)(hwp:c.wp=fun _=>True)(W:Wd):BX c (.ref 59) c.env W F.body_Scanner_step (hU (KK w) Γ):=by
 have hwv:∀ {W W':Wd},dJ W W'→c.wp W→c.wp W':=fun x h=>by rw [hwp] at h ⊢;trivial
 exact aB (aV (bH G (aD hnm hsc) (by rfl)) (lk hnm rfl) (lx hsc rfl) (by rfl)) (aB (dO (aI (aD hnm hsc) (bP) (by rfl)) (aB (fX (aD hnm hsc) (aR)) aO) aO) (aB (fX (aD hnm hsc) (aR)) (aB (aX (aD hnm hsc)) aO))) W
noncomputable def nm_Scanner_name:List Str:=["self","at","source","size","begin"]
noncomputable def dM (K:Frag)(Γ:CT):M Bool:=(((getVar 1).bind fun x12=>(getVar 3).bind fun y13=>(aY .Lt x12 y13).bind bI).bind fun c19=>bD c19 ((((getVar 2).bind fun o14=>(getVar 1).bind fun i15=>cU o14 i15).bind fun x16=>((M.ret (.const 128)).bind (cR K "inner")).bind fun y17=>(cmpD K .In x16 y17).bind bI).bind fun c18=>bD c18 (M.ret true) (M.ret false)) (M.ret false))
noncomputable def fH (K:Frag)(Γ:CT):M Fl:=(aF ((getVar 1).bind fun u20=>(M.ret (.int 1)).bind fun v21=>(iopV .Add u20 v21).bind fun z22=>(aJ 1 z22).bind fun _=>M.ret Fl.next) (M.ret Fl.next))
noncomputable def hW (K:Frag)(Γ:CT):M Fl:=(aF (((((getVar 0).bind (cR K "place")).bind fun v8=>(((getVar 0).bind (cR K "source")).bind fun v6=>(((M.ret (.bi "len")).bind fun f3=>aC K Γ f3 [] (((getVar 0).bind (cR K "source")).bind fun v1=>(M.ret []).bind fun w2=>M.ret (v1::w2))).bind fun v4=>(M.ret []).bind fun w5=>M.ret (v4::w5)).bind fun w7=>M.ret (v6::w7)).bind fun w9=>M.ret (v8::w9)).bind dR).bind fun v10=>(eK 3 v10).bind fun w11=>(dA [aJ 3,aJ 2,aJ 1] w11.reverse).bind fun _=>M.ret Fl.next) (aF (cW 100 (dM K Γ) (fH K Γ)) (aF (((((getVar 0).bind (cR K "place")).bind fun v25=>((getVar 1).bind fun v23=>(M.ret []).bind fun w24=>M.ret (v23::w24)).bind fun w26=>M.ret (v25::w26)).bind dR).bind fun v27=>(eK 2 v27).bind fun w28=>(dA [aJ 4,fun u29=>(getVar 0).bind fun o30=>dN K "place" o30 u29] w28).bind fun _=>M.ret Fl.next) (aF (((getVar 2).bind fun o31=>(getVar 4).bind fun l32=>(getVar 1).bind fun u33=>bM o31 l32 u33).bind fun v34=>M.ret (.ret v34)) (M.ret Fl.next)))))
theorem bx_Scanner_name {prog:Program}{w:World}{c:Act prog w (KK w)}{Γ:CT}(hsc:c.sc=F.scope_Scanner_name)(hnm:c.nm=nm_Scanner_name)(hh:c.A.handled=none)(G:COK c (.ref 59) Γ)(hwp:c.wp=fun _=>True)(W:Wd):BX c (.ref 59) c.env W F.body_Scanner_name (hW (KK w) Γ):=by
 have hwv:∀ {W W':Wd},dJ W W'→c.wp W→c.wp W':=fun x h=>by rw [hwp] at h ⊢;trivial
 exact aB (eZ hh (names:=["at","source","size"]) (cT (aA (bB (aD hnm hsc) (by rfl)) (aA (bB (aD hnm hsc) (by rfl)) (aA (aS G (aU (eS w.params) (eV) (fun _=>.bi _) (by decide) (lx hsc rfl) (by decide)) (aA (bB (aD hnm hsc) (by rfl)) aM (by rfl)) (by rfl) (by rfl) (by rfl)) aM (by rfl)) (by rfl)) (by rfl))) (.cons (eO (lk hnm rfl) (lx hsc rfl)) (.cons (eO (lk hnm rfl) (lx hsc rfl)) (.cons (eO (lk hnm rfl) (lx hsc rfl)) (.nil)))) (lsc (f:=swapsWithSole _ _ _) hsc (fun _ _ _ _ _=>rfl)) (lsc (f:=swappedStores _ _) hsc (fun _ _ _ _ _=>rfl))) (aB (s_While 100 (eP (aI (aD hnm hsc) (aD hnm hsc) (by rfl)) (eP (fQ (cP (aD hnm hsc) (aD hnm hsc) (fun _ _ _=>rfl)) (bB (bN (kg_Signs w.params) (fun _=>.const _) (lx hsc rfl) (by decide)) (by rfl)) (by rfl)) (t_and0))) (aB (gU (aR) (lk hnm rfl) (lx hsc rfl)) aO)) (aB (s_AssignTup hh (fs:=[aJ 4,fun u29=>(getVar 0).bind fun o30=>dN (KK w) "place" o30 u29]) (cT (aA (bB (aD hnm hsc) (by rfl)) (aA (aD hnm hsc) aM (by rfl)) (by rfl))) (.cons (iR (lk hnm rfl) (lx hsc rfl)) (.cons (as_attr (aD hnm hsc)) (.nil))) (by rfl) (lsc (f:=swapsWithSole _ _ _) hsc (fun _ _ _ _ _=>rfl)) (lsc (f:=swappedStores _ _) hsc (fun _ _ _ _ _=>rfl))) (aB (aX (bY (aD hnm hsc) (bR (aD hnm hsc)) (bR (aD hnm hsc)) (fun _ _=>rfl))) aO))) W
noncomputable def gE:List Str:=["self","found"]
noncomputable def cA (K:Frag)(Γ:CT):M Bool:=(((getVar 0).bind fun v2=>(getM K "sign" v2).bind fun c3=>bU K Γ c3.1 c3.2).bind fun x4=>(M.ret (.str "'")).bind fun y5=>(aY .NotEq x4 y5).bind bI)
noncomputable def bE (K:Frag)(Γ:CT):M Fl:=(aF ((((getVar 0).bind fun v6=>(getM K "sign" v6).bind fun c7=>bU K Γ c7.1 c7.2).bind fun x8=>(M.ret (.str "")).bind fun y9=>(aY .Eq x8 y9).bind bI).bind fun c14=>bD c14 (aF (((getVar 0).bind fun v10=>(getM K "fail" v10).bind fun c11=>aC K Γ c11.1 c11.2 ((M.ret (.str "a text without an end")).bind fun v12=>(M.ret []).bind fun w13=>M.ret (v12::w13))).bind fun _=>M.ret Fl.next) (M.ret Fl.next)) (M.ret Fl.next)) (aF (((((getVar 0).bind fun v15=>(getM K "sign" v15).bind fun c16=>bU K Γ c16.1 c16.2).bind fun x17=>(M.ret (.str "\\")).bind fun y18=>(aY .Eq x17 y18).bind bI).bind fun c30=>bD c30 ((((getVar 0).bind fun v19=>(getM K "sign" v19).bind fun c20=>aC K Γ c20.1 c20.2 ((M.ret (.int 1)).bind fun v21=>(M.ret []).bind fun w22=>M.ret (v21::w22))).bind fun x27=>(((M.ret (.str "\\")).bind fun v25=>((M.ret (.str "'")).bind fun v23=>(M.ret []).bind fun w24=>M.ret (v23::w24)).bind fun w26=>M.ret (v25::w26)).bind dR).bind fun y28=>(cmpD K .In x27 y28).bind bI).bind fun c29=>bD c29 (M.ret true) (M.ret false)) (M.ret false)).bind fun c35=>bD c35 (aF ((getVar 0).bind fun o31=>(cR K "place" o31).bind fun u32=>(M.ret (.int 1)).bind fun v33=>(iopV .Add u32 v33).bind fun z34=>(dN K "place" o31 z34).bind fun _=>M.ret Fl.next) (M.ret Fl.next)) (M.ret Fl.next)) (aF (((getVar 1).bind fun v36=>(getM K "append" v36).bind fun c37=>aC K Γ c37.1 c37.2 (((getVar 0).bind fun v38=>(getM K "step" v38).bind fun c39=>bU K Γ c39.1 c39.2).bind fun v40=>(M.ret []).bind fun w41=>M.ret (v40::w41))).bind fun _=>M.ret Fl.next) (M.ret Fl.next))))
noncomputable def cI (K:Frag)(Γ:CT):M Fl:=(aF ((newOwn (.list [])).bind fun v1=>(aJ 1 v1).bind fun _=>M.ret Fl.next) (aF (cW 100 (cA K Γ) (bE K Γ)) (aF ((getVar 0).bind fun o42=>(cR K "place" o42).bind fun u43=>(M.ret (.int 1)).bind fun v44=>(iopV .Add u43 v44).bind fun z45=>(dN K "place" o42 z45).bind fun _=>M.ret Fl.next) (aF (((M.ret (.str "")).bind fun v46=>(getM K "join" v46).bind fun c47=>aC K Γ c47.1 c47.2 ((getVar 1).bind fun v48=>(M.ret []).bind fun w49=>M.ret (v48::w49))).bind fun v50=>M.ret (.ret v50)) (M.ret Fl.next)))))
theorem bx_TextScanner_plain_text {prog:Program}{w:World}{c:Act prog w (KK w)}{Γ:CT}(hsc:c.sc=F.scope_TextScanner_plain_text)(hnm:c.nm=gE)(hh:c.A.handled=none)(G:COK c (.ref 59) Γ)(hwp:c.wp=fun _=>True)(W:Wd):BX c (.ref 59) c.env W F.body_TextScanner_plain_text (cI (KK w) Γ):=by
 have hwv:∀ {W W':Wd},dJ W W'→c.wp W→c.wp W':=fun x h=>by rw [hwp] at h ⊢;trivial
 exact aB (aV (e_ListOwn) (lk hnm rfl) (lx hsc rfl) (by rfl)) (aB (s_While 100 (aI (bH G (aD hnm hsc) (by rfl)) (bP) (by rfl)) (aB (dO (aI (bH G (aD hnm hsc) (by rfl)) (bP) (by rfl)) (aB (fM (bT G (aD hnm hsc) (aA (bP) aM (by rfl)) (by rfl) (by rfl) (by rfl)) eB (by rfl)) aO) aO) (aB (dO (eP (aI (bH G (aD hnm hsc) (by rfl)) (bP) (by rfl)) (eP (fQ (bT G (aD hnm hsc) (aA (aR) aM (by rfl)) (by rfl) (by rfl) (by rfl)) (cT (aA (bP) (aA (bP) aM (by rfl)) (by rfl))) (by rfl)) (t_and0))) (aB (fX (aD hnm hsc) (aR)) aO) aO) (aB (fM (bT G (aD hnm hsc) (aA (bH G (aD hnm hsc) (by rfl)) aM (by rfl)) (by rfl) (by rfl) (by rfl)) eB (by rfl)) aO)))) (aB (fX (aD hnm hsc) (aR)) (aB (aX (bT G (bP) (aA (aD hnm hsc) aM (by rfl)) (by rfl) (by rfl) (by rfl))) aO))) W
noncomputable def hY:List Str:=["self","sign"]
noncomputable def cQ (K:Frag)(Γ:CT):M Fl:=(aF ((getVar 0).bind fun o1=>(cR K "place" o1).bind fun u2=>(M.ret (.int 1)).bind fun v3=>(iopV .Add u2 v3).bind fun z4=>(dN K "place" o1 z4).bind fun _=>M.ret Fl.next) (aF (((getVar 0).bind fun v5=>(getM K "step" v5).bind fun c6=>bU K Γ c6.1 c6.2).bind fun v7=>(aJ 1 v7).bind fun _=>M.ret Fl.next) (aF (((getVar 1).bind fun x8=>(M.ret (.str "")).bind fun y9=>(aY .Eq x8 y9).bind bI).bind fun c14=>bD c14 (aF (((getVar 0).bind fun v10=>(getM K "fail" v10).bind fun c11=>aC K Γ c11.1 c11.2 ((M.ret (.str "a text without an end")).bind fun v12=>(M.ret []).bind fun w13=>M.ret (v12::w13))).bind fun _=>M.ret Fl.next) (M.ret Fl.next)) (M.ret Fl.next)) (aF (((M.ret (.const 79)).bind fun v15=>(getM K "get" v15).bind fun c16=>aC K Γ c16.1 c16.2 ((getVar 1).bind fun v19=>((getVar 1).bind fun v17=>(M.ret []).bind fun w18=>M.ret (v17::w18)).bind fun w20=>M.ret (v19::w20))).bind fun v21=>M.ret (.ret v21)) (M.ret Fl.next)))))
theorem bx_TextScanner_escaped {prog:Program}{w:World}{c:Act prog w (KK w)}{Γ:CT}(hsc:c.sc=F.scope_TextScanner_escaped)(hnm:c.nm=hY)(hh:c.A.handled=none)(G:COK c (.ref 59) Γ)(hwp:c.wp=fun _=>True)(W:Wd):BX c (.ref 59) c.env W F.body_TextScanner_escaped (cQ (KK w) Γ):=by
 have hwv:∀ {W W':Wd},dJ W W'→c.wp W→c.wp W':=fun x h=>by rw [hwp] at h ⊢;trivial
 exact aB (fX (aD hnm hsc) (aR)) (aB (aV (bH G (aD hnm hsc) (by rfl)) (lk hnm rfl) (lx hsc rfl) (by rfl)) (aB (dO (aI (aD hnm hsc) (bP) (by rfl)) (aB (fM (bT G (aD hnm hsc) (aA (bP) aM (by rfl)) (by rfl) (by rfl) (by rfl)) eB (by rfl)) aO) aO) (aB (aX (bT G (bN (kg_ESCAPES w.params) (fun _=>.const _) (lx hsc rfl) (by decide)) (aA (aD hnm hsc) (aA (aD hnm hsc) aM (by rfl)) (by rfl)) (by rfl) (by rfl) (by rfl))) aO))) W
noncomputable def gD:List Str:=["self","parts","text"]
noncomputable def bK (K:Frag)(Γ:CT):M Bool:=(((getVar 0).bind fun v7=>(getM K "sign" v7).bind fun c8=>bU K Γ c8.1 c8.2).bind fun x9=>(M.ret (.str "\"")).bind fun y10=>(aY .NotEq x9 y10).bind bI)
noncomputable def aN (K:Frag)(Γ:CT):M Fl:=(aF ((((getVar 0).bind fun v11=>(getM K "sign" v11).bind fun c12=>bU K Γ c12.1 c12.2).bind fun x13=>(M.ret (.str "")).bind fun y14=>(aY .Eq x13 y14).bind bI).bind fun c19=>bD c19 (aF (((getVar 0).bind fun v15=>(getM K "fail" v15).bind fun c16=>aC K Γ c16.1 c16.2 ((M.ret (.str "a text without an end")).bind fun v17=>(M.ret []).bind fun w18=>M.ret (v17::w18))).bind fun _=>M.ret Fl.next) (M.ret Fl.next)) (M.ret Fl.next)) (aF ((((getVar 0).bind fun v20=>(getM K "sign" v20).bind fun c21=>bU K Γ c21.1 c21.2).bind fun x22=>(M.ret (.str "\\")).bind fun y23=>(aY .Eq x22 y23).bind bI).bind fun c53=>bD c53 (aF ((getVar 2).bind fun u26=>((getVar 0).bind fun v24=>(getM K "escaped" v24).bind fun c25=>bU K Γ c25.1 c25.2).bind fun v27=>(iopV .Add u26 v27).bind fun z28=>(aJ 2 z28).bind fun _=>M.ret Fl.next) (M.ret Fl.next)) (aF ((((getVar 0).bind fun v29=>(getM K "begins" v29).bind fun c30=>aC K Γ c30.1 c30.2 ((M.ret (.str "#{")).bind fun v31=>(M.ret []).bind fun w32=>M.ret (v31::w32))).bind bI).bind fun c52=>bD c52 (aF (((getVar 2).bind fun x33=>(M.ret (.str "")).bind fun y34=>(aY .NotEq x33 y34).bind bI).bind fun c40=>bD c40 (aF (((getVar 1).bind fun v35=>(getM K "append" v35).bind fun c36=>aC K Γ c36.1 c36.2 ((getVar 2).bind fun v37=>(M.ret []).bind fun w38=>M.ret (v37::w38))).bind fun _=>M.ret Fl.next) (aF ((M.ret (.str "")).bind fun v39=>(aJ 2 v39).bind fun _=>M.ret Fl.next) (M.ret Fl.next))) (M.ret Fl.next)) (aF (((getVar 1).bind fun v41=>(getM K "append" v41).bind fun c42=>aC K Γ c42.1 c42.2 (((getVar 0).bind fun v43=>(getM K "code" v43).bind fun c44=>bU K Γ c44.1 c44.2).bind fun v45=>(M.ret []).bind fun w46=>M.ret (v45::w46))).bind fun _=>M.ret Fl.next) (M.ret Fl.next))) (aF ((getVar 2).bind fun u49=>((getVar 0).bind fun v47=>(getM K "step" v47).bind fun c48=>bU K Γ c48.1 c48.2).bind fun v50=>(iopV .Add u49 v50).bind fun z51=>(aJ 2 z51).bind fun _=>M.ret Fl.next) (M.ret Fl.next))) (M.ret Fl.next))) (M.ret Fl.next)))
noncomputable def cH (K:Frag)(Γ:CT):M Fl:=(aF ((((newOwn (.list [])).bind fun v3=>((M.ret (.str "")).bind fun v1=>(M.ret []).bind fun w2=>M.ret (v1::w2)).bind fun w4=>M.ret (v3::w4)).bind dR).bind fun v5=>(eK 2 v5).bind fun w6=>(dA [aJ 2,aJ 1] w6.reverse).bind fun _=>M.ret Fl.next) (aF (cW 100 (bK K Γ) (aN K Γ)) (aF ((getVar 0).bind fun o54=>(cR K "place" o54).bind fun u55=>(M.ret (.int 1)).bind fun v56=>(iopV .Add u55 v56).bind fun z57=>(dN K "place" o54 z57).bind fun _=>M.ret Fl.next) (aF ((((getVar 2).bind fun x58=>(M.ret (.str "")).bind fun y59=>(aY .NotEq x58 y59).bind bI).bind fun c63=>bD c63 (M.ret true) (((getVar 1).bind fun x60=>((M.ret []).bind iF).bind fun y61=>(aY .Eq x60 y61).bind bI).bind fun c62=>bD c62 (M.ret true) (M.ret false))).bind fun c68=>bD c68 (aF (((getVar 1).bind fun v64=>(getM K "append" v64).bind fun c65=>aC K Γ c65.1 c65.2 ((getVar 2).bind fun v66=>(M.ret []).bind fun w67=>M.ret (v66::w67))).bind fun _=>M.ret Fl.next) (M.ret Fl.next)) (M.ret Fl.next)) (aF ((getVar 1).bind fun v69=>M.ret (.ret v69)) (M.ret Fl.next))))))
theorem bx_TextScanner_text_parts {prog:Program}{w:World}{c:Act prog w (KK w)}{Γ:CT}(hsc:c.sc=F.scope_TextScanner_text_parts)(hnm:c.nm=gD)(hh:c.A.handled=none)(G:COK c (.ref 59) Γ)(hwp:c.wp=fun _=>True)(W:Wd):BX c (.ref 59) c.env W F.body_TextScanner_text_parts (cH (KK w) Γ):=by
 have hwv:∀ {W W':Wd},dJ W W'→c.wp W→c.wp W':=fun x h=>by rw [hwp] at h ⊢;trivial
 exact aB (eZ hh (names:=["parts","text"]) (cT (aA (e_ListOwn) (aA (bP) aM (by rfl)) (by rfl))) (.cons (eO (lk hnm rfl) (lx hsc rfl)) (.cons (eO (lk hnm rfl) (lx hsc rfl)) (.nil))) (lsc (f:=swapsWithSole _ _ _) hsc (fun _ _ _ _ _=>rfl)) (lsc (f:=swappedStores _ _) hsc (fun _ _ _ _ _=>rfl))) (aB (s_While 100 (aI (bH G (aD hnm hsc) (by rfl)) (bP) (by rfl)) (aB (dO (aI (bH G (aD hnm hsc) (by rfl)) (bP) (by rfl)) (aB (fM (bT G (aD hnm hsc) (aA (bP) aM (by rfl)) (by rfl) (by rfl) (by rfl)) eB (by rfl)) aO) aO) (aB (dO (aI (bH G (aD hnm hsc) (by rfl)) (bP) (by rfl)) (aB (gU (bH G (aD hnm hsc) (by rfl)) (lk hnm rfl) (lx hsc rfl)) aO) (aB (dO (iP (bT G (aD hnm hsc) (aA (bP) aM (by rfl)) (by rfl) (by rfl) (by rfl)) (by rfl)) (aB (dO (aI (aD hnm hsc) (bP) (by rfl)) (aB (fM (bT G (aD hnm hsc) (aA (aD hnm hsc) aM (by rfl)) (by rfl) (by rfl) (by rfl)) eB (by rfl)) (aB (aV (bP) (lk hnm rfl) (lx hsc rfl) (by rfl)) aO)) aO) (aB (fM (bT G (aD hnm hsc) (aA (bH G (aD hnm hsc) (by rfl)) aM (by rfl)) (by rfl) (by rfl) (by rfl)) eB (by rfl)) aO)) (aB (gU (bH G (aD hnm hsc) (by rfl)) (lk hnm rfl) (lx hsc rfl)) aO)) aO)) aO))) (aB (fX (aD hnm hsc) (aR)) (aB (dO (t_or (aI (aD hnm hsc) (bP) (by rfl)) (t_or (aI (aD hnm hsc) (iK aM) (by rfl)) (t_or0))) (aB (fM (bT G (aD hnm hsc) (aA (aD hnm hsc) aM (by rfl)) (by rfl) (by rfl) (by rfl)) eB (by rfl)) aO) aO) (aB (aX (aD hnm hsc)) aO)))) W
noncomputable def nm_TextScanner_code:List Str:=["self","begin","line"]
noncomputable def dE (K:Frag)(Γ:CT):M Fl:=(aF ((getVar 0).bind fun o1=>(cR K "place" o1).bind fun u2=>(M.ret (.int 2)).bind fun v3=>(iopV .Add u2 v3).bind fun z4=>(dN K "place" o1 z4).bind fun _=>M.ret Fl.next) (aF (((((getVar 0).bind (cR K "place")).bind fun v7=>(((getVar 0).bind (cR K "line")).bind fun v5=>(M.ret []).bind fun w6=>M.ret (v5::w6)).bind fun w8=>M.ret (v7::w8)).bind dR).bind fun v9=>(eK 2 v9).bind fun w10=>(dA [aJ 2,aJ 1] w10.reverse).bind fun _=>M.ret Fl.next) (aF (((getVar 0).bind fun v11=>(getM K "skip_code" v11).bind fun c12=>bU K Γ c12.1 c12.2).bind fun _=>M.ret Fl.next) (aF ((((((getVar 0).bind (cR K "source")).bind fun o15=>(getVar 1).bind fun l16=>(((getVar 0).bind (cR K "place")).bind fun x13=>(M.ret (.int 1)).bind fun y14=>bO .Sub x13 y14).bind fun u17=>bM o15 l16 u17).bind fun v20=>((getVar 2).bind fun v18=>(M.ret []).bind fun w19=>M.ret (v18::w19)).bind fun w21=>M.ret (v20::w21)).bind dR).bind fun v22=>M.ret (.ret v22)) (M.ret Fl.next)))))
theorem bx_TextScanner_code {prog:Program}{w:World}{c:Act prog w (KK w)}{Γ:CT}(hsc:c.sc=F.scope_TextScanner_code)(hnm:c.nm=nm_TextScanner_code)(hh:c.A.handled=none)(G:COK c (.ref 59) Γ)(hwp:c.wp=fun _=>True)(W:Wd):BX c (.ref 59) c.env W F.body_TextScanner_code (dE (KK w) Γ):=by
 have hwv:∀ {W W':Wd},dJ W W'→c.wp W→c.wp W':=fun x h=>by rw [hwp] at h ⊢;trivial
 exact aB (fX (aD hnm hsc) (aR)) (aB (eZ hh (names:=["begin","line"]) (cT (aA (bB (aD hnm hsc) (by rfl)) (aA (bB (aD hnm hsc) (by rfl)) aM (by rfl)) (by rfl))) (.cons (eO (lk hnm rfl) (lx hsc rfl)) (.cons (eO (lk hnm rfl) (lx hsc rfl)) (.nil))) (lsc (f:=swapsWithSole _ _ _) hsc (fun _ _ _ _ _=>rfl)) (lsc (f:=swappedStores _ _) hsc (fun _ _ _ _ _=>rfl))) (aB (fM (bH G (aD hnm hsc) (by rfl)) eB (by rfl)) (aB (aX (cT (aA (bY (bB (aD hnm hsc) (by rfl)) (bR (aD hnm hsc)) (bR (aQ (bB (aD hnm hsc) (by rfl)) (aR))) (fun _ _=>rfl)) (aA (aD hnm hsc) aM (by rfl)) (by rfl)))) aO))) W
noncomputable def gK:List Str:=["self","depth","sign"]
noncomputable def bS (K:Frag)(Γ:CT):M Bool:=((getVar 1).bind fun x2=>(M.ret (.int 0)).bind fun y3=>(aY .Gt x2 y3).bind bI)
noncomputable def aL (K:Frag)(Γ:CT):M Fl:=(aF (((getVar 0).bind fun v4=>(getM K "sign" v4).bind fun c5=>bU K Γ c5.1 c5.2).bind fun v6=>(aJ 2 v6).bind fun _=>M.ret Fl.next) (aF (((getVar 2).bind fun x7=>(M.ret (.str "")).bind fun y8=>(aY .Eq x7 y8).bind bI).bind fun c13=>bD c13 (aF (((getVar 0).bind fun v9=>(getM K "fail" v9).bind fun c10=>aC K Γ c10.1 c10.2 ((M.ret (.str "code without an end in a text")).bind fun v11=>(M.ret []).bind fun w12=>M.ret (v11::w12))).bind fun _=>M.ret Fl.next) (M.ret Fl.next)) (M.ret Fl.next)) (aF (((getVar 0).bind fun v14=>(getM K "step" v14).bind fun c15=>bU K Γ c15.1 c15.2).bind fun _=>M.ret Fl.next) (aF (((getVar 2).bind fun x16=>(M.ret (.str "{")).bind fun y17=>(aY .Eq x16 y17).bind bI).bind fun c37=>bD c37 (aF ((getVar 1).bind fun u18=>(M.ret (.int 1)).bind fun v19=>(iopV .Add u18 v19).bind fun z20=>(aJ 1 z20).bind fun _=>M.ret Fl.next) (M.ret Fl.next)) (aF (((getVar 2).bind fun x21=>(M.ret (.str "}")).bind fun y22=>(aY .Eq x21 y22).bind bI).bind fun c36=>bD c36 (aF ((getVar 1).bind fun u23=>(M.ret (.int 1)).bind fun v24=>(iopV .Sub u23 v24).bind fun z25=>(aJ 1 z25).bind fun _=>M.ret Fl.next) (M.ret Fl.next)) (aF (((getVar 2).bind fun x26=>(M.ret (.str "'")).bind fun y27=>(aY .Eq x26 y27).bind bI).bind fun c35=>bD c35 (aF (((getVar 0).bind fun v28=>(getM K "plain_text" v28).bind fun c29=>bU K Γ c29.1 c29.2).bind fun _=>M.ret Fl.next) (M.ret Fl.next)) (aF (((getVar 2).bind fun x30=>(M.ret (.str "\"")).bind fun y31=>(aY .Eq x30 y31).bind bI).bind fun c34=>bD c34 (aF (((getVar 0).bind fun v32=>(getM K "text_parts" v32).bind fun c33=>bU K Γ c33.1 c33.2).bind fun _=>M.ret Fl.next) (M.ret Fl.next)) (M.ret Fl.next)) (M.ret Fl.next))) (M.ret Fl.next))) (M.ret Fl.next))) (M.ret Fl.next)))))
noncomputable def cJ (K:Frag)(Γ:CT):M Fl:=(aF ((M.ret (.int 1)).bind fun v1=>(aJ 1 v1).bind fun _=>M.ret Fl.next) (aF (cW 100 (bS K Γ) (aL K Γ)) (M.ret Fl.next)))
theorem bx_TextScanner_skip_code {prog:Program}{w:World}{c:Act prog w (KK w)}{Γ:CT}(hsc:c.sc=F.scope_TextScanner_skip_code)(hnm:c.nm=gK)(hh:c.A.handled=none)(G:COK c (.ref 59) Γ)(hwp:c.wp=fun _=>True)(W:Wd):BX c (.ref 59) c.env W F.body_TextScanner_skip_code (cJ (KK w) Γ):=by
 walk_at "a"
 have hwv:∀ {W W':Wd},dJ W W'→c.wp W→c.wp W':=fun x h=>by rw [hwp] at h ⊢;trivial
 exact aB (aV (aR) (lk hnm rfl) (lx hsc rfl) (by rfl)) (aB (s_While 100 (aI (aD hnm hsc) (aR) (by rfl)) (aB (aV (bH G (aD hnm hsc) (by rfl)) (lk hnm rfl) (lx hsc rfl) (by rfl)) (aB (dO (aI (aD hnm hsc) (bP) (by rfl)) (aB (fM (bT G (aD hnm hsc) (aA (bP) aM (by rfl)) (by rfl) (by rfl) (by rfl)) eB (by rfl)) aO) aO) (aB (fM (bH G (aD hnm hsc) (by rfl)) eB (by rfl)) (aB (dO (aI (aD hnm hsc) (bP) (by rfl)) (aB (gU (aR) (lk hnm rfl) (lx hsc rfl)) aO) (aB (dO (aI (aD hnm hsc) (bP) (by rfl)) (aB (gU (aR) (lk hnm rfl) (lx hsc rfl)) aO) (aB (dO (aI (aD hnm hsc) (bP) (by rfl)) (aB (fM (bH G (aD hnm hsc) (by rfl)) eB (by rfl)) aO) (aB (dO (aI (aD hnm hsc) (bP) (by rfl)) (aB (fM (bH G (aD hnm hsc) (by rfl)) eB (by rfl)) aO) aO) aO)) aO)) aO)) aO))))) aO) W
 walk_at "z"
noncomputable def nm_Lexer___init__:List Str:=["self","source","line"]
noncomputable def gB (K:Frag)(Γ:CT):M Fl:=(aF (((M.ret (.const 248)).bind fun v1=>(getM K "__init__" v1).bind fun c2=>aC K Γ c2.1 c2.2 ((getVar 0).bind fun v7=>((getVar 1).bind fun v5=>((getVar 2).bind fun v3=>(M.ret []).bind fun w4=>M.ret (v3::w4)).bind fun w6=>M.ret (v5::w6)).bind fun w8=>M.ret (v7::w8))).bind fun _=>M.ret Fl.next) (aF ((newOwn (.list [])).bind fun v9=>(getVar 0).bind fun o10=>(dN K "tokens" o10 v9).bind fun _=>M.ret Fl.next) (aF ((newOwn (.list [])).bind fun v11=>(getVar 0).bind fun o12=>(dN K "nest" o12 v11).bind fun _=>M.ret Fl.next) (aF ((M.ret (.bool true)).bind fun v13=>(getVar 0).bind fun o14=>(dN K "spaced" o14 v13).bind fun _=>M.ret Fl.next) (aF ((M.ret (.int 0)).bind fun v15=>(getVar 0).bind fun o16=>(dN K "begin" o16 v15).bind fun _=>M.ret Fl.next) (aF (((M.ret (.int 1)).bind negV).bind fun v17=>(getVar 0).bind fun o18=>(dN K "def_nest" o18 v17).bind fun _=>M.ret Fl.next) (M.ret Fl.next)))))))
theorem bx_Lexer___init__ {prog:Program}{w:World}{c:Act prog w (KK w)}{Γ:CT}(hsc:c.sc=F.scope_Lexer___init__)(hnm:c.nm=nm_Lexer___init__)(hh:c.A.handled=none)(G:COK c (.ref 59) Γ)(hwp:c.wp=fun _=>True)(W:Wd):BX c (.ref 59) c.env W F.body_Lexer___init__ (gB (KK w) Γ):=by
 have hwv:∀ {W W':Wd},dJ W W'→c.wp W→c.wp W':=fun x h=>by rw [hwp] at h ⊢;trivial
 exact aB (fM (bT G (bN (kg_TextScanner w.params) (fun _=>.const _) (lx hsc rfl) (by decide)) (aA (aD hnm hsc) (aA (aD hnm hsc) (aA (aD hnm hsc) aM (by rfl)) (by rfl)) (by rfl)) (by rfl) (by rfl) (by rfl)) eB (by rfl)) (aB (cC (e_ListOwn) (aD hnm hsc) (by rfl)) (aB (cC (e_ListOwn) (aD hnm hsc) (by rfl)) (aB (cC (iJ) (aD hnm hsc) (by rfl)) (aB (cC (aR) (aD hnm hsc) (by rfl)) (aB (cC (e_USub (aR)) (aD hnm hsc) (by rfl)) aO))))) W
noncomputable def nm_Lexer_put:List Str:=["self","kind","value"]
noncomputable def x_Lexer_put (K:Frag)(Γ:CT):M Fl:=(aF ((((getVar 0).bind (cR K "tokens")).bind fun v1=>(getM K "append" v1).bind fun c2=>aC K Γ c2.1 c2.2 (((M.ret (.const 97)).bind fun f13=>aC K Γ f13 [] ((getVar 1).bind fun v11=>((getVar 2).bind fun v9=>(((getVar 0).bind (cR K "line")).bind fun v7=>(((getVar 0).bind (cR K "spaced")).bind fun v5=>(((getVar 0).bind (cR K "begin")).bind fun v3=>(M.ret []).bind fun w4=>M.ret (v3::w4)).bind fun w6=>M.ret (v5::w6)).bind fun w8=>M.ret (v7::w8)).bind fun w10=>M.ret (v9::w10)).bind fun w12=>M.ret (v11::w12))).bind fun v14=>(M.ret []).bind fun w15=>M.ret (v14::w15))).bind fun _=>M.ret Fl.next) (M.ret Fl.next))
theorem bx_Lexer_put {prog:Program}{w:World}{c:Act prog w (KK w)}{Γ:CT}(hsc:c.sc=F.scope_Lexer_put)(hnm:c.nm=nm_Lexer_put)(hh:c.A.handled=none)(G:COK c (.ref 59) Γ)(hwp:c.wp=fun _=>True)(W:Wd):BX c (.ref 59) c.env W F.body_Lexer_put (x_Lexer_put (KK w) Γ):=by
 walk_at "a"
 have hwv:∀ {W W':Wd},dJ W W'→c.wp W→c.wp W':=fun x h=>by rw [hwp] at h ⊢;trivial
 exact aB (fM (bT G (bB (aD hnm hsc) (by rfl)) (aA (aS G (bN (kg_Token w.params) (fun _=>.const _) (lx hsc rfl) (by decide)) (aA (aD hnm hsc) (aA (aD hnm hsc) (aA (bB (aD hnm hsc) (by rfl)) (aA (bB (aD hnm hsc) (by rfl)) (aA (bB (aD hnm hsc) (by rfl)) aM (by rfl)) (by rfl)) (by rfl)) (by rfl)) (by rfl)) (by rfl) (by rfl) (by rfl)) aM (by rfl)) (by rfl) (by rfl) (by rfl)) eB (by rfl)) aO W
 walk_at "z"
noncomputable def nm_Lexer_whole:List Str:=["self","base","value","many"]
noncomputable def dY (K:Frag)(Γ:CT):M Bool:=((((M.ret (.const F.at_digit_value)).bind fun f39=>aC K Γ f39 [] (((getVar 0).bind fun v35=>(getM K "sign" v35).bind fun c36=>bU K Γ c36.1 c36.2).bind fun v37=>(M.ret []).bind fun w38=>M.ret (v37::w38))).bind fun x40=>(getVar 1).bind fun y41=>(aY .Lt x40 y41).bind bI).bind fun c61=>bD c61 (M.ret true) (((((getVar 0).bind fun v42=>(getM K "sign" v42).bind fun c43=>bU K Γ c43.1 c43.2).bind fun x44=>(M.ret (.str "_")).bind fun y45=>(aY .Eq x44 y45).bind bI).bind fun c59=>bD c59 (((getVar 3).bind fun x46=>(M.ret (.int 0)).bind fun y47=>(aY .Gt x46 y47).bind bI).bind fun c58=>bD c58 ((((M.ret (.const F.at_digit_value)).bind fun f54=>aC K Γ f54 [] (((getVar 0).bind fun v48=>(getM K "sign" v48).bind fun c49=>aC K Γ c49.1 c49.2 ((M.ret (.int 1)).bind fun v50=>(M.ret []).bind fun w51=>M.ret (v50::w51))).bind fun v52=>(M.ret []).bind fun w53=>M.ret (v52::w53))).bind fun x55=>(getVar 1).bind fun y56=>(aY .Lt x55 y56).bind bI).bind fun c57=>bD c57 (M.ret true) (M.ret false)) (M.ret false)) (M.ret false)).bind fun c60=>bD c60 (M.ret true) (M.ret false)))
noncomputable def eW (K:Frag)(Γ:CT):M Fl:=(aF ((((getVar 0).bind fun v62=>(getM K "sign" v62).bind fun c63=>bU K Γ c63.1 c63.2).bind fun x64=>(M.ret (.str "_")).bind fun y65=>(aY .NotEq x64 y65).bind bI).bind fun c79=>bD c79 (aF ((((getVar 2).bind fun x66=>(getVar 1).bind fun y67=>bO .Mult x66 y67).bind fun x73=>((M.ret (.const F.at_digit_value)).bind fun f72=>aC K Γ f72 [] (((getVar 0).bind fun v68=>(getM K "sign" v68).bind fun c69=>bU K Γ c69.1 c69.2).bind fun v70=>(M.ret []).bind fun w71=>M.ret (v70::w71))).bind fun y74=>bO .Add x73 y74).bind fun v75=>(aJ 2 v75).bind fun _=>M.ret Fl.next) (aF ((getVar 3).bind fun u76=>(M.ret (.int 1)).bind fun v77=>(iopV .Add u76 v77).bind fun z78=>(aJ 3 z78).bind fun _=>M.ret Fl.next) (M.ret Fl.next))) (M.ret Fl.next)) (aF ((getVar 0).bind fun o80=>(cR K "place" o80).bind fun u81=>(M.ret (.int 1)).bind fun v82=>(iopV .Add u81 v82).bind fun z83=>(dN K "place" o80 z83).bind fun _=>M.ret Fl.next) (M.ret Fl.next)))
noncomputable def x_Lexer_whole (K:Frag)(Γ:CT):M Fl:=(aF (((((getVar 0).bind fun v1=>(getM K "sign" v1).bind fun c2=>bU K Γ c2.1 c2.2).bind fun x3=>(M.ret (.str "0")).bind fun y4=>(aY .Eq x3 y4).bind bI).bind fun c15=>bD c15 ((M.ret (.const 80)).bind fun v5=>(getM K "get" v5).bind fun c6=>aC K Γ c6.1 c6.2 ((((getVar 0).bind fun v7=>(getM K "sign" v7).bind fun c8=>aC K Γ c8.1 c8.2 ((M.ret (.int 1)).bind fun v9=>(M.ret []).bind fun w10=>M.ret (v9::w10))).bind fun v11=>(getM K "lower" v11).bind fun c12=>bU K Γ c12.1 c12.2).bind fun v13=>(M.ret []).bind fun w14=>M.ret (v13::w14))) (M.ret .none)).bind fun v16=>(aJ 1 v16).bind fun _=>M.ret Fl.next) (aF (((getVar 1).bind fun x17=>(M.ret .none).bind fun y18=>(aY .IsNot x17 y18).bind bI).bind fun c23=>bD c23 (aF ((getVar 0).bind fun o19=>(cR K "place" o19).bind fun u20=>(M.ret (.int 2)).bind fun v21=>(iopV .Add u20 v21).bind fun z22=>(dN K "place" o19 z22).bind fun _=>M.ret Fl.next) (M.ret Fl.next)) (M.ret Fl.next)) (aF ((((M.ret (.int 0)).bind fun v31=>((M.ret (.int 0)).bind fun v29=>((((getVar 1).bind fun x24=>(M.ret .none).bind fun y25=>(aY .Is x24 y25).bind bI).bind fun c26=>bD c26 (M.ret (.int 10)) (getVar 1)).bind fun v27=>(M.ret []).bind fun w28=>M.ret (v27::w28)).bind fun w30=>M.ret (v29::w30)).bind fun w32=>M.ret (v31::w32)).bind dR).bind fun v33=>(eK 3 v33).bind fun w34=>(dA [aJ 1,aJ 3,aJ 2] w34.reverse).bind fun _=>M.ret Fl.next) (aF (cW 100 (dY K Γ) (eW K Γ)) (aF ((((getVar 3).bind fun x84=>(M.ret (.int 0)).bind fun y85=>(aY .Eq x84 y85).bind bI).bind fun c91=>bD c91 (M.ret true) ((((getVar 0).bind fun v86=>(getM K "sign" v86).bind fun c87=>bU K Γ c87.1 c87.2).bind fun x88=>((M.ret (.const 128)).bind (cR K "inner")).bind fun y89=>(cmpD K .In x88 y89).bind bI).bind fun c90=>bD c90 (M.ret true) (M.ret false))).bind fun c96=>bD c96 (aF (((getVar 0).bind fun v92=>(getM K "fail" v92).bind fun c93=>aC K Γ c93.1 c93.2 ((M.ret (.str "a number")).bind fun v94=>(M.ret []).bind fun w95=>M.ret (v94::w95))).bind fun _=>M.ret Fl.next) (M.ret Fl.next)) (M.ret Fl.next)) (aF (((((getVar 0).bind fun v97=>(getM K "sign" v97).bind fun c98=>bU K Γ c98.1 c98.2).bind fun x99=>(M.ret (.str ".")).bind fun y100=>(aY .Eq x99 y100).bind bI).bind fun c109=>bD c109 ((((M.ret (.const F.at_is_digit)).bind fun f107=>aC K Γ f107 [] (((getVar 0).bind fun v101=>(getM K "sign" v101).bind fun c102=>aC K Γ c102.1 c102.2 ((M.ret (.int 1)).bind fun v103=>(M.ret []).bind fun w104=>M.ret (v103::w104))).bind fun v105=>(M.ret []).bind fun w106=>M.ret (v105::w106))).bind bI).bind fun c108=>bD c108 (M.ret true) (M.ret false)) (M.ret false)).bind fun c114=>bD c114 (aF (((getVar 0).bind fun v110=>(getM K "fail" v110).bind fun c111=>aC K Γ c111.1 c111.2 ((M.ret (.str "a number with a point")).bind fun v112=>(M.ret []).bind fun w113=>M.ret (v112::w113))).bind fun _=>M.ret Fl.next) (M.ret Fl.next)) (M.ret Fl.next)) (aF (((getVar 0).bind fun v115=>(getM K "put" v115).bind fun c116=>aC K Γ c116.1 c116.2 ((M.ret (.str "int")).bind fun v119=>((getVar 2).bind fun v117=>(M.ret []).bind fun w118=>M.ret (v117::w118)).bind fun w120=>M.ret (v119::w120))).bind fun _=>M.ret Fl.next) (M.ret Fl.next))))))))
theorem bx_Lexer_whole {prog:Program}{w:World}{c:Act prog w (KK w)}{Γ:CT}(hsc:c.sc=F.scope_Lexer_whole)(hnm:c.nm=nm_Lexer_whole)(hh:c.A.handled=none)(G:COK c (.ref 59) Γ)(hwp:c.wp=fun _=>True)(W:Wd):BX c (.ref 59) c.env W F.body_Lexer_whole (x_Lexer_whole (KK w) Γ):=by
 have hwv:∀ {W W':Wd},dJ W W'→c.wp W→c.wp W':=fun x h=>by rw [hwp] at h ⊢;trivial
 exact aB (aV (eL (aI (bH G (aD hnm hsc) (by rfl)) (bP) (by rfl)) (bT G (bN (kg_BASES w.params) (fun _=>.const _) (lx hsc rfl) (by decide)) (aA (bH G (bT G (aD hnm hsc) (aA (aR) aM (by rfl)) (by rfl) (by rfl) (by rfl)) (by rfl)) aM (by rfl)) (by rfl) (by rfl) (by rfl)) (dC)) (lk hnm rfl) (lx hsc rfl) (by rfl)) (aB (dO (aI (aD hnm hsc) (dC) (by rfl)) (aB (fX (aD hnm hsc) (aR)) aO) aO) (aB (eZ hh (names:=["value","many","base"]) (cT (aA (aR) (aA (aR) (aA (eL (aI (aD hnm hsc) (dC) (by rfl)) (aR) (aD hnm hsc)) aM (by rfl)) (by rfl)) (by rfl))) (.cons (eO (lk hnm rfl) (lx hsc rfl)) (.cons (eO (lk hnm rfl) (lx hsc rfl)) (.cons (eO (lk hnm rfl) (lx hsc rfl)) (.nil)))) (lsc (f:=swapsWithSole _ _ _) hsc (fun _ _ _ _ _=>rfl)) (lsc (f:=swappedStores _ _) hsc (fun _ _ _ _ _=>rfl))) (aB (s_While 100 (t_or (aI (aS G (bN (fU w.params) (fun _=>.const _) (lx hsc rfl) (by decide)) (aA (bH G (aD hnm hsc) (by rfl)) aM (by rfl)) (by rfl) (by rfl) (by rfl)) (aD hnm hsc) (by rfl)) (t_or (eP (aI (bH G (aD hnm hsc) (by rfl)) (bP) (by rfl)) (eP (aI (aD hnm hsc) (aR) (by rfl)) (eP (aI (aS G (bN (fU w.params) (fun _=>.const _) (lx hsc rfl) (by decide)) (aA (bT G (aD hnm hsc) (aA (aR) aM (by rfl)) (by rfl) (by rfl) (by rfl)) aM (by rfl)) (by rfl) (by rfl) (by rfl)) (aD hnm hsc) (by rfl)) (t_and0)))) (t_or0))) (aB (dO (aI (bH G (aD hnm hsc) (by rfl)) (bP) (by rfl)) (aB (aV (aQ (aQ (aD hnm hsc) (aD hnm hsc)) (aS G (bN (fU w.params) (fun _=>.const _) (lx hsc rfl) (by decide)) (aA (bH G (aD hnm hsc) (by rfl)) aM (by rfl)) (by rfl) (by rfl) (by rfl))) (lk hnm rfl) (lx hsc rfl) (by rfl)) (aB (gU (aR) (lk hnm rfl) (lx hsc rfl)) aO)) aO) (aB (fX (aD hnm hsc) (aR)) aO))) (aB (dO (t_or (aI (aD hnm hsc) (aR) (by rfl)) (t_or (fQ (bH G (aD hnm hsc) (by rfl)) (bB (bN (kg_Signs w.params) (fun _=>.const _) (lx hsc rfl) (by decide)) (by rfl)) (by rfl)) (t_or0))) (aB (fM (bT G (aD hnm hsc) (aA (bP) aM (by rfl)) (by rfl) (by rfl) (by rfl)) eB (by rfl)) aO) aO) (aB (dO (eP (aI (bH G (aD hnm hsc) (by rfl)) (bP) (by rfl)) (eP (iP (aS G (bN (kg_is_digit w.params) (fun _=>.const _) (lx hsc rfl) (by decide)) (aA (bT G (aD hnm hsc) (aA (aR) aM (by rfl)) (by rfl) (by rfl) (by rfl)) aM (by rfl)) (by rfl) (by rfl) (by rfl)) (by rfl)) (t_and0))) (aB (fM (bT G (aD hnm hsc) (aA (bP) aM (by rfl)) (by rfl) (by rfl) (by rfl)) eB (by rfl)) aO) aO) (aB (fM (bT G (aD hnm hsc) (aA (bP) (aA (aD hnm hsc) aM (by rfl)) (by rfl)) (by rfl) (by rfl) (by rfl)) eB (by rfl)) aO)))))) W
noncomputable def nm_Lexer_longest:List Str:=["self","at","known","size","text"]
noncomputable def dU (K:Frag)(Γ:CT):M Fl:=(aF ((((getVar 0).bind (cR K "source")).bind fun o10=>(getVar 1).bind fun l11=>((getVar 1).bind fun x8=>(getVar 3).bind fun y9=>bO .Add x8 y9).bind fun u12=>bM o10 l11 u12).bind fun v13=>(aJ 4 v13).bind fun _=>M.ret Fl.next) (aF (((getVar 4).bind fun x14=>(getVar 2).bind fun y15=>(cmpD K .In x14 y15).bind bI).bind fun c17=>bD c17 (aF ((getVar 4).bind fun v16=>M.ret (.ret v16)) (M.ret Fl.next)) (M.ret Fl.next)) (M.ret Fl.next)))
noncomputable def fG (K:Frag)(Γ:CT):M Fl:=(aF (((M.ret (.ty "range")).bind fun f7=>aC K Γ f7 [] ((M.ret (.int 3)).bind fun v5=>((M.ret (.int 0)).bind fun v3=>(((M.ret (.int 1)).bind negV).bind fun v1=>(M.ret []).bind fun w2=>M.ret (v1::w2)).bind fun w4=>M.ret (v3::w4)).bind fun w6=>M.ret (v5::w6))).bind fun v18=>fun σ=>match iI σ v18 with | some items=>forM (aJ 3) (dU K Γ) items σ | none=>none) (aF ((M.ret (.str "")).bind fun v19=>M.ret (.ret v19)) (M.ret Fl.next)))
theorem bx_Lexer_longest {prog:Program}{w:World}{c:Act prog w (KK w)}{Γ:CT}(hsc:c.sc=F.scope_Lexer_longest)(hnm:c.nm=nm_Lexer_longest)(hh:c.A.handled=none)(G:COK c (.ref 59) Γ)(hwp:c.wp=fun _=>True)(W:Wd):BX c (.ref 59) c.env W F.body_Lexer_longest (fG (KK w) Γ):=by
 have hwv:∀ {W W':Wd},dJ W W'→c.wp W→c.wp W':=fun x h=>by rw [hwp] at h ⊢;trivial
 exact aB (s_For hwv (iter_rng hh) (aS G (aU (kb_range w.params) (bb_range) (fun _=>.ty _) (by decide) (lx hsc rfl) (by decide)) (aA (bN (kg_LONGEST_OPERATOR w.params) (fun _=>.int _ _) (lx hsc rfl) (by decide)) (aA (aR) (aA (e_USub (aR)) aM (by rfl)) (by rfl)) (by rfl)) (by rfl) (by rfl) (by rfl)) (iR (lk hnm rfl) (lx hsc rfl)) (aB (aV (bY (bB (aD hnm hsc) (by rfl)) (bR (aD hnm hsc)) (bR (aQ (aD hnm hsc) (aD hnm hsc))) (fun _ _=>rfl)) (lk hnm rfl) (lx hsc rfl) (by rfl)) (aB (dO (fQ (aD hnm hsc) (aD hnm hsc) (by rfl)) (aB (aX (aD hnm hsc)) aO) aO) aO)) (fun _=>rfl) (fun _ _=>rfl)) (aB (aX (bP)) aO) W
noncomputable def nm_law_signs:List Str:=["script","menu","found","cell","rest"]
noncomputable def fY (K:Frag)(Γ:CT)(sl:Addr)(sn:List Int):M Bool:=(((getVar 4).bind fun x38=>(M.ret (.int 100)).bind fun y39=>(aY .GtE x38 y39).bind bI).bind fun c46=>bD c46 ((((M.ret (.bi "len")).bind fun f42=>aC K Γ f42 [] ((getVar 2).bind fun v40=>(M.ret []).bind fun w41=>M.ret (v40::w41))).bind fun x43=>(M.ret (.int 12)).bind fun y44=>(aY .Lt x43 y44).bind bI).bind fun c45=>bD c45 (M.ret true) (M.ret false)) (M.ret false))
noncomputable def b2_law_signs (K:Frag)(Γ:CT)(sl:Addr)(sn:List Int):M Fl:=(aF (((getVar 4).bind fun x47=>(M.ret (.int 100)).bind fun y48=>bO .FloorDiv x47 y48).bind fun v49=>(aJ 4 v49).bind fun _=>M.ret Fl.next) (aF (((getVar 2).bind fun x56=>((getVar 1).bind fun o54=>(((getVar 4).bind fun x50=>(M.ret (.int 100)).bind fun y51=>bO .Mod x50 y51).bind fun x52=>(M.ret (.int 20)).bind fun y53=>bO .Mod x52 y53).bind fun i55=>cU o54 i55).bind fun y57=>bO .Add x56 y57).bind fun v58=>(aJ 2 v58).bind fun _=>M.ret Fl.next) (M.ret Fl.next)))
noncomputable def b3_law_signs (K:Frag)(Γ:CT)(sl:Addr)(sn:List Int):M Fl:=(aF (((M.ret (.bi "abs")).bind fun f27=>aC K Γ f27 [] ((getVar 3).bind fun v25=>(M.ret []).bind fun w26=>M.ret (v25::w26))).bind fun v28=>(aJ 4 v28).bind fun _=>M.ret Fl.next) (aF (((getVar 2).bind fun x35=>((getVar 1).bind fun o33=>(((getVar 4).bind fun x29=>(M.ret (.int 100)).bind fun y30=>bO .Mod x29 y30).bind fun x31=>(M.ret (.int 20)).bind fun y32=>bO .Mod x31 y32).bind fun i34=>cU o33 i34).bind fun y36=>bO .Add x35 y36).bind fun v37=>(aJ 2 v37).bind fun _=>M.ret Fl.next) (aF (cW 100 (fY K Γ sl sn) (b2_law_signs K Γ sl sn)) (M.ret Fl.next))))
noncomputable def x_law_signs (K:Frag)(Γ:CT)(sl:Addr)(sn:List Int):M Fl:=(aF (((((((M.ret (.str "'")).bind fun x4=>((M.ret (.bi "chr")).bind fun f3=>aC K Γ f3 [] ((M.ret (.int 34)).bind fun v1=>(M.ret []).bind fun w2=>M.ret (v1::w2))).bind fun y5=>bO .Add x4 y5).bind fun x9=>((M.ret (.bi "chr")).bind fun f8=>aC K Γ f8 [] ((M.ret (.int 92)).bind fun v6=>(M.ret []).bind fun w7=>M.ret (v6::w7))).bind fun y10=>bO .Add x9 y10).bind fun x11=>(M.ret (.str "#{}an01_x. ")).bind fun y12=>bO .Add x11 y12).bind fun x16=>((M.ret (.bi "chr")).bind fun f15=>aC K Γ f15 [] ((M.ret (.int 10)).bind fun v13=>(M.ret []).bind fun w14=>M.ret (v13::w14))).bind fun y17=>bO .Add x16 y17).bind fun x18=>(M.ret (.str "fb=<-")).bind fun y19=>bO .Add x18 y19).bind fun v20=>(aJ 1 v20).bind fun _=>M.ret Fl.next) (aF ((M.ret (.str "")).bind fun v21=>(aJ 2 v21).bind fun _=>M.ret Fl.next) (aF (((getVar 0).bind fun o22=>(M.ret .none).bind fun l23=>(M.ret (.int 12)).bind fun u24=>sliceB sl sn o22 l23 u24).bind fun v59=>fun σ=>match itsLst σ v59 with | some items=>forM (aJ 3) (b3_law_signs K Γ sl sn) items σ | none=>none) (aF ((((getVar 2).bind fun x60=>(M.ret (.str "")).bind fun y61=>(aY .NotEq x60 y61).bind bI).bind fun c75=>bD c75 ((getVar 2).bind fun o62=>(M.ret .none).bind fun l63=>(M.ret (.int 12)).bind fun u64=>bM o62 l63 u64) ((((M.ret (.bi "chr")).bind fun f67=>aC K Γ f67 [] ((M.ret (.int 34)).bind fun v65=>(M.ret []).bind fun w66=>M.ret (v65::w66))).bind fun x68=>(M.ret (.str "#{a}")).bind fun y69=>bO .Add x68 y69).bind fun x73=>((M.ret (.bi "chr")).bind fun f72=>aC K Γ f72 [] ((M.ret (.int 34)).bind fun v70=>(M.ret []).bind fun w71=>M.ret (v70::w71))).bind fun y74=>bO .Add x73 y74)).bind fun v76=>M.ret (.ret v76)) (M.ret Fl.next)))))
theorem bx_law_signs {prog:Program}{w:World}{c:Act prog w (KK w)}{Γ:CT}(hsc:c.sc=F.scope_law_signs)(hnm:c.nm=nm_law_signs)(hh:c.A.handled=none)(G:COK c (.ref 59) Γ)(hwp:c.wp=fun _=>True)(W:Wd):BX c (.ref 59) c.env W F.body_law_signs (x_law_signs (KK w) Γ c.sl c.sn):=by
 have hwv:∀ {W W':Wd},dJ W W'→c.wp W→c.wp W':=fun x h=>by rw [hwp] at h ⊢;trivial
 exact aB (aV (aQ (aQ (aQ (aQ (aQ (bP) (aS G (aU (gH w.params) (iL) (fun _=>.bi _) (by decide) (lx hsc rfl) (by decide)) (aA (aR) aM (by rfl)) (by rfl) (by rfl) (by rfl))) (aS G (aU (gH w.params) (iL) (fun _=>.bi _) (by decide) (lx hsc rfl) (by decide)) (aA (aR) aM (by rfl)) (by rfl) (by rfl) (by rfl))) (bP)) (aS G (aU (gH w.params) (iL) (fun _=>.bi _) (by decide) (lx hsc rfl) (by decide)) (aA (aR) aM (by rfl)) (by rfl) (by rfl) (by rfl))) (bP)) (lk hnm rfl) (lx hsc rfl) (by rfl)) (aB (aV (bP) (lk hnm rfl) (lx hsc rfl) (by rfl)) (aB (s_For hwv (iter_lst hh) (e_SliceB (aD hnm hsc) (p_none) (bR (aR)) (fun _ _=>rfl) (fun _ _=>rfl)) (iR (lk hnm rfl) (lx hsc rfl)) (aB (aV (aS G (aU (kb_abs w.params) (bb_abs) (fun _=>.bi _) (by decide) (lx hsc rfl) (by decide)) (aA (aD hnm hsc) aM (by rfl)) (by rfl) (by rfl) (by rfl)) (lk hnm rfl) (lx hsc rfl) (by rfl)) (aB (aV (aQ (aD hnm hsc) (cP (aD hnm hsc) (aQ (aQ (aD hnm hsc) (aR)) (aR)) (fun _ _ _=>rfl))) (lk hnm rfl) (lx hsc rfl) (by rfl)) (aB (s_While 100 (eP (aI (aD hnm hsc) (aR) (by rfl)) (eP (aI (aS G (aU (eS w.params) (eV) (fun _=>.bi _) (by decide) (lx hsc rfl) (by decide)) (aA (aD hnm hsc) aM (by rfl)) (by rfl) (by rfl) (by rfl)) (aR) (by rfl)) (t_and0))) (aB (aV (aQ (aD hnm hsc) (aR)) (lk hnm rfl) (lx hsc rfl) (by rfl)) (aB (aV (aQ (aD hnm hsc) (cP (aD hnm hsc) (aQ (aQ (aD hnm hsc) (aR)) (aR)) (fun _ _ _=>rfl))) (lk hnm rfl) (lx hsc rfl) (by rfl)) aO))) aO))) (fun _=>rfl) (fun _ _=>rfl)) (aB (aX (eL (aI (aD hnm hsc) (bP) (by rfl)) (bY (aD hnm hsc) (p_none) (bR (aR)) (fun _ _=>rfl)) (aQ (aQ (aS G (aU (gH w.params) (iL) (fun _=>.bi _) (by decide) (lx hsc rfl) (by decide)) (aA (aR) aM (by rfl)) (by rfl) (by rfl) (by rfl)) (bP)) (aS G (aU (gH w.params) (iL) (fun _=>.bi _) (by decide) (lx hsc rfl) (by decide)) (aA (aR) aM (by rfl)) (by rfl) (by rfl) (by rfl))))) aO))) W
noncomputable def nm_law_single:List Str:=["text","at","pair","size","rest"]
noncomputable def dF (K:Frag)(Γ:CT):M Fl:=(aF (((getVar 1).bind fun x4=>((M.ret (.bi "len")).bind fun f3=>aC K Γ f3 [] ((getVar 0).bind fun v1=>(M.ret []).bind fun w2=>M.ret (v1::w2))).bind fun y5=>(aY .GtE x4 y5).bind bI).bind fun c7=>bD c7 (aF ((M.ret .none).bind fun v6=>M.ret (.ret v6)) (M.ret Fl.next)) (M.ret Fl.next)) (aF ((((getVar 0).bind fun o8=>(getVar 1).bind fun i9=>cU o8 i9).bind fun x10=>(M.ret (.str "'")).bind fun y11=>(aY .Eq x10 y11).bind bI).bind fun c19=>bD c19 (aF ((((M.ret (.str "")).bind fun v16=>(((getVar 1).bind fun x12=>(M.ret (.int 1)).bind fun y13=>bO .Add x12 y13).bind fun v14=>(M.ret []).bind fun w15=>M.ret (v14::w15)).bind fun w17=>M.ret (v16::w17)).bind dR).bind fun v18=>M.ret (.ret v18)) (M.ret Fl.next)) (M.ret Fl.next)) (aF (((getVar 0).bind fun o22=>(getVar 1).bind fun l23=>((getVar 1).bind fun x20=>(M.ret (.int 2)).bind fun y21=>bO .Add x20 y21).bind fun u24=>bM o22 l23 u24).bind fun v25=>(aJ 2 v25).bind fun _=>M.ret Fl.next) (aF ((((getVar 2).bind fun x43=>(((((M.ret (.bi "chr")).bind fun f28=>aC K Γ f28 [] ((M.ret (.int 92)).bind fun v26=>(M.ret []).bind fun w27=>M.ret (v26::w27))).bind fun x32=>((M.ret (.bi "chr")).bind fun f31=>aC K Γ f31 [] ((M.ret (.int 92)).bind fun v29=>(M.ret []).bind fun w30=>M.ret (v29::w30))).bind fun y33=>bO .Add x32 y33).bind fun v41=>((((M.ret (.bi "chr")).bind fun f36=>aC K Γ f36 [] ((M.ret (.int 92)).bind fun v34=>(M.ret []).bind fun w35=>M.ret (v34::w35))).bind fun x37=>(M.ret (.str "'")).bind fun y38=>bO .Add x37 y38).bind fun v39=>(M.ret []).bind fun w40=>M.ret (v39::w40)).bind fun w42=>M.ret (v41::w42)).bind iF).bind fun y44=>(cmpD K .In x43 y44).bind bI).bind fun c45=>bD c45 (M.ret (.int 2)) (M.ret (.int 1))).bind fun v46=>(aJ 3 v46).bind fun _=>M.ret Fl.next) (aF (((M.ret (.const F.at_law_single)).bind fun f53=>aC K Γ f53 [] ((getVar 0).bind fun v51=>(((getVar 1).bind fun x47=>(getVar 3).bind fun y48=>bO .Add x47 y48).bind fun v49=>(M.ret []).bind fun w50=>M.ret (v49::w50)).bind fun w52=>M.ret (v51::w52))).bind fun v54=>(aJ 4 v54).bind fun _=>M.ret Fl.next) (aF ((((getVar 4).bind fun x55=>(M.ret .none).bind fun y56=>(aY .Is x55 y56).bind bI).bind fun c71=>bD c71 (M.ret .none) (((((getVar 2).bind fun o59=>((getVar 3).bind fun x57=>(M.ret (.int 1)).bind fun y58=>bO .Sub x57 y58).bind fun i60=>cU o59 i60).bind fun x63=>((getVar 4).bind fun o61=>(M.ret (.int 0)).bind fun i62=>cU o61 i62).bind fun y64=>bO .Add x63 y64).bind fun v69=>(((getVar 4).bind fun o65=>(M.ret (.int 1)).bind fun i66=>cU o65 i66).bind fun v67=>(M.ret []).bind fun w68=>M.ret (v67::w68)).bind fun w70=>M.ret (v69::w70)).bind dR)).bind fun v72=>M.ret (.ret v72)) (M.ret Fl.next)))))))
theorem bx_law_single {prog:Program}{w:World}{c:Act prog w (KK w)}{Γ:CT}(hsc:c.sc=F.scope_law_single)(hnm:c.nm=nm_law_single)(hh:c.A.handled=none)(G:COK c (.ref 59) Γ)(hwp:c.wp=fun _=>True)(W:Wd):BX c (.ref 59) c.env W F.body_law_single (dF (KK w) Γ):=by
 have hwv:∀ {W W':Wd},dJ W W'→c.wp W→c.wp W':=fun x h=>by rw [hwp] at h ⊢;trivial
 exact aB (dO (aI (aD hnm hsc) (aS G (aU (eS w.params) (eV) (fun _=>.bi _) (by decide) (lx hsc rfl) (by decide)) (aA (aD hnm hsc) aM (by rfl)) (by rfl) (by rfl) (by rfl)) (by rfl)) (aB (aX (dC)) aO) aO) (aB (dO (aI (cP (aD hnm hsc) (aD hnm hsc) (fun _ _ _=>rfl)) (bP) (by rfl)) (aB (aX (cT (aA (bP) (aA (aQ (aD hnm hsc) (aR)) aM (by rfl)) (by rfl)))) aO) aO) (aB (aV (bY (aD hnm hsc) (bR (aD hnm hsc)) (bR (aQ (aD hnm hsc) (aR))) (fun _ _=>rfl)) (lk hnm rfl) (lx hsc rfl) (by rfl)) (aB (aV (eL (fQ (aD hnm hsc) (iK (aA (aQ (aS G (aU (gH w.params) (iL) (fun _=>.bi _) (by decide) (lx hsc rfl) (by decide)) (aA (aR) aM (by rfl)) (by rfl) (by rfl) (by rfl)) (aS G (aU (gH w.params) (iL) (fun _=>.bi _) (by decide) (lx hsc rfl) (by decide)) (aA (aR) aM (by rfl)) (by rfl) (by rfl) (by rfl))) (aA (aQ (aS G (aU (gH w.params) (iL) (fun _=>.bi _) (by decide) (lx hsc rfl) (by decide)) (aA (aR) aM (by rfl)) (by rfl) (by rfl) (by rfl)) (bP)) aM (by rfl)) (by rfl))) (by rfl)) (aR) (aR)) (lk hnm rfl) (lx hsc rfl) (by rfl)) (aB (aV (aS G (bN (kg_law_single w.params) (fun _=>.const _) (lx hsc rfl) (by decide)) (aA (aD hnm hsc) (aA (aQ (aD hnm hsc) (aD hnm hsc)) aM (by rfl)) (by rfl)) (by rfl) (by rfl) (by rfl)) (lk hnm rfl) (lx hsc rfl) (by rfl)) (aB (aX (eL (aI (aD hnm hsc) (dC) (by rfl)) (dC) (cT (aA (aQ (cP (aD hnm hsc) (aQ (aD hnm hsc) (aR)) (fun _ _ _=>rfl)) (cP (aD hnm hsc) (aR) (fun _ _ _=>rfl))) (aA (cP (aD hnm hsc) (aR) (fun _ _ _=>rfl)) aM (by rfl)) (by rfl))))) aO))))) W
noncomputable def nm_law_code_end:List Str:=["text","at","depth","sign","found"]
noncomputable def cF (K:Frag)(Γ:CT):M Fl:=(aF (((getVar 1).bind fun x4=>((M.ret (.bi "len")).bind fun f3=>aC K Γ f3 [] ((getVar 0).bind fun v1=>(M.ret []).bind fun w2=>M.ret (v1::w2))).bind fun y5=>(aY .GtE x4 y5).bind bI).bind fun c7=>bD c7 (aF ((M.ret .none).bind fun v6=>M.ret (.ret v6)) (M.ret Fl.next)) (M.ret Fl.next)) (aF (((getVar 0).bind fun o8=>(getVar 1).bind fun i9=>cU o8 i9).bind fun v10=>(aJ 3 v10).bind fun _=>M.ret Fl.next) (aF ((((getVar 3).bind fun x11=>(M.ret (.str "'")).bind fun y12=>(aY .Eq x11 y12).bind bI).bind fun c19=>bD c19 (M.ret true) (((getVar 3).bind fun x16=>((M.ret (.bi "chr")).bind fun f15=>aC K Γ f15 [] ((M.ret (.int 34)).bind fun v13=>(M.ret []).bind fun w14=>M.ret (v13::w14))).bind fun y17=>(aY .Eq x16 y17).bind bI).bind fun c18=>bD c18 (M.ret true) (M.ret false))).bind fun c51=>bD c51 (aF ((((getVar 3).bind fun x20=>(M.ret (.str "'")).bind fun y21=>(aY .Eq x20 y21).bind bI).bind fun c36=>bD c36 ((M.ret (.const F.at_law_single)).bind fun f28=>aC K Γ f28 [] ((getVar 0).bind fun v26=>(((getVar 1).bind fun x22=>(M.ret (.int 1)).bind fun y23=>bO .Add x22 y23).bind fun v24=>(M.ret []).bind fun w25=>M.ret (v24::w25)).bind fun w27=>M.ret (v26::w27))) ((M.ret (.const F.at_law_double)).bind fun f35=>aC K Γ f35 [] ((getVar 0).bind fun v33=>(((getVar 1).bind fun x29=>(M.ret (.int 1)).bind fun y30=>bO .Add x29 y30).bind fun v31=>(M.ret []).bind fun w32=>M.ret (v31::w32)).bind fun w34=>M.ret (v33::w34)))).bind fun v37=>(aJ 4 v37).bind fun _=>M.ret Fl.next) (aF ((((getVar 4).bind fun x38=>(M.ret .none).bind fun y39=>(aY .Is x38 y39).bind bI).bind fun c49=>bD c49 (M.ret .none) ((M.ret (.const F.at_law_code_end)).bind fun f48=>aC K Γ f48 [] ((getVar 0).bind fun v46=>(((getVar 4).bind fun o40=>(M.ret (.int 1)).bind fun i41=>cU o40 i41).bind fun v44=>((getVar 2).bind fun v42=>(M.ret []).bind fun w43=>M.ret (v42::w43)).bind fun w45=>M.ret (v44::w45)).bind fun w47=>M.ret (v46::w47)))).bind fun v50=>M.ret (.ret v50)) (M.ret Fl.next))) (M.ret Fl.next)) (aF ((((getVar 2).bind fun x57=>((M.ret (.ty "int")).bind fun f56=>aC K Γ f56 [] (((getVar 3).bind fun x52=>(M.ret (.str "{")).bind fun y53=>(aY .Eq x52 y53)).bind fun v54=>(M.ret []).bind fun w55=>M.ret (v54::w55))).bind fun y58=>bO .Add x57 y58).bind fun x64=>((M.ret (.ty "int")).bind fun f63=>aC K Γ f63 [] (((getVar 3).bind fun x59=>(M.ret (.str "}")).bind fun y60=>(aY .Eq x59 y60)).bind fun v61=>(M.ret []).bind fun w62=>M.ret (v61::w62))).bind fun y65=>bO .Sub x64 y65).bind fun v66=>(aJ 2 v66).bind fun _=>M.ret Fl.next) (aF ((((getVar 2).bind fun x67=>(M.ret (.int 0)).bind fun y68=>(aY .Eq x67 y68).bind bI).bind fun c80=>bD c80 ((getVar 1).bind fun x69=>(M.ret (.int 1)).bind fun y70=>bO .Add x69 y70) ((M.ret (.const F.at_law_code_end)).bind fun f79=>aC K Γ f79 [] ((getVar 0).bind fun v77=>(((getVar 1).bind fun x71=>(M.ret (.int 1)).bind fun y72=>bO .Add x71 y72).bind fun v75=>((getVar 2).bind fun v73=>(M.ret []).bind fun w74=>M.ret (v73::w74)).bind fun w76=>M.ret (v75::w76)).bind fun w78=>M.ret (v77::w78)))).bind fun v81=>M.ret (.ret v81)) (M.ret Fl.next))))))
theorem bx_law_code_end {prog:Program}{w:World}{c:Act prog w (KK w)}{Γ:CT}(hsc:c.sc=F.scope_law_code_end)(hnm:c.nm=nm_law_code_end)(hh:c.A.handled=none)(G:COK c (.ref 59) Γ)(hwp:c.wp=fun _=>True)(W:Wd):BX c (.ref 59) c.env W F.body_law_code_end (cF (KK w) Γ):=by
 have hwv:∀ {W W':Wd},dJ W W'→c.wp W→c.wp W':=fun x h=>by rw [hwp] at h ⊢;trivial
 exact aB (dO (aI (aD hnm hsc) (aS G (aU (eS w.params) (eV) (fun _=>.bi _) (by decide) (lx hsc rfl) (by decide)) (aA (aD hnm hsc) aM (by rfl)) (by rfl) (by rfl) (by rfl)) (by rfl)) (aB (aX (dC)) aO) aO) (aB (aV (cP (aD hnm hsc) (aD hnm hsc) (fun _ _ _=>rfl)) (lk hnm rfl) (lx hsc rfl) (by rfl)) (aB (dO (t_or (aI (aD hnm hsc) (bP) (by rfl)) (t_or (aI (aD hnm hsc) (aS G (aU (gH w.params) (iL) (fun _=>.bi _) (by decide) (lx hsc rfl) (by decide)) (aA (aR) aM (by rfl)) (by rfl) (by rfl) (by rfl)) (by rfl)) (t_or0))) (aB (aV (eL (aI (aD hnm hsc) (bP) (by rfl)) (aS G (bN (kg_law_single w.params) (fun _=>.const _) (lx hsc rfl) (by decide)) (aA (aD hnm hsc) (aA (aQ (aD hnm hsc) (aR)) aM (by rfl)) (by rfl)) (by rfl) (by rfl) (by rfl)) (aS G (bN (kg_law_double w.params) (fun _=>.const _) (lx hsc rfl) (by decide)) (aA (aD hnm hsc) (aA (aQ (aD hnm hsc) (aR)) aM (by rfl)) (by rfl)) (by rfl) (by rfl) (by rfl))) (lk hnm rfl) (lx hsc rfl) (by rfl)) (aB (aX (eL (aI (aD hnm hsc) (dC) (by rfl)) (dC) (aS G (bN (eE w.params) (fun _=>.const _) (lx hsc rfl) (by decide)) (aA (aD hnm hsc) (aA (cP (aD hnm hsc) (aR) (fun _ _ _=>rfl)) (aA (aD hnm hsc) aM (by rfl)) (by rfl)) (by rfl)) (by rfl) (by rfl) (by rfl)))) aO)) aO) (aB (aV (aQ (aQ (aD hnm hsc) (aS G (aU (kb_int w.params) (bb_int) (fun _=>.ty _) (by decide) (lx hsc rfl) (by decide)) (aA (fJ (aD hnm hsc) (bP) (by rfl)) aM (by rfl)) (by rfl) (by rfl) (by rfl))) (aS G (aU (kb_int w.params) (bb_int) (fun _=>.ty _) (by decide) (lx hsc rfl) (by decide)) (aA (fJ (aD hnm hsc) (bP) (by rfl)) aM (by rfl)) (by rfl) (by rfl) (by rfl))) (lk hnm rfl) (lx hsc rfl) (by rfl)) (aB (aX (eL (aI (aD hnm hsc) (aR) (by rfl)) (aQ (aD hnm hsc) (aR)) (aS G (bN (eE w.params) (fun _=>.const _) (lx hsc rfl) (by decide)) (aA (aD hnm hsc) (aA (aQ (aD hnm hsc) (aR)) (aA (aD hnm hsc) aM (by rfl)) (by rfl)) (by rfl)) (by rfl) (by rfl) (by rfl)))) aO)))) W
noncomputable def nm_law_line:List Str:=["text","at"]
noncomputable def x_law_line (K:Frag)(Γ:CT):M Fl:=(aF (((M.ret (.int 1)).bind fun x12=>((M.ret (.bi "len")).bind fun f11=>aC K Γ f11 [] ((lcM ((getVar 0).bind fun o1=>(M.ret .none).bind fun l2=>(getVar 1).bind fun u3=>bM o1 l2 u3) (nxsOf itsStr) (fun v=>((M.ret v).bind fun x7=>((M.ret (.bi "chr")).bind fun f6=>aC K Γ f6 [] ((M.ret (.int 10)).bind fun v4=>(M.ret []).bind fun w5=>M.ret (v4::w5))).bind fun y8=>(aY .Eq x7 y8).bind bI)) (fun v=>(M.ret v))).bind fun v9=>(M.ret []).bind fun w10=>M.ret (v9::w10))).bind fun y13=>bO .Add x12 y13).bind fun v14=>M.ret (.ret v14)) (M.ret Fl.next))
theorem bx_law_line {prog:Program}{w:World}{c:Act prog w (KK w)}{Γ:CT}(hsc:c.sc=F.scope_law_line)(hnm:c.nm=nm_law_line)(hh:c.A.handled=none)(G:COK c (.ref 59) Γ)(hwp:c.wp=fun _=>True)(W:Wd):BX c (.ref 59) c.env W F.body_law_line (x_law_line (KK w) Γ):=by
 have hwv:∀ {W W':Wd},dJ W W'→c.wp W→c.wp W':=fun x h=>by rw [hwp] at h ⊢;trivial
 exact aB (aX (aQ (aR) (aS G (aU (eS w.params) (eV) (fun _=>.bi _) (by decide) (lx hsc rfl) (by decide)) (aA (e_ListComp hwv (src_iter (iter_str hh)) (by rfl) (by decide) (by rfl) (by decide) (by rfl) (fun _=>rfl) (bY (aD hnm hsc) (p_none) (bR (aD hnm hsc)) (fun _ _=>rfl)) (fun C oC v rv m hoC hm=>k_one (aI (c_local hoC hm (by rfl) (by rfl) (by decide)) (aS (COK.blk G) (c_builtin (gH w.params) (iL) (fun _=>.bi _) (by decide) (by rfl) (by rfl) (by decide)) (aA (aR) aM (by rfl)) (by rfl) (by rfl) (by rfl)) (by rfl))) (fun C oC v rv m hoC hm=>c_local hoC hm (by rfl) (by rfl) (by decide))) aM (by rfl)) (by rfl) (by rfl) (by rfl)))) aO W
noncomputable def nm_law_double:List Str:=["text","at","end_at","part_here","behind_it","known","rest","parts"]
noncomputable def bW (K:Frag)(Γ:CT):M Fl:=(aF ((((getVar 2).bind fun x110=>(M.ret .none).bind fun y111=>(aY .Is x110 y111).bind bI).bind fun c117=>bD c117 (M.ret .none) ((M.ret (.const F.at_law_double)).bind fun f116=>aC K Γ f116 [] ((getVar 0).bind fun v114=>((getVar 2).bind fun v112=>(M.ret []).bind fun w113=>M.ret (v112::w113)).bind fun w115=>M.ret (v114::w115)))).bind fun v118=>(aJ 6 v118).bind fun _=>M.ret Fl.next) (aF (((getVar 6).bind fun x119=>(M.ret .none).bind fun y120=>(aY .Is x119 y120).bind bI).bind fun c122=>bD c122 (aF ((M.ret .none).bind fun v121=>M.ret (.ret v121)) (M.ret Fl.next)) (M.ret Fl.next)) (aF (((getVar 6).bind fun o123=>(M.ret (.int 0)).bind fun i124=>cU o123 i124).bind fun v125=>(aJ 7 v125).bind fun _=>M.ret Fl.next) (aF (((((M.ret (.bi "isinstance")).bind fun f130=>aC K Γ f130 [] ((getVar 3).bind fun v128=>((M.ret (.ty "str")).bind fun v126=>(M.ret []).bind fun w127=>M.ret (v126::w127)).bind fun w129=>M.ret (v128::w129))).bind bI).bind fun c142=>bD c142 (((getVar 7).bind fun x131=>((M.ret []).bind iF).bind fun y132=>(aY .NotEq x131 y132).bind bI).bind fun c141=>bD c141 ((((M.ret (.bi "isinstance")).bind fun f139=>aC K Γ f139 [] (((getVar 7).bind fun o133=>(M.ret (.int 0)).bind fun i134=>cU o133 i134).bind fun v137=>((M.ret (.ty "str")).bind fun v135=>(M.ret []).bind fun w136=>M.ret (v135::w136)).bind fun w138=>M.ret (v137::w138))).bind bI).bind fun c140=>bD c140 (M.ret true) (M.ret false)) (M.ret false)) (M.ret false)).bind fun c161=>bD c161 (aF ((((((((getVar 3).bind fun x145=>((getVar 7).bind fun o143=>(M.ret (.int 0)).bind fun i144=>cU o143 i144).bind fun y146=>bO .Add x145 y146).bind fun v147=>(M.ret []).bind fun w148=>M.ret (v147::w148)).bind iF).bind fun x152=>((getVar 7).bind fun o149=>(M.ret (.int 1)).bind fun l150=>(M.ret .none).bind fun u151=>bM o149 l150 u151).bind fun y153=>binL .Add x152 y153).bind fun v158=>(((getVar 6).bind fun o154=>(M.ret (.int 1)).bind fun i155=>cU o154 i155).bind fun v156=>(M.ret []).bind fun w157=>M.ret (v156::w157)).bind fun w159=>M.ret (v158::w159)).bind dR).bind fun v160=>M.ret (.ret v160)) (M.ret Fl.next)) (M.ret Fl.next)) (aF (((((((getVar 3).bind fun x162=>(M.ret (.str "")).bind fun y163=>(aY .NotEq x162 y163).bind bI).bind fun c166=>bD c166 (((getVar 3).bind fun v164=>(M.ret []).bind fun w165=>M.ret (v164::w165)).bind iF) ((M.ret []).bind iF)).bind fun x167=>(getVar 7).bind fun y168=>binL .Add x167 y168).bind fun v173=>(((getVar 6).bind fun o169=>(M.ret (.int 1)).bind fun i170=>cU o169 i170).bind fun v171=>(M.ret []).bind fun w172=>M.ret (v171::w172)).bind fun w174=>M.ret (v173::w174)).bind dR).bind fun v175=>M.ret (.ret v175)) (M.ret Fl.next))))))
noncomputable def cL (K:Frag)(Γ:CT):M Fl:=(aF (((getVar 1).bind fun x4=>((M.ret (.bi "len")).bind fun f3=>aC K Γ f3 [] ((getVar 0).bind fun v1=>(M.ret []).bind fun w2=>M.ret (v1::w2))).bind fun y5=>(aY .GtE x4 y5).bind bI).bind fun c7=>bD c7 (aF ((M.ret .none).bind fun v6=>M.ret (.ret v6)) (M.ret Fl.next)) (M.ret Fl.next)) (aF ((((getVar 0).bind fun o8=>(getVar 1).bind fun i9=>cU o8 i9).bind fun x13=>((M.ret (.bi "chr")).bind fun f12=>aC K Γ f12 [] ((M.ret (.int 34)).bind fun v10=>(M.ret []).bind fun w11=>M.ret (v10::w11))).bind fun y14=>(aY .Eq x13 y14).bind bI).bind fun c22=>bD c22 (aF (((((M.ret []).bind iF).bind fun v19=>(((getVar 1).bind fun x15=>(M.ret (.int 1)).bind fun y16=>bO .Add x15 y16).bind fun v17=>(M.ret []).bind fun w18=>M.ret (v17::w18)).bind fun w20=>M.ret (v19::w20)).bind dR).bind fun v21=>M.ret (.ret v21)) (M.ret Fl.next)) (M.ret Fl.next)) (aF ((((getVar 0).bind fun o25=>(getVar 1).bind fun l26=>((getVar 1).bind fun x23=>(M.ret (.int 2)).bind fun y24=>bO .Add x23 y24).bind fun u27=>bM o25 l26 u27).bind fun x28=>(M.ret (.str "#{")).bind fun y29=>(aY .Eq x28 y29).bind bI).bind fun c109=>bD c109 (aF (((M.ret (.const F.at_law_code_end)).bind fun f38=>aC K Γ f38 [] ((getVar 0).bind fun v36=>(((getVar 1).bind fun x30=>(M.ret (.int 2)).bind fun y31=>bO .Add x30 y31).bind fun v34=>((M.ret (.int 1)).bind fun v32=>(M.ret []).bind fun w33=>M.ret (v32::w33)).bind fun w35=>M.ret (v34::w35)).bind fun w37=>M.ret (v36::w37))).bind fun v39=>(aJ 2 v39).bind fun _=>M.ret Fl.next) (aF ((((getVar 2).bind fun x40=>(M.ret .none).bind fun y41=>(aY .Is x40 y41).bind bI).bind fun c60=>bD c60 (M.ret .none) ((((getVar 0).bind fun o46=>((getVar 1).bind fun x42=>(M.ret (.int 2)).bind fun y43=>bO .Add x42 y43).bind fun l47=>((getVar 2).bind fun x44=>(M.ret (.int 1)).bind fun y45=>bO .Sub x44 y45).bind fun u48=>bM o46 l47 u48).bind fun v58=>(((M.ret (.const F.at_law_line)).bind fun f55=>aC K Γ f55 [] ((getVar 0).bind fun v53=>(((getVar 1).bind fun x49=>(M.ret (.int 2)).bind fun y50=>bO .Add x49 y50).bind fun v51=>(M.ret []).bind fun w52=>M.ret (v51::w52)).bind fun w54=>M.ret (v53::w54))).bind fun v56=>(M.ret []).bind fun w57=>M.ret (v56::w57)).bind fun w59=>M.ret (v58::w59)).bind dR)).bind fun v61=>(aJ 3 v61).bind fun _=>M.ret Fl.next) (M.ret Fl.next))) (aF ((((getVar 0).bind fun o62=>(getVar 1).bind fun i63=>cU o62 i63).bind fun x67=>((M.ret (.bi "chr")).bind fun f66=>aC K Γ f66 [] ((M.ret (.int 92)).bind fun v64=>(M.ret []).bind fun w65=>M.ret (v64::w65))).bind fun y68=>(aY .Eq x67 y68).bind bI).bind fun c108=>bD c108 (aF ((((getVar 1).bind fun x69=>(M.ret (.int 1)).bind fun y70=>bO .Add x69 y70).bind fun x74=>((M.ret (.bi "len")).bind fun f73=>aC K Γ f73 [] ((getVar 0).bind fun v71=>(M.ret []).bind fun w72=>M.ret (v71::w72))).bind fun y75=>(aY .GtE x74 y75).bind bI).bind fun c77=>bD c77 (aF ((M.ret .none).bind fun v76=>M.ret (.ret v76)) (M.ret Fl.next)) (M.ret Fl.next)) (aF (((getVar 0).bind fun o80=>((getVar 1).bind fun x78=>(M.ret (.int 1)).bind fun y79=>bO .Add x78 y79).bind fun i81=>cU o80 i81).bind fun v82=>(aJ 4 v82).bind fun _=>M.ret Fl.next) (aF ((M.ret (.dct [("n",.str ⟨#[(10:Int).toNat]⟩),("0",.str ⟨#[(0:Int).toNat]⟩),(⟨#[(10:Int).toNat]⟩,.str "")])).bind fun v83=>(aJ 5 v83).bind fun _=>M.ret Fl.next) (aF (((((getVar 1).bind fun x84=>(M.ret (.int 2)).bind fun y85=>bO .Add x84 y85).bind fun v94=>(((getVar 5).bind fun v86=>(getM K "get" v86).bind fun c87=>aC K Γ c87.1 c87.2 ((getVar 4).bind fun v90=>((getVar 4).bind fun v88=>(M.ret []).bind fun w89=>M.ret (v88::w89)).bind fun w91=>M.ret (v90::w91))).bind fun v92=>(M.ret []).bind fun w93=>M.ret (v92::w93)).bind fun w95=>M.ret (v94::w95)).bind dR).bind fun v96=>(eK 2 v96).bind fun w97=>(dA [aJ 3,aJ 2] w97.reverse).bind fun _=>M.ret Fl.next) (M.ret Fl.next))))) (aF (((((getVar 1).bind fun x98=>(M.ret (.int 1)).bind fun y99=>bO .Add x98 y99).bind fun v104=>(((getVar 0).bind fun o100=>(getVar 1).bind fun i101=>cU o100 i101).bind fun v102=>(M.ret []).bind fun w103=>M.ret (v102::w103)).bind fun w105=>M.ret (v104::w105)).bind dR).bind fun v106=>(eK 2 v106).bind fun w107=>(dA [aJ 3,aJ 2] w107.reverse).bind fun _=>M.ret Fl.next) (M.ret Fl.next))) (M.ret Fl.next))) (bW K Γ))))
theorem bx_law_double {prog:Program}{w:World}{c:Act prog w (KK w)}{Γ:CT}(hsc:c.sc=F.scope_law_double)(hnm:c.nm=nm_law_double)(hh:c.A.handled=none)(G:COK c (.ref 59) Γ)(hwp:c.wp=fun _=>True)(W:Wd):BX c (.ref 59) c.env W F.body_law_double (cL (KK w) Γ):=by
 have hwv:∀ {W W':Wd},dJ W W'→c.wp W→c.wp W':=fun x h=>by rw [hwp] at h ⊢;trivial
 exact aB (dO (aI (aD hnm hsc) (aS G (aU (eS w.params) (eV) (fun _=>.bi _) (by decide) (lx hsc rfl) (by decide)) (aA (aD hnm hsc) aM (by rfl)) (by rfl) (by rfl) (by rfl)) (by rfl)) (aB (aX (dC)) aO) aO) (aB (dO (aI (cP (aD hnm hsc) (aD hnm hsc) (fun _ _ _=>rfl)) (aS G (aU (gH w.params) (iL) (fun _=>.bi _) (by decide) (lx hsc rfl) (by decide)) (aA (aR) aM (by rfl)) (by rfl) (by rfl) (by rfl)) (by rfl)) (aB (aX (cT (aA (iK aM) (aA (aQ (aD hnm hsc) (aR)) aM (by rfl)) (by rfl)))) aO) aO) (aB (dO (aI (bY (aD hnm hsc) (bR (aD hnm hsc)) (bR (aQ (aD hnm hsc) (aR))) (fun _ _=>rfl)) (bP) (by rfl)) (aB (aV (aS G (bN (eE w.params) (fun _=>.const _) (lx hsc rfl) (by decide)) (aA (aD hnm hsc) (aA (aQ (aD hnm hsc) (aR)) (aA (aR) aM (by rfl)) (by rfl)) (by rfl)) (by rfl) (by rfl) (by rfl)) (lk hnm rfl) (lx hsc rfl) (by rfl)) (aB (aV (eL (aI (aD hnm hsc) (dC) (by rfl)) (dC) (cT (aA (bY (aD hnm hsc) (bR (aQ (aD hnm hsc) (aR))) (bR (aQ (aD hnm hsc) (aR))) (fun _ _=>rfl)) (aA (aS G (bN (kg_law_line w.params) (fun _=>.const _) (lx hsc rfl) (by decide)) (aA (aD hnm hsc) (aA (aQ (aD hnm hsc) (aR)) aM (by rfl)) (by rfl)) (by rfl) (by rfl) (by rfl)) aM (by rfl)) (by rfl)))) (lk hnm rfl) (lx hsc rfl) (by rfl)) aO)) (aB (dO (aI (cP (aD hnm hsc) (aD hnm hsc) (fun _ _ _=>rfl)) (aS G (aU (gH w.params) (iL) (fun _=>.bi _) (by decide) (lx hsc rfl) (by decide)) (aA (aR) aM (by rfl)) (by rfl) (by rfl) (by rfl)) (by rfl)) (aB (dO (aI (aQ (aD hnm hsc) (aR)) (aS G (aU (eS w.params) (eV) (fun _=>.bi _) (by decide) (lx hsc rfl) (by decide)) (aA (aD hnm hsc) aM (by rfl)) (by rfl) (by rfl) (by rfl)) (by rfl)) (aB (aX (dC)) aO) aO) (aB (aV (cP (aD hnm hsc) (aQ (aD hnm hsc) (aR)) (fun _ _ _=>rfl)) (lk hnm rfl) (lx hsc rfl) (by rfl)) (aB (aV (e_Dict (.cons (c_str) (c_chr (gH w.params) (lx hsc rfl) (by decide)) (.cons (c_str) (c_chr (gH w.params) (lx hsc rfl) (by decide)) (.cons (c_chr (gH w.params) (lx hsc rfl) (by decide)) (c_str) (CPs.nil)))) (by decide) (by rfl) (by rfl) (by simp) (by decide)) (lk hnm rfl) (lx hsc rfl) (by rfl)) (aB (eZ hh (names:=["end_at","part_here"]) (cT (aA (aQ (aD hnm hsc) (aR)) (aA (bT G (aD hnm hsc) (aA (aD hnm hsc) (aA (aD hnm hsc) aM (by rfl)) (by rfl)) (by rfl) (by rfl) (by rfl)) aM (by rfl)) (by rfl))) (.cons (eO (lk hnm rfl) (lx hsc rfl)) (.cons (eO (lk hnm rfl) (lx hsc rfl)) (.nil))) (lsc (f:=swapsWithSole _ _ _) hsc (fun _ _ _ _ _=>rfl)) (lsc (f:=swappedStores _ _) hsc (fun _ _ _ _ _=>rfl))) aO)))) (aB (eZ hh (names:=["end_at","part_here"]) (cT (aA (aQ (aD hnm hsc) (aR)) (aA (cP (aD hnm hsc) (aD hnm hsc) (fun _ _ _=>rfl)) aM (by rfl)) (by rfl))) (.cons (eO (lk hnm rfl) (lx hsc rfl)) (.cons (eO (lk hnm rfl) (lx hsc rfl)) (.nil))) (lsc (f:=swapsWithSole _ _ _) hsc (fun _ _ _ _ _=>rfl)) (lsc (f:=swappedStores _ _) hsc (fun _ _ _ _ _=>rfl))) aO)) aO)) (aB (aV (eL (aI (aD hnm hsc) (dC) (by rfl)) (dC) (aS G (bN (kg_law_double w.params) (fun _=>.const _) (lx hsc rfl) (by decide)) (aA (aD hnm hsc) (aA (aD hnm hsc) aM (by rfl)) (by rfl)) (by rfl) (by rfl) (by rfl))) (lk hnm rfl) (lx hsc rfl) (by rfl)) (aB (dO (aI (aD hnm hsc) (dC) (by rfl)) (aB (aX (dC)) aO) aO) (aB (aV (cP (aD hnm hsc) (aR) (fun _ _ _=>rfl)) (lk hnm rfl) (lx hsc rfl) (by rfl)) (aB (dO (eP (iP (aS G (aU (kb_isinstance w.params) (bb_isinstance) (fun _=>.bi _) (by decide) (lx hsc rfl) (by decide)) (aA (aD hnm hsc) (aA (aU (kb_str w.params) (bb_str) (fun _=>.ty _) (by decide) (lx hsc rfl) (by decide)) aM (by rfl)) (by rfl)) (by rfl) (by rfl) (by rfl)) (by rfl)) (eP (aI (aD hnm hsc) (iK aM) (by rfl)) (eP (iP (aS G (aU (kb_isinstance w.params) (bb_isinstance) (fun _=>.bi _) (by decide) (lx hsc rfl) (by decide)) (aA (cP (aD hnm hsc) (aR) (fun _ _ _=>rfl)) (aA (aU (kb_str w.params) (bb_str) (fun _=>.ty _) (by decide) (lx hsc rfl) (by decide)) aM (by rfl)) (by rfl)) (by rfl) (by rfl) (by rfl)) (by rfl)) (t_and0)))) (aB (aX (cT (aA (e_BinOpL (iK (aA (aQ (aD hnm hsc) (cP (aD hnm hsc) (aR) (fun _ _ _=>rfl))) aM (by rfl))) (bY (aD hnm hsc) (bR (aR)) (p_none) (fun _ _=>rfl))) (aA (cP (aD hnm hsc) (aR) (fun _ _ _=>rfl)) aM (by rfl)) (by rfl)))) aO) aO) (aB (aX (cT (aA (e_BinOpL (eL (aI (aD hnm hsc) (bP) (by rfl)) (iK (aA (aD hnm hsc) aM (by rfl))) (iK aM)) (aD hnm hsc)) (aA (cP (aD hnm hsc) (aR) (fun _ _ _=>rfl)) aM (by rfl)) (by rfl)))) aO))))))) W
noncomputable def nm_law_at:List Str:=["text","at","found"]
noncomputable def x_law_at (K:Frag)(Γ:CT):M Fl:=(aF (((M.ret (.const 248)).bind fun f5=>aC K Γ f5 [] ((getVar 0).bind fun v3=>((M.ret (.int 1)).bind fun v1=>(M.ret []).bind fun w2=>M.ret (v1::w2)).bind fun w4=>M.ret (v3::w4))).bind fun v6=>(aJ 2 v6).bind fun _=>M.ret Fl.next) (aF ((((getVar 1).bind fun v14=>(((M.ret (.const F.at_law_line)).bind fun f11=>aC K Γ f11 [] ((getVar 0).bind fun v9=>((getVar 1).bind fun v7=>(M.ret []).bind fun w8=>M.ret (v7::w8)).bind fun w10=>M.ret (v9::w10))).bind fun v12=>(M.ret []).bind fun w13=>M.ret (v12::w13)).bind fun w15=>M.ret (v14::w15)).bind dR).bind fun v16=>(eK 2 v16).bind fun w17=>(dA [fun u20=>(getVar 2).bind fun o21=>dN K "place" o21 u20,fun u18=>(getVar 2).bind fun o19=>dN K "line" o19 u18] w17).bind fun _=>M.ret Fl.next) (aF ((getVar 2).bind fun v22=>M.ret (.ret v22)) (M.ret Fl.next))))
theorem bx_law_at {prog:Program}{w:World}{c:Act prog w (KK w)}{Γ:CT}(hsc:c.sc=F.scope_law_at)(hnm:c.nm=nm_law_at)(hh:c.A.handled=none)(G:COK c (.ref 59) Γ)(hwp:c.wp=fun _=>True)(W:Wd):BX c (.ref 59) c.env W F.body_law_at (x_law_at (KK w) Γ):=by
 have hwv:∀ {W W':Wd},dJ W W'→c.wp W→c.wp W':=fun x h=>by rw [hwp] at h ⊢;trivial
 exact aB (aV (aS G (bN (kg_TextScanner w.params) (fun _=>.const _) (lx hsc rfl) (by decide)) (aA (aD hnm hsc) (aA (aR) aM (by rfl)) (by rfl)) (by rfl) (by rfl) (by rfl)) (lk hnm rfl) (lx hsc rfl) (by rfl)) (aB (s_AssignTup hh (fs:=[fun u20=>(getVar 2).bind fun o21=>dN (KK w) "place" o21 u20,fun u18=>(getVar 2).bind fun o19=>dN (KK w) "line" o19 u18]) (cT (aA (aD hnm hsc) (aA (aS G (bN (kg_law_line w.params) (fun _=>.const _) (lx hsc rfl) (by decide)) (aA (aD hnm hsc) (aA (aD hnm hsc) aM (by rfl)) (by rfl)) (by rfl) (by rfl) (by rfl)) aM (by rfl)) (by rfl))) (.cons (as_attr (aD hnm hsc)) (.cons (as_attr (aD hnm hsc)) (.nil))) (by rfl) (lsc (f:=swapsWithSole _ _ _) hsc (fun _ _ _ _ _=>rfl)) (lsc (f:=swappedStores _ _) hsc (fun _ _ _ _ _=>rfl))) (aB (aX (aD hnm hsc)) aO)) W
noncomputable def nm_law_texts_right:List Str:=["text","at","way","scanner","due","end_at","found"]
noncomputable def bL (K:Frag)(Γ:CT):M Fl:=(aF (((getVar 2).bind fun x67=>(M.ret (.int 0)).bind fun y68=>(aY .Eq x67 y68).bind bI).bind fun c81=>bD c81 (aF (((getVar 3).bind fun v69=>(getM K "plain_text" v69).bind fun c70=>bU K Γ c70.1 c70.2).bind fun v71=>(aJ 6 v71).bind fun _=>M.ret Fl.next) (M.ret Fl.next)) (aF (((getVar 2).bind fun x72=>(M.ret (.int 1)).bind fun y73=>(aY .Eq x72 y73).bind bI).bind fun c80=>bD c80 (aF (((getVar 3).bind fun v74=>(getM K "text_parts" v74).bind fun c75=>bU K Γ c75.1 c75.2).bind fun v76=>(aJ 6 v76).bind fun _=>M.ret Fl.next) (M.ret Fl.next)) (aF (((getVar 3).bind fun v77=>(getM K "skip_code" v77).bind fun c78=>bU K Γ c78.1 c78.2).bind fun v79=>(aJ 6 v79).bind fun _=>M.ret Fl.next) (M.ret Fl.next))) (M.ret Fl.next))) (M.ret Fl.next))
noncomputable def bX (K:Frag)(Γ:CT):M Fl:=(aF (((getVar 4).bind fun x82=>(M.ret .none).bind fun y83=>(aY .IsNot x82 y83).bind bI).bind fun c85=>bD c85 (aF ((M.ret (.bool false)).bind fun v84=>M.ret (.ret v84)) (M.ret Fl.next)) (M.ret Fl.next)) (aF (M.ret .cont) (M.ret Fl.next)))
noncomputable def bQ (K:Frag)(Γ:CT):M Fl:=(aF (((((M.ret (.const F.at_law_at)).bind fun f8=>aC K Γ f8 [] ((getVar 0).bind fun v6=>((getVar 1).bind fun v4=>(M.ret []).bind fun w5=>M.ret (v4::w5)).bind fun w7=>M.ret (v6::w7))).bind fun v11=>((M.ret .none).bind fun v9=>(M.ret []).bind fun w10=>M.ret (v9::w10)).bind fun w12=>M.ret (v11::w12)).bind dR).bind fun v13=>(eK 2 v13).bind fun w14=>(dA [aJ 4,aJ 3] w14.reverse).bind fun _=>M.ret Fl.next) (aF (((getVar 2).bind fun x15=>(M.ret (.int 0)).bind fun y16=>(aY .Eq x15 y16).bind bI).bind fun c66=>bD c66 (aF (((M.ret (.const F.at_law_single)).bind fun f21=>aC K Γ f21 [] ((getVar 0).bind fun v19=>((getVar 1).bind fun v17=>(M.ret []).bind fun w18=>M.ret (v17::w18)).bind fun w20=>M.ret (v19::w20))).bind fun v22=>(aJ 4 v22).bind fun _=>M.ret Fl.next) (M.ret Fl.next)) (aF (((getVar 2).bind fun x23=>(M.ret (.int 1)).bind fun y24=>(aY .Eq x23 y24).bind bI).bind fun c65=>bD c65 (aF (((M.ret (.const F.at_law_double)).bind fun f29=>aC K Γ f29 [] ((getVar 0).bind fun v27=>((getVar 1).bind fun v25=>(M.ret []).bind fun w26=>M.ret (v25::w26)).bind fun w28=>M.ret (v27::w28))).bind fun v30=>(aJ 4 v30).bind fun _=>M.ret Fl.next) (aF (((((getVar 4).bind fun x31=>(M.ret .none).bind fun y32=>(aY .Is x31 y32).bind bI).bind fun c38=>bD c38 (M.ret true) ((((getVar 4).bind fun o33=>(M.ret (.int 0)).bind fun i34=>cU o33 i34).bind fun x35=>((M.ret []).bind iF).bind fun y36=>(aY .NotEq x35 y36).bind bI).bind fun c37=>bD c37 (M.ret true) (M.ret false))).bind fun c47=>bD c47 (getVar 4) (((((M.ret (.str "")).bind fun v39=>(M.ret []).bind fun w40=>M.ret (v39::w40)).bind iF).bind fun v45=>(((getVar 4).bind fun o41=>(M.ret (.int 1)).bind fun i42=>cU o41 i42).bind fun v43=>(M.ret []).bind fun w44=>M.ret (v43::w44)).bind fun w46=>M.ret (v45::w46)).bind dR)).bind fun v48=>(aJ 4 v48).bind fun _=>M.ret Fl.next) (M.ret Fl.next))) (aF (((M.ret (.const F.at_law_code_end)).bind fun f55=>aC K Γ f55 [] ((getVar 0).bind fun v53=>((getVar 1).bind fun v51=>((M.ret (.int 1)).bind fun v49=>(M.ret []).bind fun w50=>M.ret (v49::w50)).bind fun w52=>M.ret (v51::w52)).bind fun w54=>M.ret (v53::w54))).bind fun v56=>(aJ 5 v56).bind fun _=>M.ret Fl.next) (aF ((((getVar 5).bind fun x57=>(M.ret .none).bind fun y58=>(aY .Is x57 y58).bind bI).bind fun c63=>bD c63 (M.ret .none) (((M.ret .none).bind fun v61=>((getVar 5).bind fun v59=>(M.ret []).bind fun w60=>M.ret (v59::w60)).bind fun w62=>M.ret (v61::w62)).bind dR)).bind fun v64=>(aJ 4 v64).bind fun _=>M.ret Fl.next) (M.ret Fl.next)))) (M.ret Fl.next))) (aF (tryM (bL K Γ) (bX K Γ)) (aF ((((getVar 4).bind fun x86=>(M.ret .none).bind fun y87=>(aY .Is x86 y87).bind bI).bind fun c113=>bD c113 (M.ret true) (((getVar 6).bind fun x90=>((getVar 4).bind fun o88=>(M.ret (.int 0)).bind fun i89=>cU o88 i89).bind fun y91=>(aY .NotEq x90 y91).bind bI).bind fun c112=>bD c112 (M.ret true) ((((((getVar 3).bind (cR K "place")).bind fun v94=>(((getVar 3).bind (cR K "line")).bind fun v92=>(M.ret []).bind fun w93=>M.ret (v92::w93)).bind fun w95=>M.ret (v94::w95)).bind dR).bind fun x109=>((((getVar 4).bind fun o96=>(M.ret (.int 1)).bind fun i97=>cU o96 i97).bind fun v107=>(((M.ret (.const F.at_law_line)).bind fun f104=>aC K Γ f104 [] ((getVar 0).bind fun v102=>(((getVar 4).bind fun o98=>(M.ret (.int 1)).bind fun i99=>cU o98 i99).bind fun v100=>(M.ret []).bind fun w101=>M.ret (v100::w101)).bind fun w103=>M.ret (v102::w103))).bind fun v105=>(M.ret []).bind fun w106=>M.ret (v105::w106)).bind fun w108=>M.ret (v107::w108)).bind dR).bind fun y110=>(aY .NotEq x109 y110).bind bI).bind fun c111=>bD c111 (M.ret true) (M.ret false)))).bind fun c115=>bD c115 (aF ((M.ret (.bool false)).bind fun v114=>M.ret (.ret v114)) (M.ret Fl.next)) (M.ret Fl.next)) (M.ret Fl.next)))))
noncomputable def dI (K:Frag)(Γ:CT):M Fl:=(aF (((M.ret (.ty "range")).bind fun f3=>aC K Γ f3 [] ((M.ret (.int 3)).bind fun v1=>(M.ret []).bind fun w2=>M.ret (v1::w2))).bind fun v116=>fun σ=>match iI σ v116 with | some items=>forM (aJ 2) (bQ K Γ) items σ | none=>none) (aF (((((getVar 0).bind fun o119=>(getVar 1).bind fun l120=>((getVar 1).bind fun x117=>(M.ret (.int 2)).bind fun y118=>bO .Add x117 y118).bind fun u121=>bM o119 l120 u121).bind fun x122=>(M.ret (.str "#{")).bind fun y123=>(aY .NotEq x122 y123).bind bI).bind fun c136=>bD c136 (M.ret true) ((((M.ret (.const F.at_law_code_end)).bind fun f132=>aC K Γ f132 [] ((getVar 0).bind fun v130=>(((getVar 1).bind fun x124=>(M.ret (.int 2)).bind fun y125=>bO .Add x124 y125).bind fun v128=>((M.ret (.int 1)).bind fun v126=>(M.ret []).bind fun w127=>M.ret (v126::w127)).bind fun w129=>M.ret (v128::w129)).bind fun w131=>M.ret (v130::w131))).bind fun x133=>(M.ret .none).bind fun y134=>(aY .Is x133 y134).bind bI).bind fun c135=>bD c135 (M.ret true) (M.ret false))).bind fun c138=>bD c138 (aF ((M.ret (.bool true)).bind fun v137=>M.ret (.ret v137)) (M.ret Fl.next)) (M.ret Fl.next)) (aF (((M.ret (.const F.at_law_at)).bind fun f143=>aC K Γ f143 [] ((getVar 0).bind fun v141=>((getVar 1).bind fun v139=>(M.ret []).bind fun w140=>M.ret (v139::w140)).bind fun w142=>M.ret (v141::w142))).bind fun v144=>(aJ 3 v144).bind fun _=>M.ret Fl.next) (aF ((((getVar 3).bind fun v145=>(getM K "code" v145).bind fun c146=>bU K Γ c146.1 c146.2).bind fun x174=>((((getVar 0).bind fun o160=>((getVar 1).bind fun x147=>(M.ret (.int 2)).bind fun y148=>bO .Add x147 y148).bind fun l161=>(((M.ret (.const F.at_law_code_end)).bind fun f157=>aC K Γ f157 [] ((getVar 0).bind fun v155=>(((getVar 1).bind fun x149=>(M.ret (.int 2)).bind fun y150=>bO .Add x149 y150).bind fun v153=>((M.ret (.int 1)).bind fun v151=>(M.ret []).bind fun w152=>M.ret (v151::w152)).bind fun w154=>M.ret (v153::w154)).bind fun w156=>M.ret (v155::w156))).bind fun x158=>(M.ret (.int 1)).bind fun y159=>bO .Sub x158 y159).bind fun u162=>bM o160 l161 u162).bind fun v172=>(((M.ret (.const F.at_law_line)).bind fun f169=>aC K Γ f169 [] ((getVar 0).bind fun v167=>(((getVar 1).bind fun x163=>(M.ret (.int 2)).bind fun y164=>bO .Add x163 y164).bind fun v165=>(M.ret []).bind fun w166=>M.ret (v165::w166)).bind fun w168=>M.ret (v167::w168))).bind fun v170=>(M.ret []).bind fun w171=>M.ret (v170::w171)).bind fun w173=>M.ret (v172::w173)).bind dR).bind fun y175=>(aY .Eq x174 y175)).bind fun v176=>M.ret (.ret v176)) (M.ret Fl.next)))))
theorem bx_law_texts_right {prog:Program}{w:World}{c:Act prog w (KK w)}{Γ:CT}(hsc:c.sc=F.scope_law_texts_right)(hnm:c.nm=nm_law_texts_right)(hh:c.A.handled=none)(G:COK c (.ref 59) Γ)(hwp:c.wp=fun _=>True)(W:Wd):BX c (.ref 59) c.env W F.body_law_texts_right (dI (KK w) Γ):=by
 have hwv:∀ {W W':Wd},dJ W W'→c.wp W→c.wp W':=fun x h=>by rw [hwp] at h ⊢;trivial
 exact aB (s_For hwv (iter_rng hh) (aS G (aU (kb_range w.params) (bb_range) (fun _=>.ty _) (by decide) (lx hsc rfl) (by decide)) (aA (aR) aM (by rfl)) (by rfl) (by rfl) (by rfl)) (iR (lk hnm rfl) (lx hsc rfl)) (aB (eZ hh (names:=["scanner","due"]) (cT (aA (aS G (bN (kg_law_at w.params) (fun _=>.const _) (lx hsc rfl) (by decide)) (aA (aD hnm hsc) (aA (aD hnm hsc) aM (by rfl)) (by rfl)) (by rfl) (by rfl) (by rfl)) (aA (dC) aM (by rfl)) (by rfl))) (.cons (eO (lk hnm rfl) (lx hsc rfl)) (.cons (eO (lk hnm rfl) (lx hsc rfl)) (.nil))) (lsc (f:=swapsWithSole _ _ _) hsc (fun _ _ _ _ _=>rfl)) (lsc (f:=swappedStores _ _) hsc (fun _ _ _ _ _=>rfl))) (aB (dO (aI (aD hnm hsc) (aR) (by rfl)) (aB (aV (aS G (bN (kg_law_single w.params) (fun _=>.const _) (lx hsc rfl) (by decide)) (aA (aD hnm hsc) (aA (aD hnm hsc) aM (by rfl)) (by rfl)) (by rfl) (by rfl) (by rfl)) (lk hnm rfl) (lx hsc rfl) (by rfl)) aO) (aB (dO (aI (aD hnm hsc) (aR) (by rfl)) (aB (aV (aS G (bN (kg_law_double w.params) (fun _=>.const _) (lx hsc rfl) (by decide)) (aA (aD hnm hsc) (aA (aD hnm hsc) aM (by rfl)) (by rfl)) (by rfl) (by rfl) (by rfl)) (lk hnm rfl) (lx hsc rfl) (by rfl)) (aB (aV (eL (t_or (aI (aD hnm hsc) (dC) (by rfl)) (t_or (aI (cP (aD hnm hsc) (aR) (fun _ _ _=>rfl)) (iK aM) (by rfl)) (t_or0))) (aD hnm hsc) (cT (aA (iK (aA (bP) aM (by rfl))) (aA (cP (aD hnm hsc) (aR) (fun _ _ _=>rfl)) aM (by rfl)) (by rfl)))) (lk hnm rfl) (lx hsc rfl) (by rfl)) aO)) (aB (aV (aS G (bN (eE w.params) (fun _=>.const _) (lx hsc rfl) (by decide)) (aA (aD hnm hsc) (aA (aD hnm hsc) (aA (aR) aM (by rfl)) (by rfl)) (by rfl)) (by rfl) (by rfl) (by rfl)) (lk hnm rfl) (lx hsc rfl) (by rfl)) (aB (aV (eL (aI (aD hnm hsc) (dC) (by rfl)) (dC) (cT (aA (dC) (aA (aD hnm hsc) aM (by rfl)) (by rfl)))) (lk hnm rfl) (lx hsc rfl) (by rfl)) aO))) aO)) (aB (s_Try (x:=⟨0,0,0,0⟩) (aB (dO (aI (aD hnm hsc) (aR) (by rfl)) (aB (aV (bH G (aD hnm hsc) (by rfl)) (lk hnm rfl) (lx hsc rfl) (by rfl)) aO) (aB (dO (aI (aD hnm hsc) (aR) (by rfl)) (aB (aV (bH G (aD hnm hsc) (by rfl)) (lk hnm rfl) (lx hsc rfl) (by rfl)) aO) (aB (aV (bH G (aD hnm hsc) (by rfl)) (lk hnm rfl) (lx hsc rfl) (by rfl)) aO)) aO)) aO) (fun _=>aB (dO (aI (aD hnm hsc) (dC) (by rfl)) (aB (aX (iJ)) aO) aO) (aB (s_Continue) aO)) (kg_BadToken w.params) (by kernel_rfl) (lx hsc rfl) (by decide)) (aB (dO (t_or (aI (aD hnm hsc) (dC) (by rfl)) (t_or (aI (aD hnm hsc) (cP (aD hnm hsc) (aR) (fun _ _ _=>rfl)) (by rfl)) (t_or (aI (cT (aA (bB (aD hnm hsc) (by rfl)) (aA (bB (aD hnm hsc) (by rfl)) aM (by rfl)) (by rfl))) (cT (aA (cP (aD hnm hsc) (aR) (fun _ _ _=>rfl)) (aA (aS G (bN (kg_law_line w.params) (fun _=>.const _) (lx hsc rfl) (by decide)) (aA (aD hnm hsc) (aA (cP (aD hnm hsc) (aR) (fun _ _ _=>rfl)) aM (by rfl)) (by rfl)) (by rfl) (by rfl) (by rfl)) aM (by rfl)) (by rfl))) (by rfl)) (t_or0)))) (aB (aX (iJ)) aO) aO) aO)))) (fun _=>rfl) (fun _ _=>rfl)) (aB (dO (t_or (aI (bY (aD hnm hsc) (bR (aD hnm hsc)) (bR (aQ (aD hnm hsc) (aR))) (fun _ _=>rfl)) (bP) (by rfl)) (t_or (aI (aS G (bN (eE w.params) (fun _=>.const _) (lx hsc rfl) (by decide)) (aA (aD hnm hsc) (aA (aQ (aD hnm hsc) (aR)) (aA (aR) aM (by rfl)) (by rfl)) (by rfl)) (by rfl) (by rfl) (by rfl)) (dC) (by rfl)) (t_or0))) (aB (aX (iJ)) aO) aO) (aB (aV (aS G (bN (kg_law_at w.params) (fun _=>.const _) (lx hsc rfl) (by decide)) (aA (aD hnm hsc) (aA (aD hnm hsc) aM (by rfl)) (by rfl)) (by rfl) (by rfl) (by rfl)) (lk hnm rfl) (lx hsc rfl) (by rfl)) (aB (aX (fJ (bH G (aD hnm hsc) (by rfl)) (cT (aA (bY (aD hnm hsc) (bR (aQ (aD hnm hsc) (aR))) (bR (aQ (aS G (bN (eE w.params) (fun _=>.const _) (lx hsc rfl) (by decide)) (aA (aD hnm hsc) (aA (aQ (aD hnm hsc) (aR)) (aA (aR) aM (by rfl)) (by rfl)) (by rfl)) (by rfl) (by rfl) (by rfl)) (aR))) (fun _ _=>rfl)) (aA (aS G (bN (kg_law_line w.params) (fun _=>.const _) (lx hsc rfl) (by decide)) (aA (aD hnm hsc) (aA (aQ (aD hnm hsc) (aR)) aM (by rfl)) (by rfl)) (by rfl) (by rfl) (by rfl)) aM (by rfl)) (by rfl))) (by rfl))) aO))) W
noncomputable def nm_law_word:List Str:=["text","at","size"]
noncomputable def gV (K:Frag)(Γ:CT):M Bool:=((((getVar 1).bind fun x2=>(getVar 2).bind fun y3=>bO .Add x2 y3).bind fun x7=>((M.ret (.bi "len")).bind fun f6=>aC K Γ f6 [] ((getVar 0).bind fun v4=>(M.ret []).bind fun w5=>M.ret (v4::w5))).bind fun y8=>(aY .Lt x7 y8).bind bI).bind fun c16=>bD c16 ((((getVar 0).bind fun o11=>((getVar 1).bind fun x9=>(getVar 2).bind fun y10=>bO .Add x9 y10).bind fun i12=>cU o11 i12).bind fun x13=>(M.ret (.str "abcdefghijklmnopqrstuvwxyzABCDEFGHIJKLMNOPQRSTUVWXYZ_0123456789")).bind fun y14=>(cmpD K .In x13 y14).bind bI).bind fun c15=>bD c15 (M.ret true) (M.ret false)) (M.ret false))
noncomputable def b2_law_word (K:Frag)(Γ:CT):M Fl:=(aF (((getVar 2).bind fun x17=>(M.ret (.int 1)).bind fun y18=>bO .Add x17 y18).bind fun v19=>(aJ 2 v19).bind fun _=>M.ret Fl.next) (M.ret Fl.next))
noncomputable def x_law_word (K:Frag)(Γ:CT):M Fl:=(aF ((M.ret (.int 0)).bind fun v1=>(aJ 2 v1).bind fun _=>M.ret Fl.next) (aF (cW 100 (gV K Γ) (b2_law_word K Γ)) (aF (((getVar 0).bind fun o22=>(getVar 1).bind fun l23=>((getVar 1).bind fun x20=>(getVar 2).bind fun y21=>bO .Add x20 y21).bind fun u24=>bM o22 l23 u24).bind fun v25=>M.ret (.ret v25)) (M.ret Fl.next))))
theorem bx_law_word {prog:Program}{w:World}{c:Act prog w (KK w)}{Γ:CT}(hsc:c.sc=F.scope_law_word)(hnm:c.nm=nm_law_word)(hh:c.A.handled=none)(G:COK c (.ref 59) Γ)(hwp:c.wp=fun _=>True)(W:Wd):BX c (.ref 59) c.env W F.body_law_word (x_law_word (KK w) Γ):=by
 have hwv:∀ {W W':Wd},dJ W W'→c.wp W→c.wp W':=fun x h=>by rw [hwp] at h ⊢;trivial
 exact aB (aV (aR) (lk hnm rfl) (lx hsc rfl) (by rfl)) (aB (s_While 100 (eP (aI (aQ (aD hnm hsc) (aD hnm hsc)) (aS G (aU (eS w.params) (eV) (fun _=>.bi _) (by decide) (lx hsc rfl) (by decide)) (aA (aD hnm hsc) aM (by rfl)) (by rfl) (by rfl) (by rfl)) (by rfl)) (eP (fQ (cP (aD hnm hsc) (aQ (aD hnm hsc) (aD hnm hsc)) (fun _ _ _=>rfl)) (bP) (by rfl)) (t_and0))) (aB (aV (aQ (aD hnm hsc) (aR)) (lk hnm rfl) (lx hsc rfl) (by rfl)) aO)) (aB (aX (bY (aD hnm hsc) (bR (aD hnm hsc)) (bR (aQ (aD hnm hsc) (aD hnm hsc))) (fun _ _=>rfl))) aO)) W
noncomputable def nm_law_worth:List Str:=["sign","spot"]
noncomputable def gT (K:Frag)(Γ:CT):M Fl:=(aF (((M.ret (.str "0123456789abcdef")).bind fun v1=>(getM K "find" v1).bind fun c2=>aC K Γ c2.1 c2.2 ((getVar 0).bind fun v3=>(M.ret []).bind fun w4=>M.ret (v3::w4))).bind fun v5=>(aJ 1 v5).bind fun _=>M.ret Fl.next) (aF (((((getVar 0).bind fun x6=>(M.ret (.str "")).bind fun y7=>(aY .NotEq x6 y7).bind bI).bind fun c11=>bD c11 (((getVar 1).bind fun x8=>(M.ret (.int 0)).bind fun y9=>(aY .GtE x8 y9).bind bI).bind fun c10=>bD c10 (M.ret true) (M.ret false)) (M.ret false)).bind fun c12=>bD c12 (getVar 1) (M.ret (.int 99))).bind fun v13=>M.ret (.ret v13)) (M.ret Fl.next)))
theorem bx_law_worth {prog:Program}{w:World}{c:Act prog w (KK w)}{Γ:CT}(hsc:c.sc=F.scope_law_worth)(hnm:c.nm=nm_law_worth)(hh:c.A.handled=none)(G:COK c (.ref 59) Γ)(hwp:c.wp=fun _=>True)(W:Wd):BX c (.ref 59) c.env W F.body_law_worth (gT (KK w) Γ):=by
 have hwv:∀ {W W':Wd},dJ W W'→c.wp W→c.wp W':=fun x h=>by rw [hwp] at h ⊢;trivial
 exact aB (aV (bT G (bP) (aA (aD hnm hsc) aM (by rfl)) (by rfl) (by rfl) (by rfl)) (lk hnm rfl) (lx hsc rfl) (by rfl)) (aB (aX (eL (eP (aI (aD hnm hsc) (bP) (by rfl)) (eP (aI (aD hnm hsc) (aR) (by rfl)) (t_and0))) (aD hnm hsc) (aR))) aO) W
noncomputable def nm_law_number:List Str:=["text","at","row_of","body","groups","value","sign"]
noncomputable def fK (K:Frag)(Γ:CT)(i:Nat):M Fl:=(aF ((((getVar 5).bind fun x94=>(cV i).bind fun y95=>bO .Mult x94 y95).bind fun x99=>((M.ret (.const F.at_law_worth)).bind fun f98=>aC K Γ f98 [] ((getVar 6).bind fun v96=>(M.ret []).bind fun w97=>M.ret (v96::w97))).bind fun y100=>bO .Add x99 y100).bind fun v101=>(aJ 5 v101).bind fun _=>M.ret Fl.next) (M.ret Fl.next))
noncomputable def eF (K:Frag)(Γ:CT)(i:Nat):M Fl:=(aF (((M.ret (.const F.at_law_word)).bind fun f5=>aC K Γ f5 [] ((getVar 0).bind fun v3=>((getVar 1).bind fun v1=>(M.ret []).bind fun w2=>M.ret (v1::w2)).bind fun w4=>M.ret (v3::w4))).bind fun v6=>(aJ 2 v6).bind fun _=>M.ret Fl.next) (aF (((M.ret (.dct [("0x",.int 16),("0b",.int 2),("0o",.int 8)])).bind fun v7=>(getM K "get" v7).bind fun c8=>aC K Γ c8.1 c8.2 (((getVar 2).bind fun o9=>(M.ret .none).bind fun l10=>(M.ret (.int 2)).bind fun u11=>bM o9 l10 u11).bind fun v14=>((M.ret (.int 10)).bind fun v12=>(M.ret []).bind fun w13=>M.ret (v12::w13)).bind fun w15=>M.ret (v14::w15))).bind fun v16=>(setCell i v16).bind fun _=>M.ret Fl.next) (aF ((((cV i).bind fun x17=>(M.ret (.int 10)).bind fun y18=>(aY .Eq x17 y18).bind bI).bind fun c22=>bD c22 (getVar 2) ((getVar 2).bind fun o19=>(M.ret (.int 2)).bind fun l20=>(M.ret .none).bind fun u21=>bM o19 l20 u21)).bind fun v23=>(aJ 3 v23).bind fun _=>M.ret Fl.next) (aF (((getVar 3).bind fun v24=>(getM K "split" v24).bind fun c25=>aC K Γ c25.1 c25.2 ((M.ret (.str "_")).bind fun v26=>(M.ret []).bind fun w27=>M.ret (v26::w27))).bind fun v28=>(aJ 4 v28).bind fun _=>M.ret Fl.next) (aF ((((M.ret (.str "")).bind fun x29=>(getVar 4).bind fun y30=>(cmpD K .In x29 y30).bind bI).bind fun c43=>bD c43 (M.ret true) (((lcM ((M.ret (.str "")).bind fun v31=>(getM K "join" v31).bind fun c32=>aC K Γ c32.1 c32.2 ((getVar 4).bind fun v33=>(M.ret []).bind fun w34=>M.ret (v33::w34))) (nxsOf itsStr) (fun v=>(((M.ret (.const F.at_law_worth)).bind fun f37=>aC K Γ f37 [] ((M.ret v).bind fun v35=>(M.ret []).bind fun w36=>M.ret (v35::w36))).bind fun x38=>(cV i).bind fun y39=>(aY .GtE x38 y39).bind bI)) (fun v=>(M.ret v))).bind fun x40=>((M.ret []).bind iF).bind fun y41=>(aY .NotEq x40 y41).bind bI).bind fun c42=>bD c42 (M.ret true) (M.ret false))).bind fun c45=>bD c45 (aF ((M.ret .none).bind fun v44=>M.ret (.ret v44)) (M.ret Fl.next)) (M.ret Fl.next)) (aF (((((getVar 0).bind fun o58=>((getVar 1).bind fun x49=>((M.ret (.bi "len")).bind fun f48=>aC K Γ f48 [] ((getVar 2).bind fun v46=>(M.ret []).bind fun w47=>M.ret (v46::w47))).bind fun y50=>bO .Add x49 y50).bind fun l59=>(((getVar 1).bind fun x54=>((M.ret (.bi "len")).bind fun f53=>aC K Γ f53 [] ((getVar 2).bind fun v51=>(M.ret []).bind fun w52=>M.ret (v51::w52))).bind fun y55=>bO .Add x54 y55).bind fun x56=>(M.ret (.int 1)).bind fun y57=>bO .Add x56 y57).bind fun u60=>bM o58 l59 u60).bind fun x61=>(M.ret (.str ".")).bind fun y62=>(aY .Eq x61 y62).bind bI).bind fun c86=>bD c86 ((((M.ret (.const F.at_law_worth)).bind fun f82=>aC K Γ f82 [] (((getVar 0).bind fun o77=>(((getVar 1).bind fun x66=>((M.ret (.bi "len")).bind fun f65=>aC K Γ f65 [] ((getVar 2).bind fun v63=>(M.ret []).bind fun w64=>M.ret (v63::w64))).bind fun y67=>bO .Add x66 y67).bind fun x68=>(M.ret (.int 1)).bind fun y69=>bO .Add x68 y69).bind fun l78=>(((getVar 1).bind fun x73=>((M.ret (.bi "len")).bind fun f72=>aC K Γ f72 [] ((getVar 2).bind fun v70=>(M.ret []).bind fun w71=>M.ret (v70::w71))).bind fun y74=>bO .Add x73 y74).bind fun x75=>(M.ret (.int 2)).bind fun y76=>bO .Add x75 y76).bind fun u79=>bM o77 l78 u79).bind fun v80=>(M.ret []).bind fun w81=>M.ret (v80::w81))).bind fun x83=>(M.ret (.int 10)).bind fun y84=>(aY .Lt x83 y84).bind bI).bind fun c85=>bD c85 (M.ret true) (M.ret false)) (M.ret false)).bind fun c88=>bD c88 (aF ((M.ret .none).bind fun v87=>M.ret (.ret v87)) (M.ret Fl.next)) (M.ret Fl.next)) (aF ((M.ret (.int 0)).bind fun v89=>(aJ 5 v89).bind fun _=>M.ret Fl.next) (aF (((M.ret (.str "")).bind fun v90=>(getM K "join" v90).bind fun c91=>aC K Γ c91.1 c91.2 ((getVar 4).bind fun v92=>(M.ret []).bind fun w93=>M.ret (v92::w93))).bind fun v102=>fun σ=>match itsStr σ v102 with | some items=>forM (aJ 6) (fK K Γ i) items σ | none=>none) (aF ((getVar 5).bind fun v103=>M.ret (.ret v103)) (M.ret Fl.next))))))))))
theorem bx_law_number {prog:Program}{w:World}{c:Act prog w (KK w)}{Γ:CT}(hsc:c.sc=F.scope_law_number)(hnm:c.nm=nm_law_number)(hh:c.A.handled=none)(G:COK c (.ref 59) Γ){i:Nat}(hcl:c.cl=[(Str.ofString "base",c.L+1)])(hwp:c.wp=fun W=>W.μ[i]? = some (c.L+1))(W:Wd):BX c (.ref 59) c.env W F.body_law_number (eF (KK w) Γ i):=by
 have hcw:∀ W,c.wp W→W.μ[i]? = some (c.L+1):=fun W h=>by rw [hwp] at h;exact h
 have hwv:∀ {W W':Wd},dJ W W'→c.wp W→c.wp W':=fun x h=>by rw [hwp] at h ⊢;exact x.ids _ _ h
 exact aB (aV (aS G (bN (kg_law_word w.params) (fun _=>.const _) (lx hsc rfl) (by decide)) (aA (aD hnm hsc) (aA (aD hnm hsc) aM (by rfl)) (by rfl)) (by rfl) (by rfl) (by rfl)) (lk hnm rfl) (lx hsc rfl) (by rfl)) (aB (s_AssignCell (bT G (e_Dict (.cons (c_str) (c_int) (.cons (c_str) (c_int) (.cons (c_str) (c_int) (CPs.nil)))) (by decide) (by rfl) (by rfl) (by simp) (by decide)) (aA (bY (aD hnm hsc) (p_none) (bR (aR)) (fun _ _=>rfl)) (aA (aR) aM (by rfl)) (by rfl)) (by rfl) (by rfl) (by rfl)) (by rw [hcl];rfl) hcw (lx hsc rfl) (by rfl)) (aB (aV (eL (aI (e_cell (by rw [hcl];rfl) hcw (by rw [hsc];rfl) (by decide)) (aR) (by rfl)) (aD hnm hsc) (bY (aD hnm hsc) (bR (aR)) (p_none) (fun _ _=>rfl))) (lk hnm rfl) (lx hsc rfl) (by rfl)) (aB (aV (bT G (aD hnm hsc) (aA (bP) aM (by rfl)) (by rfl) (by rfl) (by rfl)) (lk hnm rfl) (lx hsc rfl) (by rfl)) (aB (dO (t_or (fQ (bP) (aD hnm hsc) (by rfl)) (t_or (aI (e_ListComp hwv (src_iter (iter_str hh)) (closX hcl (fun _ _ _ _ _=>rfl)) (by decide) (by rfl) (by decide) (by rfl) (fun _=>rfl) (bT G (bP) (aA (aD hnm hsc) aM (by rfl)) (by rfl) (by rfl) (by rfl)) (fun C oC v rv m hoC hm=>k_one (aI (aS (COK.blk G) (c_glob (hR w.params) (fun _=>.const _) (by rfl) (by rfl) (by decide)) (aA (c_local hoC hm (by rfl) (by rfl) (by decide)) aM (by rfl)) (by rfl) (by rfl) (by rfl)) (c_cell (by rfl) hcw (by rfl) (by rfl) (by rw [hsc];rfl) (by decide)) (by rfl))) (fun C oC v rv m hoC hm=>c_local hoC hm (by rfl) (by rfl) (by decide))) (iK aM) (by rfl)) (t_or0))) (aB (aX (dC)) aO) aO) (aB (dO (eP (aI (bY (aD hnm hsc) (bR (aQ (aD hnm hsc) (aS G (aU (eS w.params) (eV) (fun _=>.bi _) (by decide) (lx hsc rfl) (by decide)) (aA (aD hnm hsc) aM (by rfl)) (by rfl) (by rfl) (by rfl)))) (bR (aQ (aQ (aD hnm hsc) (aS G (aU (eS w.params) (eV) (fun _=>.bi _) (by decide) (lx hsc rfl) (by decide)) (aA (aD hnm hsc) aM (by rfl)) (by rfl) (by rfl) (by rfl))) (aR))) (fun _ _=>rfl)) (bP) (by rfl)) (eP (aI (aS G (bN (hR w.params) (fun _=>.const _) (lx hsc rfl) (by decide)) (aA (bY (aD hnm hsc) (bR (aQ (aQ (aD hnm hsc) (aS G (aU (eS w.params) (eV) (fun _=>.bi _) (by decide) (lx hsc rfl) (by decide)) (aA (aD hnm hsc) aM (by rfl)) (by rfl) (by rfl) (by rfl))) (aR))) (bR (aQ (aQ (aD hnm hsc) (aS G (aU (eS w.params) (eV) (fun _=>.bi _) (by decide) (lx hsc rfl) (by decide)) (aA (aD hnm hsc) aM (by rfl)) (by rfl) (by rfl) (by rfl))) (aR))) (fun _ _=>rfl)) aM (by rfl)) (by rfl) (by rfl) (by rfl)) (aR) (by rfl)) (t_and0))) (aB (aX (dC)) aO) aO) (aB (aV (aR) (lk hnm rfl) (lx hsc rfl) (by rfl)) (aB (s_For hwv (iter_str hh) (bT G (bP) (aA (aD hnm hsc) aM (by rfl)) (by rfl) (by rfl) (by rfl)) (iR (lk hnm rfl) (lx hsc rfl)) (aB (aV (aQ (aQ (aD hnm hsc) (e_cell (by rw [hcl];rfl) hcw (by rw [hsc];rfl) (by decide))) (aS G (bN (hR w.params) (fun _=>.const _) (lx hsc rfl) (by decide)) (aA (aD hnm hsc) aM (by rfl)) (by rfl) (by rfl) (by rfl))) (lk hnm rfl) (lx hsc rfl) (by rfl)) aO) (fun _=>rfl) (fun _ _=>rfl)) (aB (aX (aD hnm hsc)) aO)))))))) W
noncomputable def nm_law_whole_right:List Str:=["text","at","lexer","due","kept"]
noncomputable def eA (K:Frag)(Γ:CT):M Fl:=(aF (((getVar 2).bind fun v20=>(getM K "whole" v20).bind fun c21=>bU K Γ c21.1 c21.2).bind fun _=>M.ret Fl.next) (M.ret Fl.next))
noncomputable def fC (K:Frag)(Γ:CT):M Fl:=(aF (((getVar 3).bind fun x22=>(M.ret .none).bind fun y23=>(aY .Is x22 y23)).bind fun v24=>M.ret (.ret v24)) (M.ret Fl.next))
noncomputable def dH (K:Frag)(Γ:CT):M Fl:=(aF (((M.ret (.const 479)).bind fun f5=>aC K Γ f5 [] ((getVar 0).bind fun v3=>((M.ret (.int 1)).bind fun v1=>(M.ret []).bind fun w2=>M.ret (v1::w2)).bind fun w4=>M.ret (v3::w4))).bind fun v6=>(aJ 2 v6).bind fun _=>M.ret Fl.next) (aF ((((getVar 1).bind fun v14=>(((M.ret (.const F.at_law_number)).bind fun f11=>aC K Γ f11 [] ((getVar 0).bind fun v9=>((getVar 1).bind fun v7=>(M.ret []).bind fun w8=>M.ret (v7::w8)).bind fun w10=>M.ret (v9::w10))).bind fun v12=>(M.ret []).bind fun w13=>M.ret (v12::w13)).bind fun w15=>M.ret (v14::w15)).bind dR).bind fun v16=>(eK 2 v16).bind fun w17=>(dA [fun u18=>(getVar 2).bind fun o19=>dN K "place" o19 u18,aJ 3] w17).bind fun _=>M.ret Fl.next) (aF (tryM (eA K Γ) (fC K Γ)) (aF (gY (lcM ((getVar 2).bind (cR K "tokens")) nxsOwn (fun v=>(M.ret true)) (fun v=>((((M.ret v).bind (cR K "kind")).bind fun v27=>(((M.ret v).bind (cR K "value")).bind fun v25=>(M.ret []).bind fun w26=>M.ret (v25::w26)).bind fun w28=>M.ret (v27::w28)).bind dR))) fun v=>(aJ 4 v).bind fun _=>M.ret Fl.next) (aF ((((getVar 4).bind fun x35=>(((((M.ret (.str "int")).bind fun v31=>((getVar 3).bind fun v29=>(M.ret []).bind fun w30=>M.ret (v29::w30)).bind fun w32=>M.ret (v31::w32)).bind dR).bind fun v33=>(M.ret []).bind fun w34=>M.ret (v33::w34)).bind iF).bind fun y36=>(aY .Eq x35 y36)).bind fun v62=>(bI v62).bind fun c63=>bD c63 ((((M.ret (.bi "isinstance")).bind fun f45=>aC K Γ f45 [] ((((getVar 4).bind fun o37=>(M.ret (.int 0)).bind fun i38=>cU o37 i38).bind fun o39=>(M.ret (.int 1)).bind fun i40=>cU o39 i40).bind fun v43=>((M.ret (.ty "bool")).bind fun v41=>(M.ret []).bind fun w42=>M.ret (v41::w42)).bind fun w44=>M.ret (v43::w44))).bind fun v46=>(bI v46).bind fun c47=>M.ret (.bool (!c47))).bind fun v60=>(bI v60).bind fun c61=>bD c61 (((getVar 2).bind (cR K "place")).bind fun x58=>((getVar 1).bind fun x56=>((M.ret (.bi "len")).bind fun f55=>aC K Γ f55 [] (((M.ret (.const F.at_law_word)).bind fun f52=>aC K Γ f52 [] ((getVar 0).bind fun v50=>((getVar 1).bind fun v48=>(M.ret []).bind fun w49=>M.ret (v48::w49)).bind fun w51=>M.ret (v50::w51))).bind fun v53=>(M.ret []).bind fun w54=>M.ret (v53::w54))).bind fun y57=>bO .Add x56 y57).bind fun y59=>(aY .Eq x58 y59)) (M.ret v60)) (M.ret v62)).bind fun v64=>M.ret (.ret v64)) (M.ret Fl.next))))))
theorem bx_law_whole_right {prog:Program}{w:World}{c:Act prog w (KK w)}{Γ:CT}(hsc:c.sc=F.scope_law_whole_right)(hnm:c.nm=nm_law_whole_right)(hh:c.A.handled=none)(G:COK c (.ref 59) Γ)(hwp:c.wp=fun _=>True)(W:Wd):BX c (.ref 59) c.env W F.body_law_whole_right (dH (KK w) Γ):=by
 have hwv:∀ {W W':Wd},dJ W W'→c.wp W→c.wp W':=fun x h=>by rw [hwp] at h ⊢;trivial
 exact aB (aV (aS G (bN (kg_Lexer w.params) (fun _=>.const _) (lx hsc rfl) (by decide)) (aA (aD hnm hsc) (aA (aR) aM (by rfl)) (by rfl)) (by rfl) (by rfl) (by rfl)) (lk hnm rfl) (lx hsc rfl) (by rfl)) (aB (s_AssignTup hh (fs:=[fun u18=>(getVar 2).bind fun o19=>dN (KK w) "place" o19 u18,aJ 3]) (cT (aA (aD hnm hsc) (aA (aS G (bN (kg_law_number w.params) (fun _=>.const _) (lx hsc rfl) (by decide)) (aA (aD hnm hsc) (aA (aD hnm hsc) aM (by rfl)) (by rfl)) (by rfl) (by rfl) (by rfl)) aM (by rfl)) (by rfl))) (.cons (as_attr (aD hnm hsc)) (.cons (iR (lk hnm rfl) (lx hsc rfl)) (.nil))) (by rfl) (lsc (f:=swapsWithSole _ _ _) hsc (fun _ _ _ _ _=>rfl)) (lsc (f:=swappedStores _ _) hsc (fun _ _ _ _ _=>rfl))) (aB (s_Try (x:=⟨0,0,0,0⟩) (aB (fM (bH G (aD hnm hsc) (by rfl)) eB (by rfl)) aO) (fun _=>aB (aX (fJ (aD hnm hsc) (dC) (by rfl))) aO) (kg_BadToken w.params) (by kernel_rfl) (lx hsc rfl) (by decide)) (aB (s_AssignListComp hwv (src_own hh) (lsc (f:=swapsWith _ _ _) hsc (fun _ _ _ _ _=>rfl)) (lk hnm rfl) (lx hsc rfl) (by rfl) (by decide) (by rfl) (by decide) (by rfl) (fun _=>rfl) (bB (aD hnm hsc) (by rfl)) (fun C oC v rv m hoC hm=>k_nil) (fun C oC v rv m hoC hm=>cT (aA (bB (c_local hoC hm (by rfl) (by rfl) (by decide)) (by rfl)) (aA (bB (c_local hoC hm (by rfl) (by rfl) (by decide)) (by rfl)) aM (by rfl)) (by rfl)))) (aB (aX (e_and (fJ (aD hnm hsc) (iK (aA (cT (aA (bP) (aA (aD hnm hsc) aM (by rfl)) (by rfl))) aM (by rfl))) (by rfl)) (e_and (e_not (aS G (aU (kb_isinstance w.params) (bb_isinstance) (fun _=>.bi _) (by decide) (lx hsc rfl) (by decide)) (aA (cP (cP (aD hnm hsc) (aR) (fun _ _ _=>rfl)) (aR) (fun _ _ _=>rfl)) (aA (aU (kb_bool w.params) (bb_bool) (fun _=>.ty _) (by decide) (lx hsc rfl) (by decide)) aM (by rfl)) (by rfl)) (by rfl) (by rfl) (by rfl))) (e_and1 (fJ (bB (aD hnm hsc) (by rfl)) (aQ (aD hnm hsc) (aS G (aU (eS w.params) (eV) (fun _=>.bi _) (by decide) (lx hsc rfl) (by decide)) (aA (aS G (bN (kg_law_word w.params) (fun _=>.const _) (lx hsc rfl) (by decide)) (aA (aD hnm hsc) (aA (aD hnm hsc) aM (by rfl)) (by rfl)) (by rfl) (by rfl) (by rfl)) aM (by rfl)) (by rfl) (by rfl) (by rfl))) (by rfl)))))) aO)))) W
noncomputable def nm_law_longest:List Str:=["text","at","known","found","one"]
noncomputable def dZ (K:Frag)(Γ:CT)(P:Params):M Fl:=(aF (((((getVar 0).bind fun o7=>(getVar 1).bind fun l8=>((getVar 1).bind fun x5=>((M.ret (.bi "len")).bind fun f4=>aC K Γ f4 [] ((getVar 4).bind fun v2=>(M.ret []).bind fun w3=>M.ret (v2::w3))).bind fun y6=>bO .Add x5 y6).bind fun u9=>bM o7 l8 u9).bind fun x10=>(getVar 4).bind fun y11=>(aY .Eq x10 y11).bind bI).bind fun c21=>bD c21 ((((M.ret (.bi "len")).bind fun f14=>aC K Γ f14 [] ((getVar 4).bind fun v12=>(M.ret []).bind fun w13=>M.ret (v12::w13))).bind fun x18=>((M.ret (.bi "len")).bind fun f17=>aC K Γ f17 [] ((getVar 3).bind fun v15=>(M.ret []).bind fun w16=>M.ret (v15::w16))).bind fun y19=>(aY .Gt x18 y19).bind bI).bind fun c20=>bD c20 (M.ret true) (M.ret false)) (M.ret false)).bind fun c23=>bD c23 (aF ((getVar 4).bind fun v22=>(aJ 3 v22).bind fun _=>M.ret Fl.next) (M.ret Fl.next)) (M.ret Fl.next)) (M.ret Fl.next))
noncomputable def x_law_longest (K:Frag)(Γ:CT)(P:Params):M Fl:=(aF ((M.ret (.str "")).bind fun v1=>(aJ 3 v1).bind fun _=>M.ret Fl.next) (aF ((getVar 2).bind fun v24=>fun σ=>match (itsTab P K) σ v24 with | some items=>forM (aJ 4) (dZ K Γ P) items σ | none=>none) (aF ((getVar 3).bind fun v25=>M.ret (.ret v25)) (M.ret Fl.next))))
theorem bx_law_longest {prog:Program}{w:World}{c:Act prog w (KK w)}{Γ:CT}(hsc:c.sc=F.scope_law_longest)(hnm:c.nm=nm_law_longest)(hh:c.A.handled=none)(G:COK c (.ref 59) Γ)(hwp:c.wp=fun _=>True)(W:Wd):BX c (.ref 59) c.env W F.body_law_longest (x_law_longest (KK w) Γ w.params):=by
 have hwv:∀ {W W':Wd},dJ W W'→c.wp W→c.wp W':=fun x h=>by rw [hwp] at h ⊢;trivial
 exact aB (aV (bP) (lk hnm rfl) (lx hsc rfl) (by rfl)) (aB (s_For hwv (iter_tab hh) (aD hnm hsc) (iR (lk hnm rfl) (lx hsc rfl)) (aB (dO (eP (aI (bY (aD hnm hsc) (bR (aD hnm hsc)) (bR (aQ (aD hnm hsc) (aS G (aU (eS w.params) (eV) (fun _=>.bi _) (by decide) (lx hsc rfl) (by decide)) (aA (aD hnm hsc) aM (by rfl)) (by rfl) (by rfl) (by rfl)))) (fun _ _=>rfl)) (aD hnm hsc) (by rfl)) (eP (aI (aS G (aU (eS w.params) (eV) (fun _=>.bi _) (by decide) (lx hsc rfl) (by decide)) (aA (aD hnm hsc) aM (by rfl)) (by rfl) (by rfl) (by rfl)) (aS G (aU (eS w.params) (eV) (fun _=>.bi _) (by decide) (lx hsc rfl) (by decide)) (aA (aD hnm hsc) aM (by rfl)) (by rfl) (by rfl) (by rfl)) (by rfl)) (t_and0))) (aB (aV (aD hnm hsc) (lk hnm rfl) (lx hsc rfl) (by rfl)) aO) aO) aO) (fun _=>rfl) (fun _ _=>rfl)) (aB (aX (aD hnm hsc)) aO)) W
noncomputable def nm_law_steps_right:List Str:=["text","at"]
noncomputable def eG (K:Frag)(Γ:CT)(i:Nat):M Fl:=(aF (((M.ret (.const 199)).bind fun f5=>aC K Γ f5 [] ((getVar 0).bind fun v3=>((M.ret (.int 5)).bind fun v1=>(M.ret []).bind fun w2=>M.ret (v1::w2)).bind fun w4=>M.ret (v3::w4))).bind fun v6=>(setCell i v6).bind fun _=>M.ret Fl.next) (aF ((getVar 1).bind fun v7=>(cV i).bind fun o8=>(dN K "place" o8 v7).bind fun _=>M.ret Fl.next) (aF (((lcM ((M.ret (.ty "range")).bind fun f11=>aC K Γ f11 [] ((M.ret (.int 3)).bind fun v9=>(M.ret []).bind fun w10=>M.ret (v9::w10))) (nxsOf iI) (fun v=>(M.ret true)) (fun v=>((cV i).bind fun v12=>(getM K "sign" v12).bind fun c13=>aC K Γ c13.1 c13.2 ((M.ret v).bind fun v14=>(M.ret []).bind fun w15=>M.ret (v14::w15))))).bind fun x41=>((((getVar 0).bind fun o18=>(getVar 1).bind fun l19=>((getVar 1).bind fun x16=>(M.ret (.int 1)).bind fun y17=>bO .Add x16 y17).bind fun u20=>bM o18 l19 u20).bind fun v39=>(((getVar 0).bind fun o25=>((getVar 1).bind fun x21=>(M.ret (.int 1)).bind fun y22=>bO .Add x21 y22).bind fun l26=>((getVar 1).bind fun x23=>(M.ret (.int 2)).bind fun y24=>bO .Add x23 y24).bind fun u27=>bM o25 l26 u27).bind fun v37=>(((getVar 0).bind fun o32=>((getVar 1).bind fun x28=>(M.ret (.int 2)).bind fun y29=>bO .Add x28 y29).bind fun l33=>((getVar 1).bind fun x30=>(M.ret (.int 3)).bind fun y31=>bO .Add x30 y31).bind fun u34=>bM o32 l33 u34).bind fun v35=>(M.ret []).bind fun w36=>M.ret (v35::w36)).bind fun w38=>M.ret (v37::w38)).bind fun w40=>M.ret (v39::w40)).bind iF).bind fun y42=>(aY .NotEq x41 y42).bind bI).bind fun c44=>bD c44 (aF ((M.ret (.bool false)).bind fun v43=>M.ret (.ret v43)) (M.ret Fl.next)) (M.ret Fl.next)) (aF ((((((cV i).bind fun v45=>(getM K "begins" v45).bind fun c46=>aC K Γ c46.1 c46.2 (((getVar 0).bind fun o49=>(getVar 1).bind fun l50=>((getVar 1).bind fun x47=>(M.ret (.int 3)).bind fun y48=>bO .Add x47 y48).bind fun u51=>bM o49 l50 u51).bind fun v52=>(M.ret []).bind fun w53=>M.ret (v52::w53))).bind bI).bind fun b54=>M.ret (!b54)).bind fun c67=>bD c67 (M.ret true) ((((cV i).bind fun v55=>(getM K "begins" v55).bind fun c56=>aC K Γ c56.1 c56.2 ((((getVar 0).bind fun o59=>(getVar 1).bind fun l60=>((getVar 1).bind fun x57=>(M.ret (.int 2)).bind fun y58=>bO .Add x57 y58).bind fun u61=>bM o59 l60 u61).bind fun x62=>(M.ret (.str "~")).bind fun y63=>bO .Add x62 y63).bind fun v64=>(M.ret []).bind fun w65=>M.ret (v64::w65))).bind bI).bind fun c66=>bD c66 (M.ret true) (M.ret false))).bind fun c69=>bD c69 (aF ((M.ret (.bool false)).bind fun v68=>M.ret (.ret v68)) (M.ret Fl.next)) (M.ret Fl.next)) (aF (((((cV i).bind fun v70=>(getM K "step" v70).bind fun c71=>bU K Γ c71.1 c71.2).bind fun x77=>((getVar 0).bind fun o74=>(getVar 1).bind fun l75=>((getVar 1).bind fun x72=>(M.ret (.int 1)).bind fun y73=>bO .Add x72 y73).bind fun u76=>bM o74 l75 u76).bind fun y78=>(aY .NotEq x77 y78).bind bI).bind fun c84=>bD c84 (M.ret true) ((((cV i).bind (cR K "place")).bind fun x81=>((getVar 1).bind fun x79=>(M.ret (.int 1)).bind fun y80=>bO .Add x79 y80).bind fun y82=>(aY .NotEq x81 y82).bind bI).bind fun c83=>bD c83 (M.ret true) (M.ret false))).bind fun c86=>bD c86 (aF ((M.ret (.bool false)).bind fun v85=>M.ret (.ret v85)) (M.ret Fl.next)) (M.ret Fl.next)) (aF ((((cV i).bind (cR K "line")).bind fun x102=>((M.ret (.int 5)).bind fun x100=>((M.ret (.ty "int")).bind fun f99=>aC K Γ f99 [] ((((getVar 0).bind fun o89=>(getVar 1).bind fun l90=>((getVar 1).bind fun x87=>(M.ret (.int 1)).bind fun y88=>bO .Add x87 y88).bind fun u91=>bM o89 l90 u91).bind fun x95=>((M.ret (.bi "chr")).bind fun f94=>aC K Γ f94 [] ((M.ret (.int 10)).bind fun v92=>(M.ret []).bind fun w93=>M.ret (v92::w93))).bind fun y96=>(aY .Eq x95 y96)).bind fun v97=>(M.ret []).bind fun w98=>M.ret (v97::w98))).bind fun y101=>bO .Add x100 y101).bind fun y103=>(aY .NotEq x102 y103).bind bI).bind fun c105=>bD c105 (aF ((M.ret (.bool false)).bind fun v104=>M.ret (.ret v104)) (M.ret Fl.next)) (M.ret Fl.next)) (aF ((getVar 1).bind fun v106=>(cV i).bind fun o107=>(dN K "place" o107 v106).bind fun _=>M.ret Fl.next) (aF (((((cV i).bind fun v108=>(getM K "name" v108).bind fun c109=>bU K Γ c109.1 c109.2).bind fun x115=>((M.ret (.const F.at_law_word)).bind fun f114=>aC K Γ f114 [] ((getVar 0).bind fun v112=>((getVar 1).bind fun v110=>(M.ret []).bind fun w111=>M.ret (v110::w111)).bind fun w113=>M.ret (v112::w113))).bind fun y116=>(aY .Eq x115 y116)).bind fun v129=>(bI v129).bind fun c130=>bD c130 (((cV i).bind (cR K "place")).bind fun x127=>((getVar 1).bind fun x125=>((M.ret (.bi "len")).bind fun f124=>aC K Γ f124 [] (((M.ret (.const F.at_law_word)).bind fun f121=>aC K Γ f121 [] ((getVar 0).bind fun v119=>((getVar 1).bind fun v117=>(M.ret []).bind fun w118=>M.ret (v117::w118)).bind fun w120=>M.ret (v119::w120))).bind fun v122=>(M.ret []).bind fun w123=>M.ret (v122::w123))).bind fun y126=>bO .Add x125 y126).bind fun y128=>(aY .Eq x127 y128)) (M.ret v129)).bind fun v131=>M.ret (.ret v131)) (M.ret Fl.next)))))))))
theorem bx_law_steps_right {prog:Program}{w:World}{c:Act prog w (KK w)}{Γ:CT}(hsc:c.sc=F.scope_law_steps_right)(hnm:c.nm=nm_law_steps_right)(hh:c.A.handled=none)(G:COK c (.ref 59) Γ){i:Nat}(hcl:c.cl=[(Str.ofString "scanner",c.L+1)])(hwp:c.wp=fun W=>W.μ[i]? = some (c.L+1))(W:Wd):BX c (.ref 59) c.env W F.body_law_steps_right (eG (KK w) Γ i):=by
 walk_at "a"
 have hcw:∀ W,c.wp W→W.μ[i]? = some (c.L+1):=fun W h=>by rw [hwp] at h;exact h
 have hwv:∀ {W W':Wd},dJ W W'→c.wp W→c.wp W':=fun x h=>by rw [hwp] at h ⊢;exact x.ids _ _ h
 exact aB (s_AssignCell (aS G (bN (kg_Scanner w.params) (fun _=>.const _) (lx hsc rfl) (by decide)) (aA (aD hnm hsc) (aA (aR) aM (by rfl)) (by rfl)) (by rfl) (by rfl) (by rfl)) (by rw [hcl];rfl) hcw (lx hsc rfl) (by rfl)) (aB (cC (aD hnm hsc) (e_cell (by rw [hcl];rfl) hcw (by rw [hsc];rfl) (by decide)) (by rfl)) (aB (dO (aI (e_ListComp hwv (src_iter (iter_rng hh)) (closX hcl (fun _ _ _ _ _=>rfl)) (by decide) (by rfl) (by decide) (by rfl) (fun _=>rfl) (aS G (aU (kb_range w.params) (bb_range) (fun _=>.ty _) (by decide) (lx hsc rfl) (by decide)) (aA (aR) aM (by rfl)) (by rfl) (by rfl) (by rfl)) (fun C oC v rv m hoC hm=>k_nil) (fun C oC v rv m hoC hm=>bT (COK.blk G) (c_cell (by rfl) hcw (by rfl) (by rfl) (by rw [hsc];rfl) (by decide)) (aA (c_local hoC hm (by rfl) (by rfl) (by decide)) aM (by rfl)) (by rfl) (by rfl) (by rfl))) (iK (aA (bY (aD hnm hsc) (bR (aD hnm hsc)) (bR (aQ (aD hnm hsc) (aR))) (fun _ _=>rfl)) (aA (bY (aD hnm hsc) (bR (aQ (aD hnm hsc) (aR))) (bR (aQ (aD hnm hsc) (aR))) (fun _ _=>rfl)) (aA (bY (aD hnm hsc) (bR (aQ (aD hnm hsc) (aR))) (bR (aQ (aD hnm hsc) (aR))) (fun _ _=>rfl)) aM (by rfl)) (by rfl)) (by rfl))) (by rfl)) (aB (aX (iJ)) aO) aO) (aB (dO (t_or (t_not (iP (bT G (e_cell (by rw [hcl];rfl) hcw (by rw [hsc];rfl) (by decide)) (aA (bY (aD hnm hsc) (bR (aD hnm hsc)) (bR (aQ (aD hnm hsc) (aR))) (fun _ _=>rfl)) aM (by rfl)) (by rfl) (by rfl) (by rfl)) (by rfl))) (t_or (iP (bT G (e_cell (by rw [hcl];rfl) hcw (by rw [hsc];rfl) (by decide)) (aA (aQ (bY (aD hnm hsc) (bR (aD hnm hsc)) (bR (aQ (aD hnm hsc) (aR))) (fun _ _=>rfl)) (bP)) aM (by rfl)) (by rfl) (by rfl) (by rfl)) (by rfl)) (t_or0))) (aB (aX (iJ)) aO) aO) (aB (dO (t_or (aI (bH G (e_cell (by rw [hcl];rfl) hcw (by rw [hsc];rfl) (by decide)) (by rfl)) (bY (aD hnm hsc) (bR (aD hnm hsc)) (bR (aQ (aD hnm hsc) (aR))) (fun _ _=>rfl)) (by rfl)) (t_or (aI (bB (e_cell (by rw [hcl];rfl) hcw (by rw [hsc];rfl) (by decide)) (by rfl)) (aQ (aD hnm hsc) (aR)) (by rfl)) (t_or0))) (aB (aX (iJ)) aO) aO) (aB (dO (aI (bB (e_cell (by rw [hcl];rfl) hcw (by rw [hsc];rfl) (by decide)) (by rfl)) (aQ (aR) (aS G (aU (kb_int w.params) (bb_int) (fun _=>.ty _) (by decide) (lx hsc rfl) (by decide)) (aA (fJ (bY (aD hnm hsc) (bR (aD hnm hsc)) (bR (aQ (aD hnm hsc) (aR))) (fun _ _=>rfl)) (aS G (aU (gH w.params) (iL) (fun _=>.bi _) (by decide) (lx hsc rfl) (by decide)) (aA (aR) aM (by rfl)) (by rfl) (by rfl) (by rfl)) (by rfl)) aM (by rfl)) (by rfl) (by rfl) (by rfl))) (by rfl)) (aB (aX (iJ)) aO) aO) (aB (cC (aD hnm hsc) (e_cell (by rw [hcl];rfl) hcw (by rw [hsc];rfl) (by decide)) (by rfl)) (aB (aX (e_and (fJ (bH G (e_cell (by rw [hcl];rfl) hcw (by rw [hsc];rfl) (by decide)) (by rfl)) (aS G (bN (kg_law_word w.params) (fun _=>.const _) (lx hsc rfl) (by decide)) (aA (aD hnm hsc) (aA (aD hnm hsc) aM (by rfl)) (by rfl)) (by rfl) (by rfl) (by rfl)) (by rfl)) (e_and1 (fJ (bB (e_cell (by rw [hcl];rfl) hcw (by rw [hsc];rfl) (by decide)) (by rfl)) (aQ (aD hnm hsc) (aS G (aU (eS w.params) (eV) (fun _=>.bi _) (by decide) (lx hsc rfl) (by decide)) (aA (aS G (bN (kg_law_word w.params) (fun _=>.const _) (lx hsc rfl) (by decide)) (aA (aD hnm hsc) (aA (aD hnm hsc) aM (by rfl)) (by rfl)) (by rfl) (by rfl) (by rfl)) aM (by rfl)) (by rfl) (by rfl) (by rfl))) (by rfl))))) aO))))))) W
 walk_at "z"
noncomputable def nm_law:List Str:=["script","text","lexer","at","sign","known"]
noncomputable def b1_law (K:Frag)(Γ:CT):M Fl:=(aF ((((getVar 2).bind fun v82=>(getM K "longest" v82).bind fun c83=>aC K Γ c83.1 c83.2 ((getVar 3).bind fun v86=>((getVar 5).bind fun v84=>(M.ret []).bind fun w85=>M.ret (v84::w85)).bind fun w87=>M.ret (v86::w87))).bind fun x95=>((M.ret (.const F.at_law_longest)).bind fun f94=>aC K Γ f94 [] ((getVar 1).bind fun v92=>((getVar 3).bind fun v90=>((getVar 5).bind fun v88=>(M.ret []).bind fun w89=>M.ret (v88::w89)).bind fun w91=>M.ret (v90::w91)).bind fun w93=>M.ret (v92::w93))).bind fun y96=>(aY .NotEq x95 y96).bind bI).bind fun c98=>bD c98 (aF ((M.ret (.bool false)).bind fun v97=>M.ret (.ret v97)) (M.ret Fl.next)) (M.ret Fl.next)) (M.ret Fl.next))
noncomputable def b2_law (K:Frag)(Γ:CT):M Fl:=(aF ((((((M.ret (.const F.at_law_texts_right)).bind fun f23=>aC K Γ f23 [] ((getVar 1).bind fun v21=>((getVar 3).bind fun v19=>(M.ret []).bind fun w20=>M.ret (v19::w20)).bind fun w22=>M.ret (v21::w22))).bind bI).bind fun b24=>M.ret (!b24)).bind fun c32=>bD c32 (M.ret true) (((((M.ret (.const F.at_law_steps_right)).bind fun f29=>aC K Γ f29 [] ((getVar 1).bind fun v27=>((getVar 3).bind fun v25=>(M.ret []).bind fun w26=>M.ret (v25::w26)).bind fun w28=>M.ret (v27::w28))).bind bI).bind fun b30=>M.ret (!b30)).bind fun c31=>bD c31 (M.ret true) (M.ret false))).bind fun c34=>bD c34 (aF ((M.ret (.bool false)).bind fun v33=>M.ret (.ret v33)) (M.ret Fl.next)) (M.ret Fl.next)) (aF (((getVar 1).bind fun o37=>(getVar 3).bind fun l38=>((getVar 3).bind fun x35=>(M.ret (.int 1)).bind fun y36=>bO .Add x35 y36).bind fun u39=>bM o37 l38 u39).bind fun v40=>(aJ 4 v40).bind fun _=>M.ret Fl.next) (aF (((((M.ret (.const F.at_digit_value)).bind fun f43=>aC K Γ f43 [] ((getVar 4).bind fun v41=>(M.ret []).bind fun w42=>M.ret (v41::w42))).bind fun x47=>((M.ret (.const F.at_law_worth)).bind fun f46=>aC K Γ f46 [] ((getVar 4).bind fun v44=>(M.ret []).bind fun w45=>M.ret (v44::w45))).bind fun y48=>(aY .NotEq x47 y48).bind bI).bind fun c60=>bD c60 (M.ret true) ((((M.ret (.const F.at_digit_value)).bind fun f53=>aC K Γ f53 [] (((getVar 4).bind fun v49=>(getM K "upper" v49).bind fun c50=>bU K Γ c50.1 c50.2).bind fun v51=>(M.ret []).bind fun w52=>M.ret (v51::w52))).bind fun x57=>((M.ret (.const F.at_law_worth)).bind fun f56=>aC K Γ f56 [] ((getVar 4).bind fun v54=>(M.ret []).bind fun w55=>M.ret (v54::w55))).bind fun y58=>(aY .NotEq x57 y58).bind bI).bind fun c59=>bD c59 (M.ret true) (M.ret false))).bind fun c62=>bD c62 (aF ((M.ret (.bool false)).bind fun v61=>M.ret (.ret v61)) (M.ret Fl.next)) (M.ret Fl.next)) (aF ((((getVar 4).bind fun x63=>(M.ret (.str "")).bind fun y64=>(aY .NotEq x63 y64).bind bI).bind fun c75=>bD c75 (((getVar 4).bind fun x65=>(M.ret (.str "0123456789")).bind fun y66=>(cmpD K .In x65 y66).bind bI).bind fun c74=>bD c74 (((((M.ret (.const F.at_law_whole_right)).bind fun f71=>aC K Γ f71 [] ((getVar 1).bind fun v69=>((getVar 3).bind fun v67=>(M.ret []).bind fun w68=>M.ret (v67::w68)).bind fun w70=>M.ret (v69::w70))).bind bI).bind fun b72=>M.ret (!b72)).bind fun c73=>bD c73 (M.ret true) (M.ret false)) (M.ret false)) (M.ret false)).bind fun c77=>bD c77 (aF ((M.ret (.bool false)).bind fun v76=>M.ret (.ret v76)) (M.ret Fl.next)) (M.ret Fl.next)) (aF ((((M.ret (.const 64)).bind fun v80=>((M.ret (.const 68)).bind fun v78=>(M.ret []).bind fun w79=>M.ret (v78::w79)).bind fun w81=>M.ret (v80::w81)).bind iF).bind fun v99=>fun σ=>match itsLst σ v99 with | some items=>forM (aJ 5) (b1_law K Γ) items σ | none=>none) (M.ret Fl.next))))))
noncomputable def x_law (K:Frag)(Γ:CT):M Fl:=(aF (((M.ret (.const F.at_law_signs)).bind fun f3=>aC K Γ f3 [] ((getVar 0).bind fun v1=>(M.ret []).bind fun w2=>M.ret (v1::w2))).bind fun v4=>(aJ 1 v4).bind fun _=>M.ret Fl.next) (aF (((M.ret (.const 479)).bind fun f9=>aC K Γ f9 [] ((getVar 1).bind fun v7=>((M.ret (.int 1)).bind fun v5=>(M.ret []).bind fun w6=>M.ret (v5::w6)).bind fun w8=>M.ret (v7::w8))).bind fun v10=>(aJ 2 v10).bind fun _=>M.ret Fl.next) (aF (((M.ret (.ty "range")).bind fun f18=>aC K Γ f18 [] ((((M.ret (.bi "len")).bind fun f13=>aC K Γ f13 [] ((getVar 1).bind fun v11=>(M.ret []).bind fun w12=>M.ret (v11::w12))).bind fun x14=>(M.ret (.int 1)).bind fun y15=>bO .Add x14 y15).bind fun v16=>(M.ret []).bind fun w17=>M.ret (v16::w17))).bind fun v100=>fun σ=>match iI σ v100 with | some items=>forM (aJ 3) (b2_law K Γ) items σ | none=>none) (aF ((M.ret (.bool true)).bind fun v101=>M.ret (.ret v101)) (M.ret Fl.next)))))
theorem bx_law {prog:Program}{w:World}{c:Act prog w (KK w)}{Γ:CT}(hsc:c.sc=F.scope_law)(hnm:c.nm=nm_law)(hh:c.A.handled=none)(G:COK c (.ref 59) Γ)(hwp:c.wp=fun _=>True)(W:Wd):BX c (.ref 59) c.env W F.body_law (x_law (KK w) Γ):=by
 walk_at "a"
 have hwv:∀ {W W':Wd},dJ W W'→c.wp W→c.wp W':=fun x h=>by rw [hwp] at h ⊢;trivial
 exact aB (aV (aS G (bN (kg_law_signs w.params) (fun _=>.const _) (lx hsc rfl) (by decide)) (aA (aD hnm hsc) aM (by rfl)) (by rfl) (by rfl) (by rfl)) (lk hnm rfl) (lx hsc rfl) (by rfl)) (aB (aV (aS G (bN (kg_Lexer w.params) (fun _=>.const _) (lx hsc rfl) (by decide)) (aA (aD hnm hsc) (aA (aR) aM (by rfl)) (by rfl)) (by rfl) (by rfl) (by rfl)) (lk hnm rfl) (lx hsc rfl) (by rfl)) (aB (s_For hwv (iter_rng hh) (aS G (aU (kb_range w.params) (bb_range) (fun _=>.ty _) (by decide) (lx hsc rfl) (by decide)) (aA (aQ (aS G (aU (eS w.params) (eV) (fun _=>.bi _) (by decide) (lx hsc rfl) (by decide)) (aA (aD hnm hsc) aM (by rfl)) (by rfl) (by rfl) (by rfl)) (aR)) aM (by rfl)) (by rfl) (by rfl) (by rfl)) (iR (lk hnm rfl) (lx hsc rfl)) (aB (dO (t_or (t_not (iP (aS G (bN (kg_law_texts_right w.params) (fun _=>.const _) (lx hsc rfl) (by decide)) (aA (aD hnm hsc) (aA (aD hnm hsc) aM (by rfl)) (by rfl)) (by rfl) (by rfl) (by rfl)) (by rfl))) (t_or (t_not (iP (aS G (bN (kg_law_steps_right w.params) (fun _=>.const _) (lx hsc rfl) (by decide)) (aA (aD hnm hsc) (aA (aD hnm hsc) aM (by rfl)) (by rfl)) (by rfl) (by rfl) (by rfl)) (by rfl))) (t_or0))) (aB (aX (iJ)) aO) aO) (aB (aV (bY (aD hnm hsc) (bR (aD hnm hsc)) (bR (aQ (aD hnm hsc) (aR))) (fun _ _=>rfl)) (lk hnm rfl) (lx hsc rfl) (by rfl)) (aB (dO (t_or (aI (aS G (bN (fU w.params) (fun _=>.const _) (lx hsc rfl) (by decide)) (aA (aD hnm hsc) aM (by rfl)) (by rfl) (by rfl) (by rfl)) (aS G (bN (hR w.params) (fun _=>.const _) (lx hsc rfl) (by decide)) (aA (aD hnm hsc) aM (by rfl)) (by rfl) (by rfl) (by rfl)) (by rfl)) (t_or (aI (aS G (bN (fU w.params) (fun _=>.const _) (lx hsc rfl) (by decide)) (aA (bH G (aD hnm hsc) (by rfl)) aM (by rfl)) (by rfl) (by rfl) (by rfl)) (aS G (bN (hR w.params) (fun _=>.const _) (lx hsc rfl) (by decide)) (aA (aD hnm hsc) aM (by rfl)) (by rfl) (by rfl) (by rfl)) (by rfl)) (t_or0))) (aB (aX (iJ)) aO) aO) (aB (dO (eP (aI (aD hnm hsc) (bP) (by rfl)) (eP (fQ (aD hnm hsc) (bP) (by rfl)) (eP (t_not (iP (aS G (bN (kg_law_whole_right w.params) (fun _=>.const _) (lx hsc rfl) (by decide)) (aA (aD hnm hsc) (aA (aD hnm hsc) aM (by rfl)) (by rfl)) (by rfl) (by rfl) (by rfl)) (by rfl))) (t_and0)))) (aB (aX (iJ)) aO) aO) (aB (s_For hwv (iter_lst hh) (iK (aA (bN (kg_OPERATORS w.params) (fun _=>.const _) (lx hsc rfl) (by decide)) (aA (bN (kg_METHOD_OPERATORS w.params) (fun _=>.const _) (lx hsc rfl) (by decide)) aM (by rfl)) (by rfl))) (iR (lk hnm rfl) (lx hsc rfl)) (aB (dO (aI (bT G (aD hnm hsc) (aA (aD hnm hsc) (aA (aD hnm hsc) aM (by rfl)) (by rfl)) (by rfl) (by rfl) (by rfl)) (aS G (bN (kg_law_longest w.params) (fun _=>.const _) (lx hsc rfl) (by decide)) (aA (aD hnm hsc) (aA (aD hnm hsc) (aA (aD hnm hsc) aM (by rfl)) (by rfl)) (by rfl)) (by rfl) (by rfl) (by rfl)) (by rfl)) (aB (aX (iJ)) aO) aO) aO) (fun _=>rfl) (fun _ _=>rfl)) aO))))) (fun _=>rfl) (fun _ _=>rfl)) (aB (aX (iJ)) aO))) W
 walk_at "z"
end Mine
end
section
open Builtin Builtin.Str
namespace Mine
noncomputable abbrev S (l:List Nat):Str:=⟨l.toArray⟩
theorem cD (l:List Nat):(S l).length=l.length:=by simp [Str.length]
theorem S_inj {l m:List Nat}(h:S l=S m):l=m:=by
 have:l.toArray=m.toArray:=Str.mk.inj h
 simpa using this
theorem S_beq (l m:List Nat):(S l==S m)=(l==m):=by
 walk_at "a"
 by_cases h:l=m
 ·subst h;rw [beq_self_eq_true,beq_self_eq_true]
 ·have:¬ S l=S m:=fun e=>h (S_inj e)
  rw [beq_eq_false_iff_ne.mpr this,beq_eq_false_iff_ne.mpr h]
 walk_at "z"
theorem S_app (l m:List Nat):S l++S m=S (l++m):=by
 show (⟨l.toArray++m.toArray⟩:Str)=_
 simp
theorem pick_range (l:List Nat)(i:Nat):∀ m,i+m≤l.length→((List.range m).map fun (k:Nat)=>((i:Int)+1*(k:Int)).toNat).filterMap (l.toArray[·]?)=(l.drop i).take m
 | 0,_=>by simp
 | m+1,h=>by
  walk_at "a"
  have ih:=pick_range l i m (by lia)
  rw [List.range_succ,List.map_append,List.filterMap_append,ih,List.take_add_one]
  congr 1
  have e:((i:Int)+1*(m:Int)).toNat=i+m:=by lia
  have h1:i+m<l.length:=by lia
  rw [List.map_cons,List.map_nil,e]
  simp [List.getElem?_drop,List.getElem?_eq_getElem h1]
  walk_at "z"
theorem idx_nat (n:Nat)(i j:Nat)(hi:i≤n)(hj:j≤n):sliceRange (i:Int) (j:Int) 1=(List.range (j-i)).map fun (k:Nat)=>((i:Int)+1*(k:Int)).toNat:=by
 walk_at "a"
 unfold sliceRange
 simp only [show (1:Int)>0 by decide,if_true,Int.ediv_one]
 split
 ·have:((j:Int)-i+1-1).toNat=j-i:=by lia
  rw [this]
 ·have:j-i=0:=by lia
  rw [this];rfl
 walk_at "z"
theorem slice_of {l:List Nat}{lo hi:Option Int}{i j:Nat}(h:strSliceIndices lo hi 1 l.length=sliceRange (i:Int) (j:Int) 1)(hi':i≤l.length)(hj:j≤l.length):Txt.slice (S l) lo hi=S ((l.drop i).take (j-i)):=by
 walk_at "a"
 unfold Txt.slice
 have hl:(S l).length=l.length:=cD l
 rw [hl,h,idx_nat l.length i j hi' hj]
 split
 ·rename_i q
  simp only [List.length_map,List.length_range,Bool.and_eq_true,beq_iff_eq] at q
  have h1:j-i=l.length:=q.2
  have hi0:i=0:=by lia
  subst hi0
  simp only [List.drop_zero,h1,List.take_length]
 ·by_cases hij:i≤j
  ·rw [pick_range l i (j-i) (by lia)]
  ·have:j-i=0:=by lia
   rw [this];simp
 walk_at "z"
theorem slice_nat (l:List Nat)(a b:Nat):Txt.slice (S l) (some a) (some b)=S ((l.take b).drop a):=by
 walk_at "a"
 rw [slice_of (i:=min a l.length) (j:=min b l.length)]
 ·congr 1
  rw [List.drop_take]
  by_cases h:a≤l.length
  ·rw [Nat.min_eq_left h]
   by_cases h2:b≤l.length
   ·rw [Nat.min_eq_left h2]
   ·rw [Nat.min_eq_right (by lia),List.take_of_length_le (by simp),List.take_of_length_le (by simp;lia)]
  ·rw [show min a l.length=l.length from Nat.min_eq_right (by lia),List.drop_length,List.drop_of_length_le (by lia)];simp
 ·unfold strSliceIndices
  simp only [show (1:Int)>0 by decide,if_true]
  congr 1<;>(have h1:¬ ((a:Int)<0):=by lia)<;>(have h2:¬ ((b:Int)<0):=by lia)<;>simp only [h1,h2,if_false]<;>lia
 ·exact Nat.min_le_right _ _
 ·exact Nat.min_le_right _ _
 walk_at "z"
theorem slice_to (l:List Nat)(b:Nat):Txt.slice (S l) none (some b)=S (l.take b):=by
 rw [slice_of (i:=0) (j:=min b l.length)]
 ·simp
 ·unfold strSliceIndices
  simp only [show (1:Int)>0 by decide,if_true]
  have h2:¬ ((b:Int)<0):=by lia
  congr 1;simp only [h2,if_false];lia
 ·exact Nat.zero_le _
 ·exact Nat.min_le_right _ _
theorem slice_from (l:List Nat)(a:Nat):Txt.slice (S l) (some a) none=S (l.drop a):=by
 walk_at "a"
 rw [slice_of (i:=min a l.length) (j:=l.length)]
 ·congr 1
  by_cases h:a≤l.length
  ·rw [Nat.min_eq_left h,List.take_of_length_le (by simp)]
  ·rw [Nat.min_eq_right (by lia),List.drop_of_length_le (by lia),List.drop_of_length_le (by lia)];simp
 ·unfold strSliceIndices
  simp only [show (1:Int)>0 by decide,if_true]
  have h2:¬ ((a:Int)<0):=by lia
  congr 1;simp only [h2,if_false];lia
 ·exact Nat.min_le_right _ _
 ·exact Nat.le_refl _
 walk_at "z"
noncomputable def cB (l:List Nat)(a ln:Nat)(rest:List (Str×V)):List (Str×V):=(Str.ofString "source",.str (S l))::(Str.ofString "place",.int a)::(Str.ofString "line",.int ln)::rest
noncomputable abbrev aP (C:Addr)(l:List Nat)(a ln:Nat)(rest:List (Str×V)):aE:=.inst C (cB l a ln rest)
noncomputable abbrev okC (C:Addr):Prop:=C=199∨C=248∨C=479
theorem g_source {C:Addr}(h:okC C)(P:Params):okGet (F.K P) C (Str.ofString "source")=true:=by
 walk_at "a"
 rcases h with rfl | rfl | rfl<;>kernel_rfl
 walk_at "z"
theorem g_place {C:Addr}(h:okC C)(P:Params):okGet (F.K P) C (Str.ofString "place")=true:=by
 walk_at "a"
 rcases h with rfl | rfl | rfl<;>kernel_rfl
 walk_at "z"
theorem g_line {C:Addr}(h:okC C)(P:Params):okGet (F.K P) C (Str.ofString "line")=true:=by
 walk_at "a"
 rcases h with rfl | rfl | rfl<;>kernel_rfl
 walk_at "z"
theorem p_place {C:Addr}(h:okC C)(P:Params):gQ (F.K P) C (Str.ofString "place")=true:=by
 walk_at "a"
 rcases h with rfl | rfl | rfl<;>kernel_rfl
 walk_at "z"
theorem p_line {C:Addr}(h:okC C)(P:Params):gQ (F.K P) C (Str.ofString "line")=true:=by
 walk_at "a"
 rcases h with rfl | rfl | rfl<;>kernel_rfl
 walk_at "z"
section
variable {P:Params}{C:Addr}{l:List Nat}{a ln:Nat}{rest:List (Str×V)}{H:List aE}{ρ:List (Option V)}{i:Nat}
theorem get_source (hC:okC C)(hH:H[i]? = some (aP C l a ln rest)):cR (F.K P) (Str.ofString "source") (.obj i) ⟨ρ,H⟩=some (some (.str (S l)),⟨ρ,H⟩):=by
 have e:(cB l a ln rest).lookup (Str.ofString "source")=some (.str (S l)):=rfl
 exact getA_own hH (g_source hC P) e rfl
theorem bZ (hC:okC C)(hH:H[i]? = some (aP C l a ln rest)):cR (F.K P) (Str.ofString "place") (.obj i) ⟨ρ,H⟩=some (some (.int a),⟨ρ,H⟩):=by
 have e:(cB l a ln rest).lookup (Str.ofString "place")=some (.int a):=rfl
 exact getA_own hH (g_place hC P) e rfl
theorem get_line (hC:okC C)(hH:H[i]? = some (aP C l a ln rest)):cR (F.K P) (Str.ofString "line") (.obj i) ⟨ρ,H⟩=some (some (.int ln),⟨ρ,H⟩):=by
 have e:(cB l a ln rest).lookup (Str.ofString "line")=some (.int ln):=rfl
 exact getA_own hH (g_line hC P) e rfl
theorem fV (hC:okC C)(hr:rest.length≤100)(hH:H[i]? = some (aP C l a ln rest))(b:Nat):dN (F.K P) (Str.ofString "place") (.obj i) (.int b) ⟨ρ,H⟩=some (some (),⟨ρ,H.set i (aP C l b ln rest)⟩):=by
 walk_at "a"
 have e:putAs (Str.ofString "place") (.int b) (cB l a ln rest)=cB l b ln rest:=rfl
 have e2:(cB l b ln rest).length≤900:=by simp [cB];lia
 have:=setA_own (σ:=⟨ρ,H⟩) (v:=.int b) hH (p_place hC P) (by rw [e];exact e2)
 rw [e] at this
 exact this
 walk_at "z"
theorem set_line (hC:okC C)(hr:rest.length≤100)(hH:H[i]? = some (aP C l a ln rest))(b:Nat):dN (F.K P) (Str.ofString "line") (.obj i) (.int b) ⟨ρ,H⟩=some (some (),⟨ρ,H.set i (aP C l a b rest)⟩):=by
 walk_at "a"
 have e:putAs (Str.ofString "line") (.int b) (cB l a ln rest)=cB l a b rest:=rfl
 have e2:(cB l a b rest).length≤900:=by simp [cB];lia
 have:=setA_own (σ:=⟨ρ,H⟩) (v:=.int b) hH (p_line hC P) (by rw [e];exact e2)
 rw [e] at this
 exact this
 walk_at "z"
end
end Mine
end
section
namespace Mine
section
theorem a1_eq {vs:List V}{x:V}(e:a1 vs=some x):vs=[x]:=by
 walk_at "a"
 cases vs with
 | nil=>cases e
 | cons y r=>cases r with
  | nil=>cases e;rfl
  | cons=>cases e
 walk_at "z"
theorem a2_eq {vs:List V}{x:V×V}(e:a2 vs=some x):vs=[x.1,x.2]:=by
 walk_at "a"
 cases vs with
 | nil=>cases e
 | cons y r=>obtain ⟨z,h,e⟩:=Option.bind_eq_some_iff.mp e;cases e;rw [a1_eq h]
 walk_at "z"
theorem a3_eq {vs:List V}{x:V×V×V}(e:a3 vs=some x):vs=[x.1,x.2.1,x.2.2]:=by
 walk_at "a"
 cases vs with
 | nil=>cases e
 | cons y r=>obtain ⟨z,h,e⟩:=Option.bind_eq_some_iff.mp e;cases e;rw [a2_eq h]
 walk_at "z"
noncomputable abbrev PC:=List V→List aE→Option (Option V×List aE)
variable {vs:List V}{H:List aE}{r:Option V×List aE}{G:Prop}
noncomputable def pN (f:List aE→Option (Option V×List aE)):PC:=fun vs H=>match vs with | []=>f H | _::_=>none
theorem pN_e {f:List aE→Option (Option V×List aE)}(h:pN f vs H=some r)(k:vs=[]→f H=some r→G):G:=by
 walk_at "a"
 cases vs with
 | nil=>exact k rfl h
 | cons=>cases h
 walk_at "z"
noncomputable def pS (f:Str→List aE→Option (Option V×List aE)):PC:=fun vs H=>on1 (a1 vs) (fun p=>on1 p.eX (fun s=>f s H) none) none
theorem pS_e {f:Str→List aE→Option (Option V×List aE)}(h:pS f vs H=some r)(k:∀ s,vs=[.str s]→f s H=some r→G):G:=by
 walk_at "a"
 exact 
  cK (fun p hp h=>cK (fun s hs h=>k s (by rw [a1_eq hp,V.str?_eq hs]) h) h) h
 walk_at "z"
noncomputable def pI (f:Int→List aE→Option (Option V×List aE)):PC:=fun vs H=>on1 (a1 vs) (fun p=>on1 p.int? (fun s=>f s H) none) none
theorem pI_e {f:Int→List aE→Option (Option V×List aE)}(h:pI f vs H=some r)(k:∀ s,vs=[.int s]→f s H=some r→G):G:=by
 walk_at "a"
 exact 
  cK (fun p hp h=>cK (fun s hs h=>k s (by rw [a1_eq hp,V.int?_eq hs]) h) h) h
 walk_at "z"
noncomputable def pC (f:Addr→List aE→Option (Option V×List aE)):PC:=fun vs H=>on1 (a1 vs) (fun p=>on1 p.const? (fun s=>f s H) none) none
theorem pC_e {f:Addr→List aE→Option (Option V×List aE)}(h:pC f vs H=some r)(k:∀ s,vs=[.const s]→f s H=some r→G):G:=by
 walk_at "a"
 exact 
  cK (fun p hp h=>cK (fun s hs h=>k s (by rw [a1_eq hp,V.const?_eq hs]) h) h) h
 walk_at "z"
noncomputable def pSI (f:Str→Int→List aE→Option (Option V×List aE)):PC:=fun vs H=>on1 (a2 vs) (fun p=>on2 p.1.eX p.2.int? (fun s i=>f s i H) none) none
theorem pSI_e {f:Str→Int→List aE→Option (Option V×List aE)}(h:pSI f vs H=some r)(k:∀ s i,vs=[.str s,.int i]→f s i H=some r→G):G:=by
 walk_at "a"
 exact 
  cK (fun p hp h=>on2_n (fun s i hs hi h=>k s i (by rw [a2_eq hp,V.str?_eq hs,V.int?_eq hi]) h) h) h
 walk_at "z"
noncomputable def pSII (f:Str→Int→Int→List aE→Option (Option V×List aE)):PC:=fun vs H=>on1 (a3 vs) (fun p=>on2 p.1.eX p.2.1.int? (fun s i=>on1 p.2.2.int? (fun j=>f s i j H) none) none) none
theorem pSII_e {f:Str→Int→Int→List aE→Option (Option V×List aE)}(h:pSII f vs H=some r)(k:∀ s i j,vs=[.str s,.int i,.int j]→f s i j H=some r→G):G:=by
 walk_at "a"
 exact 
  cK (fun p hp h=>on2_n (fun s i hs hi h=>cK (fun j hj h=>k s i j (by rw [a3_eq hp,V.str?_eq hs,V.int?_eq hi,V.int?_eq hj]) h) h) h) h
 walk_at "z"
noncomputable def pSIC (f:Str→Int→Addr→List aE→Option (Option V×List aE)):PC:=fun vs H=>on1 (a3 vs) (fun p=>on2 p.1.eX p.2.1.int? (fun s i=>on1 p.2.2.const? (fun j=>f s i j H) none) none) none
theorem pSIC_e {f:Str→Int→Addr→List aE→Option (Option V×List aE)}(h:pSIC f vs H=some r)(k:∀ s i j,vs=[.str s,.int i,.const j]→f s i j H=some r→G):G:=by
 walk_at "a"
 exact 
  cK (fun p hp h=>on2_n (fun s i hs hi h=>cK (fun j hj h=>k s i j (by rw [a3_eq hp,V.str?_eq hs,V.int?_eq hi,V.const?_eq hj]) h) h) h) h
 walk_at "z"
noncomputable def pIC (f:Int→Addr→List aE→Option (Option V×List aE)):PC:=fun vs H=>on1 (a2 vs) (fun p=>on2 p.1.int? p.2.const? (fun s i=>f s i H) none) none
theorem pIC_e {f:Int→Addr→List aE→Option (Option V×List aE)}(h:pIC f vs H=some r)(k:∀ s i,vs=[.int s,.const i]→f s i H=some r→G):G:=by
 walk_at "a"
 exact 
  cK (fun p hp h=>on2_n (fun s i hs hi h=>k s i (by rw [a2_eq hp,V.int?_eq hs,V.const?_eq hi]) h) h) h
 walk_at "z"
noncomputable def pO (f:Nat→PC):PC:=fun vs H=>match vs with | []=>none | v::vs=>on1 v.obj? (fun i=>f i vs H) none
theorem pO_e {f:Nat→PC}(h:pO f vs H=some r)(k:∀ i us,vs=.obj i::us→f i us H=some r→G):G:=by
 walk_at "a"
 cases vs with
 | nil=>cases h
 | cons v vs=>exact cK (fun i hi h=>k i vs (by rw [V.obj?_eq hi]) h) h
 walk_at "z"
noncomputable def pSx (f:Str→PC):PC:=fun vs H=>match vs with | []=>none | v::vs=>on1 v.eX (fun i=>f i vs H) none
theorem pSx_e {f:Str→PC}(h:pSx f vs H=some r)(k:∀ i us,vs=.str i::us→f i us H=some r→G):G:=by
 walk_at "a"
 cases vs with
 | nil=>cases h
 | cons v vs=>exact cK (fun i hi h=>k i vs (by rw [V.str?_eq hi]) h) h
 walk_at "z"
noncomputable def pIx (f:Int→PC):PC:=fun vs H=>match vs with | []=>none | v::vs=>on1 v.int? (fun i=>f i vs H) none
theorem pIx_e {f:Int→PC}(h:pIx f vs H=some r)(k:∀ i us,vs=.int i::us→f i us H=some r→G):G:=by
 walk_at "a"
 cases vs with
 | nil=>cases h
 | cons v vs=>exact cK (fun i hi h=>k i vs (by rw [V.int?_eq hi]) h) h
 walk_at "z"
noncomputable def pBx (f:Bool→PC):PC:=fun vs H=>match vs with | []=>none | v::vs=>on1 v.bool? (fun i=>f i vs H) none
theorem pBx_e {f:Bool→PC}(h:pBx f vs H=some r)(k:∀ i us,vs=.bool i::us→f i us H=some r→G):G:=by
 walk_at "a"
 cases vs with
 | nil=>cases h
 | cons v vs=>exact cK (fun i hi h=>k i vs (by rw [V.bool?_eq hi]) h) h
 walk_at "z"
noncomputable def isNil (H:List aE)(j:Nat):Bool:=match (H[j]?).bind aE.list? with | some l=>l.isEmpty | none=>false
theorem isNil_eq {j:Nat}(h:isNil H j=true):H[j]? = some (.list []):=by
 walk_at "a"
 unfold isNil at h
 cases q:(H[j]?).bind aE.list? with
 | none=>rw [q] at h;cases h
 | some l =>
  rw [q] at h
  obtain ⟨o,h1,h2⟩:=Option.bind_eq_some_iff.mp q
  rw [h1,aE.list?_eq h2,List.isEmpty_iff.mp h]
 walk_at "z"
theorem isNil_of {j:Nat}(h:H[j]? = some (.list [])):isNil H j=true:=by
 walk_at "a"
 unfold isNil;rw [h];rfl
 walk_at "z"
theorem fL {α:Type}{c:Prop} [Decidable c] {x:Option α}{r:α}{G:Prop}(h:(if c then x else none)=some r)(k:c→x=some r→G):G:=by
 walk_at "a"
 by_cases q:c
 ·rw [if_pos q] at h
  exact k q h
 ·rw [if_neg q] at h
  cases h
 walk_at "z"
end
noncomputable abbrev ov (f:Addr)(p:List V→List aE→Option (Option V×List aE))(Γ:CT):CT:=fun f' vs H=>if f'=f then p vs H else Γ f' vs H
noncomputable def bvN (k:Nat)(vs:List V):Option (List V):=if vs.length=k then some vs else none
theorem len0 {α:Type}{p:List α→Prop}(k:p []):∀ {l:List α},l.length=0→p l
 | [],_=>k
theorem lenS {α:Type}{n:Nat}{p:List α→Prop}(k:∀ a {l:List α},l.length=n→p (a::l)):∀ {l:List α},l.length=n+1→p l
 | a::_,h=>k a (Nat.succ.inj h)
theorem len1 {α:Type}{p:List α→Prop}(k:∀ a,p [a]){l:List α}(h:l.length=1):p l:=lenS (fun a _ h=>len0 (p:=fun l=>p (a::l)) (k a) h) h
theorem len2 {α:Type}{p:List α→Prop}(k:∀ a b,p [a,b]){l:List α}(h:l.length=2):p l:=lenS (fun a _ h=>len1 (p:=fun l=>p (a::l)) (k a) h) h
theorem len3 {α:Type}{p:List α→Prop}(k:∀ a b c,p [a,b,c]){l:List α}(h:l.length=3):p l:=lenS (fun a _ h=>len2 (p:=fun l=>p (a::l)) (k a) h) h
theorem len6 {α:Type}{p:List α→Prop}(k:∀ a b c d e f,p [a,b,c,d,e,f]){l:List α}(h:l.length=6):p l:=lenS (fun a _ h=>lenS (p:=fun l=>p (a::l)) (fun b _ h=>lenS (p:=fun l=>p (a::b::l)) (fun c _ h=>len3 (p:=fun l=>p (a::b::c::l)) (k a b c) h) h) h) h
theorem bn0 {fd:FuncData}{pn:List Str}(k:bindArgs fd ⟨[],[]⟩=pure (pn.zip [])):∀ rs:List Value,rs.length=0→bindArgs fd ⟨rs,[]⟩=pure (pn.zip rs):=fun rs h=>len0 (p:=fun rs=>bindArgs fd ⟨rs,[]⟩=pure (pn.zip rs)) k h
theorem bn1 {fd:FuncData}{pn:List Str}(k:∀ a:Value,bindArgs fd ⟨[a],[]⟩=pure (pn.zip [a])):∀ rs:List Value,rs.length=1→bindArgs fd ⟨rs,[]⟩=pure (pn.zip rs):=fun rs h=>len1 (p:=fun rs=>bindArgs fd ⟨rs,[]⟩=pure (pn.zip rs)) k h
theorem bn2 {fd:FuncData}{pn:List Str}(k:∀ a b:Value,bindArgs fd ⟨[a,b],[]⟩=pure (pn.zip [a,b])):∀ rs:List Value,rs.length=2→bindArgs fd ⟨rs,[]⟩=pure (pn.zip rs):=fun rs h=>len2 (p:=fun rs=>bindArgs fd ⟨rs,[]⟩=pure (pn.zip rs)) k h
theorem bn3 {fd:FuncData}{pn:List Str}(k:∀ a b c:Value,bindArgs fd ⟨[a,b,c],[]⟩=pure (pn.zip [a,b,c])):∀ rs:List Value,rs.length=3→bindArgs fd ⟨rs,[]⟩=pure (pn.zip rs):=fun rs h=>len3 (p:=fun rs=>bindArgs fd ⟨rs,[]⟩=pure (pn.zip rs)) k h
theorem bn6 {fd:FuncData}{pn:List Str}(k:∀ a b c d e f:Value,bindArgs fd ⟨[a,b,c,d,e,f],[]⟩=pure (pn.zip [a,b,c,d,e,f])):∀ rs:List Value,rs.length=6→bindArgs fd ⟨rs,[]⟩=pure (pn.zip rs):=fun rs h=>len6 (p:=fun rs=>bindArgs fd ⟨rs,[]⟩=pure (pn.zip rs)) k h
theorem bC {P:Params}{K:Frag}{f:Addr}{pn:List Str}{fd₀:FuncData}{oc:Value}{od:Option Addr}{osl:Array (Option Value)}(hl:K.lookup f=some ⟨oc,od,.func fd₀,osl⟩)
  (hb:∀ rs:List Value,rs.length=pn.length→bindArgs fd₀ ⟨rs,[]⟩=pure (pn.zip rs)):Binds P K f pn (bvN pn.length):=by
 walk_at "a"
 intro fd oc' od' osl' h s W vs bs rs _ hv e
 rw [hl] at h
 cases h
 unfold bvN at e
 split at e
 ·rename_i hlen
  cases e
  have hr:rs.length=pn.length:=by rw [← VRs.length hv];exact hlen
  refine ⟨pn.zip rs,BindsTo.of_eq (hb rs hr),?_,?_⟩
  ·rw [List.map_fst_zip];lia
  ·rw [List.map_snd_zip]
   ·exact hv
   ·lia
 ·cases e
 walk_at "z"
theorem D_Token___init__ (P:Params):dG (F.K P) F.at_Token___init__ "Token.__init__" F.params_Token___init__ F.body_Token___init__ F.scope_Token___init__:=by
 walk_at "a"
 exact ⟨⟨_,_,_,_,_,_,_,_,_,_,_,rfl,by kernel_rfl⟩,by kernel_rfl,by rfl,by rfl,by rfl⟩
 walk_at "z"
theorem b_Token___init__ (P:Params):Binds P (F.K P) F.at_Token___init__ ["self","kind","value","line","spaced","place"] (bvN 6):=bC (pn:=["self","kind","value","line","spaced","place"]) rfl (bn6 fun r0 r1 r2 r3 r4 r5=>by kernel_rfl)
theorem ok_Token___init__ {prog:Program}{w:World}{sl:Addr}{sn:List Int}{Γ:CT}{n:Nat}(G:GOK prog w (KK w) (.ref 59) sl sn Γ n){p:List V→List aE→Option (Option V×List aE)}
  (hp:∀ vs H r,p vs H=some r→Meets (bvN 6) 6 0 (fZ (KK w) Γ) vs H (H) r) :
  GOK prog w (KK w) (.ref 59) sl sn (ov F.at_Token___init__ p Γ) (n+1):=by
 walk_at "a"
 exact 
  cZ (D_Token___init__ _) (by decide) (nm:=nm_Token___init__) (pn:=["self","kind","value","line","spaced","place"]) (rest:=[]) rfl (by decide) (by decide) (b_Token___init__ _) G (fun c h1 h2 h3 h4 h5 h6 h7 W=>bx_Token___init__ h1 h2 h6 h7 h5 W) hp
 walk_at "z"
theorem D_is_digit (P:Params):dG (F.K P) F.at_is_digit "is_digit" F.params_is_digit F.body_is_digit F.scope_is_digit:=by
 walk_at "a"
 exact ⟨⟨_,_,_,_,_,_,_,_,_,_,_,rfl,by kernel_rfl⟩,by kernel_rfl,by rfl,by rfl,by rfl⟩
 walk_at "z"
theorem b_is_digit (P:Params):Binds P (F.K P) F.at_is_digit ["sign"] (bvN 1):=bC (pn:=["sign"]) rfl (bn1 fun r0=>by kernel_rfl)
theorem ok_is_digit {prog:Program}{w:World}{sl:Addr}{sn:List Int}{Γ:CT}{n:Nat}(G:GOK prog w (KK w) (.ref 59) sl sn Γ n){p:List V→List aE→Option (Option V×List aE)}
  (hp:∀ vs H r,p vs H=some r→Meets (bvN 1) 1 0 (iM (KK w) Γ) vs H (H) r) :
  GOK prog w (KK w) (.ref 59) sl sn (ov F.at_is_digit p Γ) (n+1):=by
 walk_at "a"
 exact 
  cZ (D_is_digit _) (by decide) (nm:=nm_is_digit) (pn:=["sign"]) (rest:=[]) rfl (by decide) (by decide) (b_is_digit _) G (fun c h1 h2 h3 h4 h5 h6 h7 W=>bx_is_digit h1 h2 h6 h7 h5 W) hp
 walk_at "z"
theorem D_digit_value (P:Params):dG (F.K P) F.at_digit_value "digit_value" F.params_digit_value F.body_digit_value F.scope_digit_value:=by
 walk_at "a"
 exact ⟨⟨_,_,_,_,_,_,_,_,_,_,_,rfl,by kernel_rfl⟩,by kernel_rfl,by rfl,by rfl,by rfl⟩
 walk_at "z"
theorem b_digit_value (P:Params):Binds P (F.K P) F.at_digit_value ["sign"] (bvN 1):=bC (pn:=["sign"]) rfl (bn1 fun r0=>by kernel_rfl)
theorem ok_digit_value {prog:Program}{w:World}{sl:Addr}{sn:List Int}{Γ:CT}{n:Nat}(G:GOK prog w (KK w) (.ref 59) sl sn Γ n){p:List V→List aE→Option (Option V×List aE)}
  (hp:∀ vs H r,p vs H=some r→Meets (bvN 1) 1 1 (dS (KK w) Γ) vs H (H) r) :
  GOK prog w (KK w) (.ref 59) sl sn (ov F.at_digit_value p Γ) (n+1):=by
 walk_at "a"
 exact 
  cZ (D_digit_value _) (by decide) (nm:=nm_digit_value) (pn:=["sign"]) (rest:=["lower"]) rfl (by decide) (by decide) (b_digit_value _) G (fun c h1 h2 h3 h4 h5 h6 h7 W=>bx_digit_value h1 h2 h6 h7 h5 W) hp
 walk_at "z"
theorem D_Scanner___init__ (P:Params):dG (F.K P) F.at_Scanner___init__ "Scanner.__init__" F.params_Scanner___init__ F.body_Scanner___init__ F.scope_Scanner___init__:=by
 walk_at "a"
 exact ⟨⟨_,_,_,_,_,_,_,_,_,_,_,rfl,by kernel_rfl⟩,by kernel_rfl,by rfl,by rfl,by rfl⟩
 walk_at "z"
theorem b_Scanner___init__ (P:Params):Binds P (F.K P) F.at_Scanner___init__ ["self","source","line"] (bvN 3):=bC (pn:=["self","source","line"]) rfl (bn3 fun r0 r1 r2=>by kernel_rfl)
theorem ok_Scanner___init__ {prog:Program}{w:World}{sl:Addr}{sn:List Int}{Γ:CT}{n:Nat}(G:GOK prog w (KK w) (.ref 59) sl sn Γ n){p:List V→List aE→Option (Option V×List aE)}
  (hp:∀ vs H r,p vs H=some r→Meets (bvN 3) 3 0 (fA (KK w) Γ) vs H (H) r) :
  GOK prog w (KK w) (.ref 59) sl sn (ov F.at_Scanner___init__ p Γ) (n+1):=by
 walk_at "a"
 exact 
  cZ (D_Scanner___init__ _) (by decide) (nm:=nm_Scanner___init__) (pn:=["self","source","line"]) (rest:=[]) rfl (by decide) (by decide) (b_Scanner___init__ _) G (fun c h1 h2 h3 h4 h5 h6 h7 W=>bx_Scanner___init__ h1 h2 h6 h7 h5 W) hp
 walk_at "z"
theorem D_Scanner_sign (P:Params):dG (F.K P) F.at_Scanner_sign "Scanner.sign" F.params_Scanner_sign F.body_Scanner_sign F.scope_Scanner_sign:=by
 walk_at "a"
 exact ⟨⟨_,_,_,_,_,_,_,_,_,_,_,rfl,by kernel_rfl⟩,by kernel_rfl,by rfl,by rfl,by rfl⟩
 walk_at "z"
noncomputable def bvS (vs:List V):Option (List V):=match vs with | []=>none | a::r=>match r with | []=>some [a,.int 0] | b::r=>match r with | []=>some [a,b] | _::_=>none
theorem binds_two {P:Params}{K:Frag}{f:Addr}{n1 n2:Str}{fd₀:FuncData}{oc:Value}{od:Option Addr}{osl:Array (Option Value)}{tq:Nat}(hK:K.lookup f=some ⟨oc,od,.func fd₀,osl⟩)
  (k1:∀ (s:Shared) r0,K.In s.heap→BindsTo s fd₀ ⟨[r0],[]⟩ [(n1,r0),(n2,.int 0 tq)]) (k2:∀ (s:Shared) r0 r1,K.In s.heap→BindsTo s fd₀ ⟨[r0,r1],[]⟩ [(n1,r0),(n2,r1)]):Binds P K f [n1,n2] bvS:=by
 walk_at "a"
 intro fd oc' od' osl' h s W vs bs rs XK hv e
 rw [hK] at h
 cases h
 cases vs with
 | nil=>exact nomatch e
 | cons a r =>
  obtain ⟨r0,rs,rfl,h1,hv⟩:=VRs.eU hv
  cases r with
  | nil =>
   obtain rfl:=VRs.gX hv
   obtain rfl:=Option.some.inj e
   exact ⟨_,k1 s _ XK,rfl,.cons h1 (.cons (.int _ _) .nil)⟩
  | cons b r =>
   obtain ⟨r1,rs,rfl,h2,hv⟩:=VRs.eU hv
   cases r with
   | nil =>
    obtain rfl:=VRs.gX hv
    obtain rfl:=Option.some.inj e
    exact ⟨_,k2 s _ _ XK,rfl,.cons h1 (.cons h2 .nil)⟩
   | cons _ _=>exact nomatch e
 walk_at "z"
theorem b_Scanner_sign (P:Params):Binds P (F.K P) F.at_Scanner_sign ["self","ahead"] bvS:=by
 walk_at "a"
 exact 
  binds_two (tq:=1032) rfl (fun _ _ X=>binds_K X rfl rfl rfl rfl (by kernel_rfl)) (fun _ _ _ X=>binds_K X rfl rfl rfl rfl (by kernel_rfl))
 walk_at "z"
theorem ok_Scanner_sign {prog:Program}{w:World}{sl:Addr}{sn:List Int}{Γ:CT}{n:Nat}(G:GOK prog w (KK w) (.ref 59) sl sn Γ n){p:List V→List aE→Option (Option V×List aE)}
  (hp:∀ vs H r,p vs H=some r→Meets (bvS) 2 1 (hV (KK w) Γ) vs H (H) r) :
  GOK prog w (KK w) (.ref 59) sl sn (ov F.at_Scanner_sign p Γ) (n+1):=by
 walk_at "a"
 exact 
  cZ (D_Scanner_sign _) (by decide) (nm:=nm_Scanner_sign) (pn:=["self","ahead"]) (rest:=["at"]) rfl (by decide) (by decide) (b_Scanner_sign _) G (fun c h1 h2 h3 h4 h5 h6 h7 W=>bx_Scanner_sign h1 h2 h6 h7 h5 W) hp
 walk_at "z"
theorem D_Scanner_begins (P:Params):dG (F.K P) F.at_Scanner_begins "Scanner.begins" F.params_Scanner_begins F.body_Scanner_begins F.scope_Scanner_begins:=by
 walk_at "a"
 exact ⟨⟨_,_,_,_,_,_,_,_,_,_,_,rfl,by kernel_rfl⟩,by kernel_rfl,by rfl,by rfl,by rfl⟩
 walk_at "z"
theorem b_Scanner_begins (P:Params):Binds P (F.K P) F.at_Scanner_begins ["self","text"] (bvN 2):=bC (pn:=["self","text"]) rfl (bn2 fun r0 r1=>by kernel_rfl)
theorem ok_Scanner_begins {prog:Program}{w:World}{sl:Addr}{sn:List Int}{Γ:CT}{n:Nat}(G:GOK prog w (KK w) (.ref 59) sl sn Γ n){p:List V→List aE→Option (Option V×List aE)}
  (hp:∀ vs H r,p vs H=some r→Meets (bvN 2) 2 0 (gA (KK w) Γ) vs H (H) r) :
  GOK prog w (KK w) (.ref 59) sl sn (ov F.at_Scanner_begins p Γ) (n+1):=by
 walk_at "a"
 exact 
  cZ (D_Scanner_begins _) (by decide) (nm:=nm_Scanner_begins) (pn:=["self","text"]) (rest:=[]) rfl (by decide) (by decide) (b_Scanner_begins _) G (fun c h1 h2 h3 h4 h5 h6 h7 W=>bx_Scanner_begins h1 h2 h6 h7 h5 W) hp
 walk_at "z"
theorem D_Scanner_step (P:Params):dG (F.K P) F.at_Scanner_step "Scanner.step" F.params_Scanner_step F.body_Scanner_step F.scope_Scanner_step:=by
 walk_at "a"
 exact ⟨⟨_,_,_,_,_,_,_,_,_,_,_,rfl,by kernel_rfl⟩,by kernel_rfl,by rfl,by rfl,by rfl⟩
 walk_at "z"
theorem b_Scanner_step (P:Params):Binds P (F.K P) F.at_Scanner_step ["self"] (bvN 1):=bC (pn:=["self"]) rfl (bn1 fun r0=>by kernel_rfl)
theorem ok_Scanner_step {prog:Program}{w:World}{sl:Addr}{sn:List Int}{Γ:CT}{n:Nat}(G:GOK prog w (KK w) (.ref 59) sl sn Γ n){p:List V→List aE→Option (Option V×List aE)}
  (hp:∀ vs H r,p vs H=some r→Meets (bvN 1) 1 1 (hU (KK w) Γ) vs H (H) r) :
  GOK prog w (KK w) (.ref 59) sl sn (ov F.at_Scanner_step p Γ) (n+1):=by
 walk_at "a"
 exact 
  cZ (D_Scanner_step _) (by decide) (nm:=nm_Scanner_step) (pn:=["self"]) (rest:=["sign"]) rfl (by decide) (by decide) (b_Scanner_step _) G (fun c h1 h2 h3 h4 h5 h6 h7 W=>bx_Scanner_step h1 h2 h6 h7 h5 W) hp
 walk_at "z"
theorem D_Scanner_name (P:Params):dG (F.K P) F.at_Scanner_name "Scanner.name" F.params_Scanner_name F.body_Scanner_name F.scope_Scanner_name:=by
 walk_at "a"
 exact ⟨⟨_,_,_,_,_,_,_,_,_,_,_,rfl,by kernel_rfl⟩,by kernel_rfl,by rfl,by rfl,by rfl⟩
 walk_at "z"
theorem b_Scanner_name (P:Params):Binds P (F.K P) F.at_Scanner_name ["self"] (bvN 1):=bC (pn:=["self"]) rfl (bn1 fun r0=>by kernel_rfl)
theorem ok_Scanner_name {prog:Program}{w:World}{sl:Addr}{sn:List Int}{Γ:CT}{n:Nat}(G:GOK prog w (KK w) (.ref 59) sl sn Γ n){p:List V→List aE→Option (Option V×List aE)}
  (hp:∀ vs H r,p vs H=some r→Meets (bvN 1) 1 4 (hW (KK w) Γ) vs H (H) r) :
  GOK prog w (KK w) (.ref 59) sl sn (ov F.at_Scanner_name p Γ) (n+1):=by
 walk_at "a"
 exact 
  cZ (D_Scanner_name _) (by decide) (nm:=nm_Scanner_name) (pn:=["self"]) (rest:=["at","source","size","begin"]) rfl (by decide) (by decide) (b_Scanner_name _) G (fun c h1 h2 h3 h4 h5 h6 h7 W=>bx_Scanner_name h1 h2 h6 h7 h5 W) hp
 walk_at "z"
theorem D_TextScanner_plain_text (P:Params):dG (F.K P) F.at_TextScanner_plain_text "TextScanner.plain_text" F.params_TextScanner_plain_text F.body_TextScanner_plain_text F.scope_TextScanner_plain_text:=by
 walk_at "a"
 exact ⟨⟨_,_,_,_,_,_,_,_,_,_,_,rfl,by kernel_rfl⟩,by kernel_rfl,by rfl,by rfl,by rfl⟩
 walk_at "z"
theorem b_TextScanner_plain_text (P:Params):Binds P (F.K P) F.at_TextScanner_plain_text ["self"] (bvN 1):=bC (pn:=["self"]) rfl (bn1 fun r0=>by kernel_rfl)
theorem ok_TextScanner_plain_text {prog:Program}{w:World}{sl:Addr}{sn:List Int}{Γ:CT}{n:Nat}(G:GOK prog w (KK w) (.ref 59) sl sn Γ n){p:List V→List aE→Option (Option V×List aE)}
  (hp:∀ vs H r,p vs H=some r→Meets (bvN 1) 1 1 (cI (KK w) Γ) vs H (H) r) :
  GOK prog w (KK w) (.ref 59) sl sn (ov F.at_TextScanner_plain_text p Γ) (n+1):=by
 walk_at "a"
 exact 
  cZ (D_TextScanner_plain_text _) (by decide) (nm:=gE) (pn:=["self"]) (rest:=["found"]) rfl (by decide) (by decide) (b_TextScanner_plain_text _) G (fun c h1 h2 h3 h4 h5 h6 h7 W=>bx_TextScanner_plain_text h1 h2 h6 h7 h5 W) hp
 walk_at "z"
theorem D_TextScanner_escaped (P:Params):dG (F.K P) F.at_TextScanner_escaped "TextScanner.escaped" F.params_TextScanner_escaped F.body_TextScanner_escaped F.scope_TextScanner_escaped:=by
 walk_at "a"
 exact ⟨⟨_,_,_,_,_,_,_,_,_,_,_,rfl,by kernel_rfl⟩,by kernel_rfl,by rfl,by rfl,by rfl⟩
 walk_at "z"
theorem b_TextScanner_escaped (P:Params):Binds P (F.K P) F.at_TextScanner_escaped ["self"] (bvN 1):=bC (pn:=["self"]) rfl (bn1 fun r0=>by kernel_rfl)
theorem ok_TextScanner_escaped {prog:Program}{w:World}{sl:Addr}{sn:List Int}{Γ:CT}{n:Nat}(G:GOK prog w (KK w) (.ref 59) sl sn Γ n){p:List V→List aE→Option (Option V×List aE)}
  (hp:∀ vs H r,p vs H=some r→Meets (bvN 1) 1 1 (cQ (KK w) Γ) vs H (H) r) :
  GOK prog w (KK w) (.ref 59) sl sn (ov F.at_TextScanner_escaped p Γ) (n+1):=by
 walk_at "a"
 exact 
  cZ (D_TextScanner_escaped _) (by decide) (nm:=hY) (pn:=["self"]) (rest:=["sign"]) rfl (by decide) (by decide) (b_TextScanner_escaped _) G (fun c h1 h2 h3 h4 h5 h6 h7 W=>bx_TextScanner_escaped h1 h2 h6 h7 h5 W) hp
 walk_at "z"
theorem D_TextScanner_text_parts (P:Params):dG (F.K P) F.at_TextScanner_text_parts "TextScanner.text_parts" F.params_TextScanner_text_parts F.body_TextScanner_text_parts F.scope_TextScanner_text_parts:=by
 walk_at "a"
 exact ⟨⟨_,_,_,_,_,_,_,_,_,_,_,rfl,by kernel_rfl⟩,by kernel_rfl,by rfl,by rfl,by rfl⟩
 walk_at "z"
theorem b_TextScanner_text_parts (P:Params):Binds P (F.K P) F.at_TextScanner_text_parts ["self"] (bvN 1):=bC (pn:=["self"]) rfl (bn1 fun r0=>by kernel_rfl)
theorem ok_TextScanner_text_parts {prog:Program}{w:World}{sl:Addr}{sn:List Int}{Γ:CT}{n:Nat}(G:GOK prog w (KK w) (.ref 59) sl sn Γ n){p:List V→List aE→Option (Option V×List aE)}
  (hp:∀ vs H r,p vs H=some r→Meets (bvN 1) 1 2 (cH (KK w) Γ) vs H (H) r) :
  GOK prog w (KK w) (.ref 59) sl sn (ov F.at_TextScanner_text_parts p Γ) (n+1):=by
 walk_at "a"
 exact 
  cZ (D_TextScanner_text_parts _) (by decide) (nm:=gD) (pn:=["self"]) (rest:=["parts","text"]) rfl (by decide) (by decide) (b_TextScanner_text_parts _) G (fun c h1 h2 h3 h4 h5 h6 h7 W=>bx_TextScanner_text_parts h1 h2 h6 h7 h5 W) hp
 walk_at "z"
theorem D_TextScanner_code (P:Params):dG (F.K P) F.at_TextScanner_code "TextScanner.code" F.params_TextScanner_code F.body_TextScanner_code F.scope_TextScanner_code:=by
 walk_at "a"
 exact ⟨⟨_,_,_,_,_,_,_,_,_,_,_,rfl,by kernel_rfl⟩,by kernel_rfl,by rfl,by rfl,by rfl⟩
 walk_at "z"
theorem b_TextScanner_code (P:Params):Binds P (F.K P) F.at_TextScanner_code ["self"] (bvN 1):=bC (pn:=["self"]) rfl (bn1 fun r0=>by kernel_rfl)
theorem ok_TextScanner_code {prog:Program}{w:World}{sl:Addr}{sn:List Int}{Γ:CT}{n:Nat}(G:GOK prog w (KK w) (.ref 59) sl sn Γ n){p:List V→List aE→Option (Option V×List aE)}
  (hp:∀ vs H r,p vs H=some r→Meets (bvN 1) 1 2 (dE (KK w) Γ) vs H (H) r) :
  GOK prog w (KK w) (.ref 59) sl sn (ov F.at_TextScanner_code p Γ) (n+1):=by
 walk_at "a"
 exact 
  cZ (D_TextScanner_code _) (by decide) (nm:=nm_TextScanner_code) (pn:=["self"]) (rest:=["begin","line"]) rfl (by decide) (by decide) (b_TextScanner_code _) G (fun c h1 h2 h3 h4 h5 h6 h7 W=>bx_TextScanner_code h1 h2 h6 h7 h5 W) hp
 walk_at "z"
theorem D_TextScanner_skip_code (P:Params):dG (F.K P) F.at_TextScanner_skip_code "TextScanner.skip_code" F.params_TextScanner_skip_code F.body_TextScanner_skip_code F.scope_TextScanner_skip_code:=by
 walk_at "a"
 exact ⟨⟨_,_,_,_,_,_,_,_,_,_,_,rfl,by kernel_rfl⟩,by kernel_rfl,by rfl,by rfl,by rfl⟩
 walk_at "z"
theorem b_TextScanner_skip_code (P:Params):Binds P (F.K P) F.at_TextScanner_skip_code ["self"] (bvN 1):=bC (pn:=["self"]) rfl (bn1 fun r0=>by kernel_rfl)
theorem ok_TextScanner_skip_code {prog:Program}{w:World}{sl:Addr}{sn:List Int}{Γ:CT}{n:Nat}(G:GOK prog w (KK w) (.ref 59) sl sn Γ n){p:List V→List aE→Option (Option V×List aE)}
  (hp:∀ vs H r,p vs H=some r→Meets (bvN 1) 1 2 (cJ (KK w) Γ) vs H (H) r) :
  GOK prog w (KK w) (.ref 59) sl sn (ov F.at_TextScanner_skip_code p Γ) (n+1):=by
 walk_at "a"
 exact 
  cZ (D_TextScanner_skip_code _) (by decide) (nm:=gK) (pn:=["self"]) (rest:=["depth","sign"]) rfl (by decide) (by decide) (b_TextScanner_skip_code _) G (fun c h1 h2 h3 h4 h5 h6 h7 W=>bx_TextScanner_skip_code h1 h2 h6 h7 h5 W) hp
 walk_at "z"
theorem D_Lexer___init__ (P:Params):dG (F.K P) F.at_Lexer___init__ "Lexer.__init__" F.params_Lexer___init__ F.body_Lexer___init__ F.scope_Lexer___init__:=by
 walk_at "a"
 exact ⟨⟨_,_,_,_,_,_,_,_,_,_,_,rfl,by kernel_rfl⟩,by kernel_rfl,by rfl,by rfl,by rfl⟩
 walk_at "z"
theorem b_Lexer___init__ (P:Params):Binds P (F.K P) F.at_Lexer___init__ ["self","source","line"] (bvN 3):=bC (pn:=["self","source","line"]) rfl (bn3 fun r0 r1 r2=>by kernel_rfl)
theorem ok_Lexer___init__ {prog:Program}{w:World}{sl:Addr}{sn:List Int}{Γ:CT}{n:Nat}(G:GOK prog w (KK w) (.ref 59) sl sn Γ n){p:List V→List aE→Option (Option V×List aE)}
  (hp:∀ vs H r,p vs H=some r→Meets (bvN 3) 3 0 (gB (KK w) Γ) vs H (H) r) :
  GOK prog w (KK w) (.ref 59) sl sn (ov F.at_Lexer___init__ p Γ) (n+1):=by
 walk_at "a"
 exact 
  cZ (D_Lexer___init__ _) (by decide) (nm:=nm_Lexer___init__) (pn:=["self","source","line"]) (rest:=[]) rfl (by decide) (by decide) (b_Lexer___init__ _) G (fun c h1 h2 h3 h4 h5 h6 h7 W=>bx_Lexer___init__ h1 h2 h6 h7 h5 W) hp
 walk_at "z"
theorem D_Lexer_put (P:Params):dG (F.K P) F.at_Lexer_put "Lexer.put" F.params_Lexer_put F.body_Lexer_put F.scope_Lexer_put:=by
 walk_at "a"
 exact ⟨⟨_,_,_,_,_,_,_,_,_,_,_,rfl,by kernel_rfl⟩,by kernel_rfl,by rfl,by rfl,by rfl⟩
 walk_at "z"
theorem b_Lexer_put (P:Params):Binds P (F.K P) F.at_Lexer_put ["self","kind","value"] (bvN 3):=bC (pn:=["self","kind","value"]) rfl (bn3 fun r0 r1 r2=>by kernel_rfl)
theorem ok_Lexer_put {prog:Program}{w:World}{sl:Addr}{sn:List Int}{Γ:CT}{n:Nat}(G:GOK prog w (KK w) (.ref 59) sl sn Γ n){p:List V→List aE→Option (Option V×List aE)}
  (hp:∀ vs H r,p vs H=some r→Meets (bvN 3) 3 0 (x_Lexer_put (KK w) Γ) vs H (H) r) :
  GOK prog w (KK w) (.ref 59) sl sn (ov F.at_Lexer_put p Γ) (n+1):=by
 walk_at "a"
 exact 
  cZ (D_Lexer_put _) (by decide) (nm:=nm_Lexer_put) (pn:=["self","kind","value"]) (rest:=[]) rfl (by decide) (by decide) (b_Lexer_put _) G (fun c h1 h2 h3 h4 h5 h6 h7 W=>bx_Lexer_put h1 h2 h6 h7 h5 W) hp
 walk_at "z"
theorem D_Lexer_whole (P:Params):dG (F.K P) F.at_Lexer_whole "Lexer.whole" F.params_Lexer_whole F.body_Lexer_whole F.scope_Lexer_whole:=by
 walk_at "a"
 exact ⟨⟨_,_,_,_,_,_,_,_,_,_,_,rfl,by kernel_rfl⟩,by kernel_rfl,by rfl,by rfl,by rfl⟩
 walk_at "z"
theorem b_Lexer_whole (P:Params):Binds P (F.K P) F.at_Lexer_whole ["self"] (bvN 1):=bC (pn:=["self"]) rfl (bn1 fun r0=>by kernel_rfl)
theorem ok_Lexer_whole {prog:Program}{w:World}{sl:Addr}{sn:List Int}{Γ:CT}{n:Nat}(G:GOK prog w (KK w) (.ref 59) sl sn Γ n){p:List V→List aE→Option (Option V×List aE)}
  (hp:∀ vs H r,p vs H=some r→Meets (bvN 1) 1 3 (x_Lexer_whole (KK w) Γ) vs H (H) r) :
  GOK prog w (KK w) (.ref 59) sl sn (ov F.at_Lexer_whole p Γ) (n+1):=by
 walk_at "a"
 exact 
  cZ (D_Lexer_whole _) (by decide) (nm:=nm_Lexer_whole) (pn:=["self"]) (rest:=["base","value","many"]) rfl (by decide) (by decide) (b_Lexer_whole _) G (fun c h1 h2 h3 h4 h5 h6 h7 W=>bx_Lexer_whole h1 h2 h6 h7 h5 W) hp
 walk_at "z"
theorem D_Lexer_longest (P:Params):dG (F.K P) F.at_Lexer_longest "Lexer.longest" F.params_Lexer_longest F.body_Lexer_longest F.scope_Lexer_longest:=by
 walk_at "a"
 exact ⟨⟨_,_,_,_,_,_,_,_,_,_,_,rfl,by kernel_rfl⟩,by kernel_rfl,by rfl,by rfl,by rfl⟩
 walk_at "z"
theorem b_Lexer_longest (P:Params):Binds P (F.K P) F.at_Lexer_longest ["self","at","known"] (bvN 3):=bC (pn:=["self","at","known"]) rfl (bn3 fun r0 r1 r2=>by kernel_rfl)
theorem ok_Lexer_longest {prog:Program}{w:World}{sl:Addr}{sn:List Int}{Γ:CT}{n:Nat}(G:GOK prog w (KK w) (.ref 59) sl sn Γ n){p:List V→List aE→Option (Option V×List aE)}
  (hp:∀ vs H r,p vs H=some r→Meets (bvN 3) 3 2 (fG (KK w) Γ) vs H (H) r) :
  GOK prog w (KK w) (.ref 59) sl sn (ov F.at_Lexer_longest p Γ) (n+1):=by
 walk_at "a"
 exact 
  cZ (D_Lexer_longest _) (by decide) (nm:=nm_Lexer_longest) (pn:=["self","at","known"]) (rest:=["size","text"]) rfl (by decide) (by decide) (b_Lexer_longest _) G (fun c h1 h2 h3 h4 h5 h6 h7 W=>bx_Lexer_longest h1 h2 h6 h7 h5 W) hp
 walk_at "z"
theorem D_law_signs (P:Params):dG (F.K P) F.at_law_signs "_law_signs" F.params_law_signs F.body_law_signs F.scope_law_signs:=by
 walk_at "a"
 exact ⟨⟨_,_,_,_,_,_,_,_,_,_,_,rfl,by kernel_rfl⟩,by kernel_rfl,by rfl,by rfl,by rfl⟩
 walk_at "z"
theorem b_law_signs (P:Params):Binds P (F.K P) F.at_law_signs ["script"] (bvN 1):=bC (pn:=["script"]) rfl (bn1 fun r0=>by kernel_rfl)
theorem ok_law_signs {prog:Program}{w:World}{sl:Addr}{sn:List Int}{Γ:CT}{n:Nat}(G:GOK prog w (KK w) (.ref 59) sl sn Γ n){p:List V→List aE→Option (Option V×List aE)}
  (hp:∀ vs H r,p vs H=some r→Meets (bvN 1) 1 4 (x_law_signs (KK w) Γ sl sn) vs H (H) r) :
  GOK prog w (KK w) (.ref 59) sl sn (ov F.at_law_signs p Γ) (n+1):=by
 walk_at "a"
 exact 
  cZ (D_law_signs _) (by decide) (nm:=nm_law_signs) (pn:=["script"]) (rest:=["menu","found","cell","rest"]) rfl (by decide) (by decide) (b_law_signs _) G (fun c h1 h2 h3 h4 h5 h6 h7 W=>by rw [← h3,← h4];exact bx_law_signs h1 h2 h6 h7 h5 W) hp
 walk_at "z"
theorem D_law_single (P:Params):dG (F.K P) F.at_law_single "_law_single" F.params_law_single F.body_law_single F.scope_law_single:=by
 walk_at "a"
 exact ⟨⟨_,_,_,_,_,_,_,_,_,_,_,rfl,by kernel_rfl⟩,by kernel_rfl,by rfl,by rfl,by rfl⟩
 walk_at "z"
theorem b_law_single (P:Params):Binds P (F.K P) F.at_law_single ["text","at"] (bvN 2):=bC (pn:=["text","at"]) rfl (bn2 fun r0 r1=>by kernel_rfl)
theorem ok_law_single {prog:Program}{w:World}{sl:Addr}{sn:List Int}{Γ:CT}{n:Nat}(G:GOK prog w (KK w) (.ref 59) sl sn Γ n){p:List V→List aE→Option (Option V×List aE)}
  (hp:∀ vs H r,p vs H=some r→Meets (bvN 2) 2 3 (dF (KK w) Γ) vs H (H) r) :
  GOK prog w (KK w) (.ref 59) sl sn (ov F.at_law_single p Γ) (n+1):=by
 walk_at "a"
 exact 
  cZ (D_law_single _) (by decide) (nm:=nm_law_single) (pn:=["text","at"]) (rest:=["pair","size","rest"]) rfl (by decide) (by decide) (b_law_single _) G (fun c h1 h2 h3 h4 h5 h6 h7 W=>bx_law_single h1 h2 h6 h7 h5 W) hp
 walk_at "z"
theorem D_law_code_end (P:Params):dG (F.K P) F.at_law_code_end "_law_code_end" F.params_law_code_end F.body_law_code_end F.scope_law_code_end:=by
 walk_at "a"
 exact ⟨⟨_,_,_,_,_,_,_,_,_,_,_,rfl,by kernel_rfl⟩,by kernel_rfl,by rfl,by rfl,by rfl⟩
 walk_at "z"
theorem b_law_code_end (P:Params):Binds P (F.K P) F.at_law_code_end ["text","at","depth"] (bvN 3):=bC (pn:=["text","at","depth"]) rfl (bn3 fun r0 r1 r2=>by kernel_rfl)
theorem ok_law_code_end {prog:Program}{w:World}{sl:Addr}{sn:List Int}{Γ:CT}{n:Nat}(G:GOK prog w (KK w) (.ref 59) sl sn Γ n){p:List V→List aE→Option (Option V×List aE)}
  (hp:∀ vs H r,p vs H=some r→Meets (bvN 3) 3 2 (cF (KK w) Γ) vs H (H) r) :
  GOK prog w (KK w) (.ref 59) sl sn (ov F.at_law_code_end p Γ) (n+1):=by
 walk_at "a"
 exact 
  cZ (D_law_code_end _) (by decide) (nm:=nm_law_code_end) (pn:=["text","at","depth"]) (rest:=["sign","found"]) rfl (by decide) (by decide) (b_law_code_end _) G (fun c h1 h2 h3 h4 h5 h6 h7 W=>bx_law_code_end h1 h2 h6 h7 h5 W) hp
 walk_at "z"
theorem D_law_line (P:Params):dG (F.K P) F.at_law_line "_law_line" F.params_law_line F.body_law_line F.scope_law_line:=by
 walk_at "a"
 exact ⟨⟨_,_,_,_,_,_,_,_,_,_,_,rfl,by kernel_rfl⟩,by kernel_rfl,by rfl,by rfl,by rfl⟩
 walk_at "z"
theorem b_law_line (P:Params):Binds P (F.K P) F.at_law_line ["text","at"] (bvN 2):=bC (pn:=["text","at"]) rfl (bn2 fun r0 r1=>by kernel_rfl)
theorem ok_law_line {prog:Program}{w:World}{sl:Addr}{sn:List Int}{Γ:CT}{n:Nat}(G:GOK prog w (KK w) (.ref 59) sl sn Γ n){p:List V→List aE→Option (Option V×List aE)}
  (hp:∀ vs H r,p vs H=some r→Meets (bvN 2) 2 0 (x_law_line (KK w) Γ) vs H (H) r) :
  GOK prog w (KK w) (.ref 59) sl sn (ov F.at_law_line p Γ) (n+1):=by
 walk_at "a"
 exact 
  cZ (D_law_line _) (by decide) (nm:=nm_law_line) (pn:=["text","at"]) (rest:=[]) rfl (by decide) (by decide) (b_law_line _) G (fun c h1 h2 h3 h4 h5 h6 h7 W=>bx_law_line h1 h2 h6 h7 h5 W) hp
 walk_at "z"
theorem D_law_double (P:Params):dG (F.K P) F.at_law_double "_law_double" F.params_law_double F.body_law_double F.scope_law_double:=by
 walk_at "a"
 exact ⟨⟨_,_,_,_,_,_,_,_,_,_,_,rfl,by kernel_rfl⟩,by kernel_rfl,by rfl,by rfl,by rfl⟩
 walk_at "z"
theorem b_law_double (P:Params):Binds P (F.K P) F.at_law_double ["text","at"] (bvN 2):=bC (pn:=["text","at"]) rfl (bn2 fun r0 r1=>by kernel_rfl)
theorem ok_law_double {prog:Program}{w:World}{sl:Addr}{sn:List Int}{Γ:CT}{n:Nat}(G:GOK prog w (KK w) (.ref 59) sl sn Γ n){p:List V→List aE→Option (Option V×List aE)}
  (hp:∀ vs H r,p vs H=some r→Meets (bvN 2) 2 6 (cL (KK w) Γ) vs H (H) r) :
  GOK prog w (KK w) (.ref 59) sl sn (ov F.at_law_double p Γ) (n+1):=by
 walk_at "a"
 exact 
  cZ (D_law_double _) (by decide) (nm:=nm_law_double) (pn:=["text","at"]) (rest:=["end_at","part_here","behind_it","known","rest","parts"]) rfl (by decide) (by decide) (b_law_double _) G (fun c h1 h2 h3 h4 h5 h6 h7 W=>bx_law_double h1 h2 h6 h7 h5 W) hp
 walk_at "z"
theorem D_law_at (P:Params):dG (F.K P) F.at_law_at "_law_at" F.params_law_at F.body_law_at F.scope_law_at:=by
 walk_at "a"
 exact ⟨⟨_,_,_,_,_,_,_,_,_,_,_,rfl,by kernel_rfl⟩,by kernel_rfl,by rfl,by rfl,by rfl⟩
 walk_at "z"
theorem b_law_at (P:Params):Binds P (F.K P) F.at_law_at ["text","at"] (bvN 2):=bC (pn:=["text","at"]) rfl (bn2 fun r0 r1=>by kernel_rfl)
theorem ok_law_at {prog:Program}{w:World}{sl:Addr}{sn:List Int}{Γ:CT}{n:Nat}(G:GOK prog w (KK w) (.ref 59) sl sn Γ n){p:List V→List aE→Option (Option V×List aE)}
  (hp:∀ vs H r,p vs H=some r→Meets (bvN 2) 2 1 (x_law_at (KK w) Γ) vs H (H) r) :
  GOK prog w (KK w) (.ref 59) sl sn (ov F.at_law_at p Γ) (n+1):=by
 walk_at "a"
 exact 
  cZ (D_law_at _) (by decide) (nm:=nm_law_at) (pn:=["text","at"]) (rest:=["found"]) rfl (by decide) (by decide) (b_law_at _) G (fun c h1 h2 h3 h4 h5 h6 h7 W=>bx_law_at h1 h2 h6 h7 h5 W) hp
 walk_at "z"
theorem D_law_texts_right (P:Params):dG (F.K P) F.at_law_texts_right "_law_texts_right" F.params_law_texts_right F.body_law_texts_right F.scope_law_texts_right:=by
 walk_at "a"
 exact ⟨⟨_,_,_,_,_,_,_,_,_,_,_,rfl,by kernel_rfl⟩,by kernel_rfl,by rfl,by rfl,by rfl⟩
 walk_at "z"
theorem b_law_texts_right (P:Params):Binds P (F.K P) F.at_law_texts_right ["text","at"] (bvN 2):=bC (pn:=["text","at"]) rfl (bn2 fun r0 r1=>by kernel_rfl)
theorem ok_law_texts_right {prog:Program}{w:World}{sl:Addr}{sn:List Int}{Γ:CT}{n:Nat}(G:GOK prog w (KK w) (.ref 59) sl sn Γ n){p:List V→List aE→Option (Option V×List aE)}
  (hp:∀ vs H r,p vs H=some r→Meets (bvN 2) 2 5 (dI (KK w) Γ) vs H (H) r) :
  GOK prog w (KK w) (.ref 59) sl sn (ov F.at_law_texts_right p Γ) (n+1):=by
 walk_at "a"
 exact 
  cZ (D_law_texts_right _) (by decide) (nm:=nm_law_texts_right) (pn:=["text","at"]) (rest:=["way","scanner","due","end_at","found"]) rfl (by decide) (by decide) (b_law_texts_right _) G (fun c h1 h2 h3 h4 h5 h6 h7 W=>bx_law_texts_right h1 h2 h6 h7 h5 W) hp
 walk_at "z"
theorem D_law_word (P:Params):dG (F.K P) F.at_law_word "_law_word" F.params_law_word F.body_law_word F.scope_law_word:=by
 walk_at "a"
 exact ⟨⟨_,_,_,_,_,_,_,_,_,_,_,rfl,by kernel_rfl⟩,by kernel_rfl,by rfl,by rfl,by rfl⟩
 walk_at "z"
theorem b_law_word (P:Params):Binds P (F.K P) F.at_law_word ["text","at"] (bvN 2):=bC (pn:=["text","at"]) rfl (bn2 fun r0 r1=>by kernel_rfl)
theorem ok_law_word {prog:Program}{w:World}{sl:Addr}{sn:List Int}{Γ:CT}{n:Nat}(G:GOK prog w (KK w) (.ref 59) sl sn Γ n){p:List V→List aE→Option (Option V×List aE)}
  (hp:∀ vs H r,p vs H=some r→Meets (bvN 2) 2 1 (x_law_word (KK w) Γ) vs H (H) r) :
  GOK prog w (KK w) (.ref 59) sl sn (ov F.at_law_word p Γ) (n+1):=by
 walk_at "a"
 exact 
  cZ (D_law_word _) (by decide) (nm:=nm_law_word) (pn:=["text","at"]) (rest:=["size"]) rfl (by decide) (by decide) (b_law_word _) G (fun c h1 h2 h3 h4 h5 h6 h7 W=>bx_law_word h1 h2 h6 h7 h5 W) hp
 walk_at "z"
theorem D_law_worth (P:Params):dG (F.K P) F.at_law_worth "_law_worth" F.params_law_worth F.body_law_worth F.scope_law_worth:=by
 walk_at "a"
 exact ⟨⟨_,_,_,_,_,_,_,_,_,_,_,rfl,by kernel_rfl⟩,by kernel_rfl,by rfl,by rfl,by rfl⟩
 walk_at "z"
theorem b_law_worth (P:Params):Binds P (F.K P) F.at_law_worth ["sign"] (bvN 1):=bC (pn:=["sign"]) rfl (bn1 fun r0=>by kernel_rfl)
theorem ok_law_worth {prog:Program}{w:World}{sl:Addr}{sn:List Int}{Γ:CT}{n:Nat}(G:GOK prog w (KK w) (.ref 59) sl sn Γ n){p:List V→List aE→Option (Option V×List aE)}
  (hp:∀ vs H r,p vs H=some r→Meets (bvN 1) 1 1 (gT (KK w) Γ) vs H (H) r) :
  GOK prog w (KK w) (.ref 59) sl sn (ov F.at_law_worth p Γ) (n+1):=by
 walk_at "a"
 exact 
  cZ (D_law_worth _) (by decide) (nm:=nm_law_worth) (pn:=["sign"]) (rest:=["spot"]) rfl (by decide) (by decide) (b_law_worth _) G (fun c h1 h2 h3 h4 h5 h6 h7 W=>bx_law_worth h1 h2 h6 h7 h5 W) hp
 walk_at "z"
theorem D_law_number (P:Params):dG (F.K P) F.at_law_number "_law_number" F.params_law_number F.body_law_number F.scope_law_number:=by
 walk_at "a"
 exact ⟨⟨_,_,_,_,_,_,_,_,_,_,_,rfl,by kernel_rfl⟩,by kernel_rfl,by rfl,by rfl,by rfl⟩
 walk_at "z"
theorem b_law_number (P:Params):Binds P (F.K P) F.at_law_number ["text","at"] (bvN 2):=bC (pn:=["text","at"]) rfl (bn2 fun r0 r1=>by kernel_rfl)
theorem ok_law_number {prog:Program}{w:World}{sl:Addr}{sn:List Int}{Γ:CT}{n:Nat}(G:GOK prog w (KK w) (.ref 59) sl sn Γ n){p:List V→List aE→Option (Option V×List aE)}
  (hp:∀ vs H r,p vs H=some r→Meets (bvN 2) 2 5 (eF (KK w) Γ H.length) vs H (H++[.cell none]) r) :
  GOK prog w (KK w) (.ref 59) sl sn (ov F.at_law_number p Γ) (n+1):=by
 walk_at "a"
 exact 
  def_okC (D_law_number _) (cx:="base") (fun _=>rfl) (nm:=nm_law_number) (pn:=["text","at"]) (rest:=["row_of","body","groups","value","sign"]) rfl (by decide) (by decide) (b_law_number _) G (fun c i h1 h2 h3 h4 h5 h6 h7 h8 W=>bx_law_number h1 h2 h7 h8 h5 h6 W) hp
 walk_at "z"
theorem D_law_whole_right (P:Params):dG (F.K P) F.at_law_whole_right "_law_whole_right" F.params_law_whole_right F.body_law_whole_right F.scope_law_whole_right:=by
 walk_at "a"
 exact ⟨⟨_,_,_,_,_,_,_,_,_,_,_,rfl,by kernel_rfl⟩,by kernel_rfl,by rfl,by rfl,by rfl⟩
 walk_at "z"
theorem b_law_whole_right (P:Params):Binds P (F.K P) F.at_law_whole_right ["text","at"] (bvN 2):=bC (pn:=["text","at"]) rfl (bn2 fun r0 r1=>by kernel_rfl)
theorem ok_law_whole_right {prog:Program}{w:World}{sl:Addr}{sn:List Int}{Γ:CT}{n:Nat}(G:GOK prog w (KK w) (.ref 59) sl sn Γ n){p:List V→List aE→Option (Option V×List aE)}
  (hp:∀ vs H r,p vs H=some r→Meets (bvN 2) 2 3 (dH (KK w) Γ) vs H (H) r) :
  GOK prog w (KK w) (.ref 59) sl sn (ov F.at_law_whole_right p Γ) (n+1):=by
 walk_at "a"
 exact 
  cZ (D_law_whole_right _) (by decide) (nm:=nm_law_whole_right) (pn:=["text","at"]) (rest:=["lexer","due","kept"]) rfl (by decide) (by decide) (b_law_whole_right _) G (fun c h1 h2 h3 h4 h5 h6 h7 W=>bx_law_whole_right h1 h2 h6 h7 h5 W) hp
 walk_at "z"
theorem D_law_longest (P:Params):dG (F.K P) F.at_law_longest "_law_longest" F.params_law_longest F.body_law_longest F.scope_law_longest:=by
 walk_at "a"
 exact ⟨⟨_,_,_,_,_,_,_,_,_,_,_,rfl,by kernel_rfl⟩,by kernel_rfl,by rfl,by rfl,by rfl⟩
 walk_at "z"
theorem b_law_longest (P:Params):Binds P (F.K P) F.at_law_longest ["text","at","known"] (bvN 3):=bC (pn:=["text","at","known"]) rfl (bn3 fun r0 r1 r2=>by kernel_rfl)
theorem ok_law_longest {prog:Program}{w:World}{sl:Addr}{sn:List Int}{Γ:CT}{n:Nat}(G:GOK prog w (KK w) (.ref 59) sl sn Γ n){p:List V→List aE→Option (Option V×List aE)}
  (hp:∀ vs H r,p vs H=some r→Meets (bvN 3) 3 2 (x_law_longest (KK w) Γ w.params) vs H (H) r) :
  GOK prog w (KK w) (.ref 59) sl sn (ov F.at_law_longest p Γ) (n+1):=by
 walk_at "a"
 exact 
  cZ (D_law_longest _) (by decide) (nm:=nm_law_longest) (pn:=["text","at","known"]) (rest:=["found","one"]) rfl (by decide) (by decide) (b_law_longest _) G (fun c h1 h2 h3 h4 h5 h6 h7 W=>bx_law_longest h1 h2 h6 h7 h5 W) hp
 walk_at "z"
theorem D_law_steps_right (P:Params):dG (F.K P) F.at_law_steps_right "_law_steps_right" F.params_law_steps_right F.body_law_steps_right F.scope_law_steps_right:=by
 walk_at "a"
 exact ⟨⟨_,_,_,_,_,_,_,_,_,_,_,rfl,by kernel_rfl⟩,by kernel_rfl,by rfl,by rfl,by rfl⟩
 walk_at "z"
theorem b_law_steps_right (P:Params):Binds P (F.K P) F.at_law_steps_right ["text","at"] (bvN 2):=bC (pn:=["text","at"]) rfl (bn2 fun r0 r1=>by kernel_rfl)
theorem ok_law_steps_right {prog:Program}{w:World}{sl:Addr}{sn:List Int}{Γ:CT}{n:Nat}(G:GOK prog w (KK w) (.ref 59) sl sn Γ n){p:List V→List aE→Option (Option V×List aE)}
  (hp:∀ vs H r,p vs H=some r→Meets (bvN 2) 2 0 (eG (KK w) Γ H.length) vs H (H++[.cell none]) r) :
  GOK prog w (KK w) (.ref 59) sl sn (ov F.at_law_steps_right p Γ) (n+1):=by
 walk_at "a"
 exact 
  def_okC (D_law_steps_right _) (cx:="scanner") (fun _=>rfl) (nm:=nm_law_steps_right) (pn:=["text","at"]) (rest:=[]) rfl (by decide) (by decide) (b_law_steps_right _) G (fun c i h1 h2 h3 h4 h5 h6 h7 h8 W=>bx_law_steps_right h1 h2 h7 h8 h5 h6 W) hp
 walk_at "z"
theorem D_law (P:Params):dG (F.K P) F.at_law "law" F.params_law F.body_law F.scope_law:=by
 walk_at "a"
 exact ⟨⟨_,_,_,_,_,_,_,_,_,_,_,rfl,by kernel_rfl⟩,by kernel_rfl,by rfl,by rfl,by rfl⟩
 walk_at "z"
theorem b_law (P:Params):Binds P (F.K P) F.at_law ["script"] (bvN 1):=bC (pn:=["script"]) rfl (bn1 fun r0=>by kernel_rfl)
theorem ok_law {prog:Program}{w:World}{sl:Addr}{sn:List Int}{Γ:CT}{n:Nat}(G:GOK prog w (KK w) (.ref 59) sl sn Γ n){p:List V→List aE→Option (Option V×List aE)}
  (hp:∀ vs H r,p vs H=some r→Meets (bvN 1) 1 5 (x_law (KK w) Γ) vs H (H) r) :
  GOK prog w (KK w) (.ref 59) sl sn (ov F.at_law p Γ) (n+1):=by
 walk_at "a"
 exact 
  cZ (D_law _) (by decide) (nm:=nm_law) (pn:=["script"]) (rest:=["text","lexer","at","sign","known"]) rfl (by decide) (by decide) (b_law _) G (fun c h1 h2 h3 h4 h5 h6 h7 W=>bx_law h1 h2 h6 h7 h5 W) hp
 walk_at "z"
end Mine
end
section
namespace Mine
section
variable {α β:Type}
theorem bind_app {x:M α}{f:α→M β}{σ:St}:(x.bind f) σ=match x σ with | none=>none | some (none,σ')=>some (none,σ') | some (some y,σ')=>f y σ':=by
 unfold M.bind
 rcases x σ with _ | ⟨_ | _,_⟩<;>rfl
theorem then_app {x y:M Fl}{σ:St}:aF x y σ=match x σ with | none=>none | some (none,σ')=>some (none,σ') | some (some f,σ')=>(match f with | .next=>y | f=>M.ret f) σ':=by
 walk_at "a"
 unfold aF M.bind
 rcases h:x σ with _ | ⟨_ | f,σ'⟩<;>simp only<;>cases f<;>rfl
 walk_at "z"
theorem bF {v:α}{σ:St}:M.ret v σ=some (some v,σ):=by cases σ;rfl
theorem getVar_app {k:Nat}{ρ:List (Option V)}{H:List aE}:getVar k ⟨ρ,H⟩=match ρ[k]? with | some (some v)=>some (some v,⟨ρ,H⟩) | _=>none:=by
 unfold getVar
 rcases ρ[k]? with _ | _ | _<;>rfl
theorem setVar_app {k:Nat}{v:V}{ρ:List (Option V)}{H:List aE}:aJ k v ⟨ρ,H⟩=if k<ρ.length then some (some (),⟨ρ.set k (some v),H⟩) else none:=by
 unfold aJ
 split<;>rfl
theorem ite_app {c:Bool}{x y:M α}{σ:St}:(if c then x else y) σ=if c then x σ else y σ:=by cases c<;>rfl
end
theorem callC_of {Γ:CT}{H:List aE}{f:Addr}{vs:List V}{r:Option V}{H':List aE}{ρ:List (Option V)}(h:Γ f vs H=some (r,H')):callC Γ f vs ⟨ρ,H⟩=some (r,⟨ρ,H'⟩):=by simp only [callC,h]
section
variable {α:Type}
theorem if_t {x y:M α}{σ:St}:bD true x y σ=x σ:=by unfold bD;rw [if_pos rfl]
theorem if_f {x y:M α}{σ:St}:bD false x y σ=y σ:=by unfold bD;rw [if_neg (by decide)]
theorem if_b {b:Bool}{σ:St}:bD b (M.ret true) (M.ret false) σ=some (some b,σ):=by cases b<;>rfl
theorem tru {b:Bool}{σ:St}:bI (.bool b) σ=some (some b,σ):=by cases b<;>rfl
theorem c_of {op:CmpOp}{x y:V}{b:Bool}{σ:St}(h:cmp0 op x y=some b):aY op x y σ=some (some (.bool b),σ):=by
 walk_at "a"
 unfold aY;rw [h];rfl
 walk_at "z"
theorem c_eqI {i j:Int}{σ:St}:aY .Eq (.int i) (.int j) σ=some (some (.bool (i==j)),σ):=c_of rfl
theorem c_neI {i j:Int}{σ:St}:aY .NotEq (.int i) (.int j) σ=some (some (.bool (i != j)),σ):=c_of rfl
theorem c_ltI {i j:Int}{σ:St}:aY .Lt (.int i) (.int j) σ=some (some (.bool (decide (i<j))),σ):=c_of rfl
theorem c_leI {i j:Int}{σ:St}:aY .LtE (.int i) (.int j) σ=some (some (.bool (decide (i≤j))),σ):=c_of rfl
theorem c_gtI {i j:Int}{σ:St}:aY .Gt (.int i) (.int j) σ=some (some (.bool (decide (i>j))),σ):=c_of rfl
theorem c_geI {i j:Int}{σ:St}:aY .GtE (.int i) (.int j) σ=some (some (.bool (decide (i≥j))),σ):=c_of rfl
theorem c_eqS {x y:Str}{σ:St}:aY .Eq (.str x) (.str y) σ=some (some (.bool (x==y)),σ):=c_of rfl
theorem c_neS {x y:Str}{σ:St}:aY .NotEq (.str x) (.str y) σ=some (some (.bool (x != y)),σ):=c_of rfl
theorem c_leS {x y:Str}{σ:St}:aY .LtE (.str x) (.str y) σ=some (some (.bool (gL x y)),σ):=c_of rfl
theorem c_isNN {σ:St}:aY .Is .none .none σ=some (some (.bool true),σ):=c_of rfl
theorem c_isNI {i:Int}{σ:St}:aY .Is (.int i) .none σ=some (some (.bool false),σ):=c_of rfl
theorem c_isNT {vs:List V}{σ:St}:aY .Is (.tup vs) .none σ=some (some (.bool false),σ):=c_of rfl
theorem c_inNN {σ:St}:aY .IsNot .none .none σ=some (some (.bool false),σ):=c_of rfl
theorem c_inNI {i:Int}{σ:St}:aY .IsNot (.int i) .none σ=some (some (.bool true),σ):=c_of rfl
theorem c_inNT {vs:List V}{σ:St}:aY .IsNot (.tup vs) .none σ=some (some (.bool true),σ):=c_of rfl
theorem b_addI {i j:Int}{σ:St}:bO .Add (.int i) (.int j) σ=some (some (.int (i+j)),σ):=by
 walk_at "a"
 cases σ;rfl
 walk_at "z"
theorem b_subI {i j:Int}{σ:St}:bO .Sub (.int i) (.int j) σ=some (some (.int (i-j)),σ):=by
 walk_at "a"
 cases σ;rfl
 walk_at "z"
theorem b_addS {x y:Str}{σ:St}(h:x.length+y.length≤100000):bO .Add (.str x) (.str y) σ=some (some (.str (x++y)),σ):=by
 show ((if x.length+y.length≤100000 then M.ret (.str (x++y)) else M.stuck:M V) σ)=_
 rw [if_pos h];rfl
theorem i_addI {i j:Int}{σ:St}:iopV .Add (.int i) (.int j) σ=some (some (.int (i+j)),σ):=by
 walk_at "a"
 cases σ;rfl
 walk_at "z"
theorem i_subI {i j:Int}{σ:St}:iopV .Sub (.int i) (.int j) σ=some (some (.int (i-j)),σ):=by
 walk_at "a"
 cases σ;rfl
 walk_at "z"
theorem i_addS {x y:Str}{σ:St}(h:x.length+y.length≤100000):iopV .Add (.str x) (.str y) σ=some (some (.str (x++y)),σ):=by
 show ((if x.length+y.length≤100000 then M.ret (.str (x++y)) else M.stuck:M V) σ)=_
 rw [if_pos h];rfl
theorem neg_I {i:Int}{σ:St}:negV (.int i) σ=some (some (.int (-i)),σ):=by
 walk_at "a"
 cases σ;rfl
 walk_at "z"
theorem sl_ss {l:List Nat}{a b:Nat}{σ:St}(h:l.length≤1000):bM (.str (S l)) (.int (a:Int)) (.int (b:Int)) σ=some (some (.str (S ((l.take b).drop a))),σ):=by
 walk_at "a"
 have h1:(S l).length≤100000:=by rw [cD];lia
 show ((if (S l).length≤100000 then M.ret (.str (Txt.slice (S l) (some (a:Int)) (some (b:Int)))) else M.stuck:M V) σ)=_
 rw [if_pos h1,slice_nat];rfl
 walk_at "z"
theorem sl_sn {l:List Nat}{a:Nat}{σ:St}(h:l.length≤1000):bM (.str (S l)) (.int (a:Int)) .none σ=some (some (.str (S (l.drop a))),σ):=by
 walk_at "a"
 have h1:(S l).length≤100000:=by rw [cD];lia
 show ((if (S l).length≤100000 then M.ret (.str (Txt.slice (S l) (some (a:Int)) none)) else M.stuck:M V) σ)=_
 rw [if_pos h1,slice_from];rfl
 walk_at "z"
theorem sl_ns {l:List Nat}{b:Nat}{σ:St}(h:l.length≤1000):bM (.str (S l)) .none (.int (b:Int)) σ=some (some (.str (S (l.take b))),σ):=by
 walk_at "a"
 have h1:(S l).length≤100000:=by rw [cD];lia
 show ((if (S l).length≤100000 then M.ret (.str (Txt.slice (S l) none (some (b:Int)))) else M.stuck:M V) σ)=_
 rw [if_pos h1,slice_to];rfl
 walk_at "z"
theorem mk_tup {vs:List V}{σ:St}(h:vs.length≤100000):dR vs σ=some (some (.tup vs),σ):=by unfold dR;rw [if_pos h];rfl
theorem mk_lst {vs:List V}{σ:St}(h:vs.length≤100000):iF vs σ=some (some (.lst vs),σ):=by unfold iF;rw [if_pos h];rfl
theorem own_app {o:aE}{ρ:List (Option V)}{H:List aE}:newOwn o ⟨ρ,H⟩=some (some (.obj H.length),⟨ρ,H++[o]⟩):=by cases H<;>rfl
theorem unp {n:Nat}{vs:List V}{σ:St}(h:vs.length=n):eK n (.tup vs) σ=some (some vs,σ):=by
 walk_at "a"
 show ((if vs.length=n then M.ret vs else M.stuck:M (List V)) σ)=_
 rw [if_pos h];rfl
 walk_at "z"
theorem unp2 {a b:V}{σ:St}:eK 2 (.tup [a,b]) σ=some (some [a,b],σ):=unp rfl
theorem unp3 {a b c:V}{σ:St}:eK 3 (.tup [a,b,c]) σ=some (some [a,b,c],σ):=unp rfl
theorem st_nil {fs:List (V→M Unit)}{σ:St}:dA fs [] σ=some (some (),σ):=by cases fs<;>cases σ<;>rfl
theorem st_cons {f:V→M Unit}{fs:List (V→M Unit)}{v:V}{vs:List V}{σ:St}:dA (f::fs) (v::vs) σ=((f v).bind fun _=>dA fs vs) σ:=by cases σ;rfl
theorem len_S {K:Frag}{l:List Nat}{σ:St}(h:l.length≤1000):bG K "len" [.str (S l)] σ=some (some (.int l.length),σ):=by
 walk_at "a"
 have h1:(S l).length≤100000:=by rw [cD];lia
 have:bG K "len" [.str (S l)]=bLen [.str (S l)]:=by unfold bG;rw [if_pos rfl]
 rw [this]
 show ((if (S l).length≤100000 then M.ret (.int (S l).length) else M.stuck:M V) σ)=_
 rw [if_pos h1,cD,bF]
 walk_at "z"
variable {K:Frag}{Γ:CT}
theorem at_bi {id:String}{first:List V}{xs:M (List V)}{σ:St}:aC K Γ (.bi id) first xs σ=(xs.bind fun vs=>bG K id (first++vs)) σ:=by cases σ;rfl
theorem at_const {f:Addr}{first:List V}{xs:M (List V)}{σ:St}:aC K Γ (.const f) first xs σ=(xs.bind fun vs=>callC Γ f (first++vs)) σ:=by
 walk_at "a"
 cases σ;rfl
 walk_at "z"
theorem at_ty {T:String}{xs:M (List V)}{σ:St}:aC K Γ (.ty T) [] xs σ=(xs.bind fun vs=>callT T vs) σ:=by cases σ;rfl
theorem v0_const {f:Addr}{first:List V}{σ:St}:bU K Γ (.const f) first σ=callC Γ f first σ:=by cases σ;rfl
theorem v0_bi {id:String}{first:List V}{σ:St}:bU K Γ (.bi id) first σ=bG K id first σ:=by cases σ;rfl
theorem gv0 {v:V}{ρ:List (Option V)}{H:List aE}:getVar 0 ⟨some v::ρ,H⟩=some (some v,⟨some v::ρ,H⟩):=by cases H<;>rfl
theorem sv0 {y:Option V}{v:V}{ρ:List (Option V)}{H:List aE}:aJ 0 v ⟨y::ρ,H⟩=some (some (),⟨some v::ρ,H⟩):=by
 walk_at "a"
 unfold aJ;rw [if_pos (by simp only [List.length_cons];lia)];rfl
 walk_at "z"
theorem gv1 {x0:Option V}{v:V}{ρ:List (Option V)}{H:List aE}:getVar 1 ⟨x0::some v::ρ,H⟩=some (some v,⟨x0::some v::ρ,H⟩):=by
 walk_at "a"
 cases H<;>rfl
 walk_at "z"
theorem sv1 {x0:Option V}{y:Option V}{v:V}{ρ:List (Option V)}{H:List aE}:aJ 1 v ⟨x0::y::ρ,H⟩=some (some (),⟨x0::some v::ρ,H⟩):=by
 walk_at "a"
 unfold aJ;rw [if_pos (by simp only [List.length_cons];lia)];rfl
 walk_at "z"
theorem gv2 {x0 x1:Option V}{v:V}{ρ:List (Option V)}{H:List aE}:getVar 2 ⟨x0::x1::some v::ρ,H⟩=some (some v,⟨x0::x1::some v::ρ,H⟩):=by
 walk_at "a"
 cases H<;>rfl
 walk_at "z"
theorem sv2 {x0 x1:Option V}{y:Option V}{v:V}{ρ:List (Option V)}{H:List aE}:aJ 2 v ⟨x0::x1::y::ρ,H⟩=some (some (),⟨x0::x1::some v::ρ,H⟩):=by
 walk_at "a"
 unfold aJ;rw [if_pos (by simp only [List.length_cons];lia)];rfl
 walk_at "z"
theorem gv3 {x0 x1 x2:Option V}{v:V}{ρ:List (Option V)}{H:List aE}:getVar 3 ⟨x0::x1::x2::some v::ρ,H⟩=some (some v,⟨x0::x1::x2::some v::ρ,H⟩):=by
 walk_at "a"
 cases H<;>rfl
 walk_at "z"
theorem sv3 {x0 x1 x2:Option V}{y:Option V}{v:V}{ρ:List (Option V)}{H:List aE}:aJ 3 v ⟨x0::x1::x2::y::ρ,H⟩=some (some (),⟨x0::x1::x2::some v::ρ,H⟩):=by
 walk_at "a"
 unfold aJ;rw [if_pos (by simp only [List.length_cons];lia)];rfl
 walk_at "z"
theorem gv4 {x0 x1 x2 x3:Option V}{v:V}{ρ:List (Option V)}{H:List aE}:getVar 4 ⟨x0::x1::x2::x3::some v::ρ,H⟩=some (some v,⟨x0::x1::x2::x3::some v::ρ,H⟩):=by
 walk_at "a"
 cases H<;>rfl
 walk_at "z"
theorem sv4 {x0 x1 x2 x3:Option V}{y:Option V}{v:V}{ρ:List (Option V)}{H:List aE}:aJ 4 v ⟨x0::x1::x2::x3::y::ρ,H⟩=some (some (),⟨x0::x1::x2::x3::some v::ρ,H⟩):=by
 walk_at "a"
 unfold aJ;rw [if_pos (by simp only [List.length_cons];lia)];rfl
 walk_at "z"
theorem gv5 {x0 x1 x2 x3 x4:Option V}{v:V}{ρ:List (Option V)}{H:List aE}:getVar 5 ⟨x0::x1::x2::x3::x4::some v::ρ,H⟩=some (some v,⟨x0::x1::x2::x3::x4::some v::ρ,H⟩):=by
 walk_at "a"
 cases H<;>rfl
 walk_at "z"
theorem sv5 {x0 x1 x2 x3 x4:Option V}{y:Option V}{v:V}{ρ:List (Option V)}{H:List aE}:aJ 5 v ⟨x0::x1::x2::x3::x4::y::ρ,H⟩=some (some (),⟨x0::x1::x2::x3::x4::some v::ρ,H⟩):=by
 walk_at "a"
 unfold aJ;rw [if_pos (by simp only [List.length_cons];lia)];rfl
 walk_at "z"
theorem gv6 {x0 x1 x2 x3 x4 x5:Option V}{v:V}{ρ:List (Option V)}{H:List aE}:getVar 6 ⟨x0::x1::x2::x3::x4::x5::some v::ρ,H⟩=some (some v,⟨x0::x1::x2::x3::x4::x5::some v::ρ,H⟩):=by
 walk_at "a"
 cases H<;>rfl
 walk_at "z"
theorem sv6 {x0 x1 x2 x3 x4 x5:Option V}{y:Option V}{v:V}{ρ:List (Option V)}{H:List aE}:aJ 6 v ⟨x0::x1::x2::x3::x4::x5::y::ρ,H⟩=some (some (),⟨x0::x1::x2::x3::x4::x5::some v::ρ,H⟩):=by
 walk_at "a"
 unfold aJ;rw [if_pos (by simp only [List.length_cons];lia)];rfl
 walk_at "z"
theorem gv7 {x0 x1 x2 x3 x4 x5 x6:Option V}{v:V}{ρ:List (Option V)}{H:List aE}:getVar 7 ⟨x0::x1::x2::x3::x4::x5::x6::some v::ρ,H⟩=some (some v,⟨x0::x1::x2::x3::x4::x5::x6::some v::ρ,H⟩):=by
 walk_at "a"
 cases H<;>rfl
 walk_at "z"
theorem sv7 {x0 x1 x2 x3 x4 x5 x6:Option V}{y:Option V}{v:V}{ρ:List (Option V)}{H:List aE}:aJ 7 v ⟨x0::x1::x2::x3::x4::x5::x6::y::ρ,H⟩=some (some (),⟨x0::x1::x2::x3::x4::x5::x6::some v::ρ,H⟩):=by
 walk_at "a"
 unfold aJ;rw [if_pos (by simp only [List.length_cons];lia)];rfl
 walk_at "z"
theorem gv8 {x0 x1 x2 x3 x4 x5 x6 x7:Option V}{v:V}{ρ:List (Option V)}{H:List aE}:getVar 8 ⟨x0::x1::x2::x3::x4::x5::x6::x7::some v::ρ,H⟩=some (some v,⟨x0::x1::x2::x3::x4::x5::x6::x7::some v::ρ,H⟩):=by
 walk_at "a"
 cases H<;>rfl
 walk_at "z"
theorem sv8 {x0 x1 x2 x3 x4 x5 x6 x7:Option V}{y:Option V}{v:V}{ρ:List (Option V)}{H:List aE}:aJ 8 v ⟨x0::x1::x2::x3::x4::x5::x6::x7::y::ρ,H⟩=some (some (),⟨x0::x1::x2::x3::x4::x5::x6::x7::some v::ρ,H⟩):=by
 walk_at "a"
 unfold aJ;rw [if_pos (by simp only [List.length_cons];lia)];rfl
 walk_at "z"
theorem gv9 {x0 x1 x2 x3 x4 x5 x6 x7 x8:Option V}{v:V}{ρ:List (Option V)}{H:List aE}:getVar 9 ⟨x0::x1::x2::x3::x4::x5::x6::x7::x8::some v::ρ,H⟩=some (some v,⟨x0::x1::x2::x3::x4::x5::x6::x7::x8::some v::ρ,H⟩):=by
 walk_at "a"
 cases H<;>rfl
 walk_at "z"
theorem sv9 {x0 x1 x2 x3 x4 x5 x6 x7 x8:Option V}{y:Option V}{v:V}{ρ:List (Option V)}{H:List aE}:aJ 9 v ⟨x0::x1::x2::x3::x4::x5::x6::x7::x8::y::ρ,H⟩=some (some (),⟨x0::x1::x2::x3::x4::x5::x6::x7::x8::some v::ρ,H⟩):=by
 walk_at "a"
 unfold aJ;rw [if_pos (by simp only [List.length_cons];lia)];rfl
 walk_at "z"
section
variable {K:Frag}{Γ:CT}
noncomputable def contB {α β:Type}(o:Option α)(f:α→M β)(σ1:St)(r:Option (Option β×St)):Prop:=match o with | some y=>f y σ1=r | none=>r=some (none,σ1)
noncomputable def contS (o:Option Fl)(y:M Fl)(σ1:St)(r:Option (Option Fl×St)):Prop:=match o with | some .next=>y σ1=r | o=>r=some (o,σ1)
theorem r_bind {α β:Type}{x:M α}{f:α→M β}{σ σ1:St}{o:Option α}{r:Option (Option β×St)}(h:x σ=some (o,σ1))(k:contB o f σ1 r):(x.bind f) σ=r:=by
 cases o with
 | none=>rw [M.bind_raise h];exact k.symm
 | some y=>rw [M.bind_val h];exact k
theorem k_some {α β:Type}{y:α}{f:α→M β}{σ1:St}{r:Option (Option β×St)}(k:f y σ1=r):contB (some y) f σ1 r:=k
theorem k_none {α β:Type}{f:α→M β}{σ1:St}:contB none f σ1 (some (none,σ1)):=rfl
theorem gG {x y:M Fl}{σ σ1:St}{o:Option Fl}{r:Option (Option Fl×St)}(h:x σ=some (o,σ1))(k:contS o y σ1 r):aF x y σ=r:=by
 walk_at "a"
 rw [then_app,h]
 unfold contS at k
 cases o with
 | none=>exact k.symm
 | some f=>cases f<;>first | exact k | exact k.symm
 walk_at "z"
theorem gO {y:M Fl}{σ:St}{r:Option (Option Fl×St)}(k:y σ=r):contS (some .next) y σ r:=k
theorem n_ret {y:M Fl}{σ:St}{v:V}:contS (some (.ret v)) y σ (some (some (.ret v),σ)):=rfl
theorem n_cont {y:M Fl}{σ:St}:contS (some .cont) y σ (some (some .cont,σ)):=rfl
theorem n_brk {y:M Fl}{σ:St}:contS (some .brk) y σ (some (some .brk,σ)):=rfl
theorem n_none {y:M Fl}{σ:St}:contS none y σ (some (none,σ)):=rfl
theorem r_t {α:Type}{c:Bool}{x y:M α}{σ:St}{r:Option (Option α×St)}(h:c=true)(k:x σ=r):bD c x y σ=r:=by rw [h,if_t];exact k
theorem r_f {α:Type}{c:Bool}{x y:M α}{σ:St}{r:Option (Option α×St)}(h:c=false)(k:y σ=r):bD c x y σ=r:=by
 walk_at "a"
 rw [h,if_f];exact k
 walk_at "z"
theorem r_bi0 {id:String}{xs:M (List V)}{σ:St}{r:Option (Option V×St)}(k:(xs.bind fun vs=>bG K id vs) σ=r):aC K Γ (.bi id) [] xs σ=r:=by rw [at_bi];exact k
theorem r_bi1 {id:String}{u:V}{xs:M (List V)}{σ:St}{r:Option (Option V×St)}(k:(xs.bind fun vs=>bG K id (u::vs)) σ=r):aC K Γ (.bi id) [u] xs σ=r:=by rw [at_bi];exact k
theorem r_const0 {f:Addr}{xs:M (List V)}{σ:St}{r:Option (Option V×St)}(k:(xs.bind fun vs=>callC Γ f vs) σ=r):aC K Γ (.const f) [] xs σ=r:=by rw [at_const];exact k
theorem r_const1 {f:Addr}{u:V}{xs:M (List V)}{σ:St}{r:Option (Option V×St)}(k:(xs.bind fun vs=>callC Γ f (u::vs)) σ=r):aC K Γ (.const f) [u] xs σ=r:=by rw [at_const];exact k
theorem r_pbi1 {id:String}{u:V}{xs:M (List V)}{σ:St}{r:Option (Option V×St)}(k:(xs.bind fun vs=>bG K id (u::vs)) σ=r):aC K Γ ((V.bi id,[u]):V×List V).1 ((V.bi id,[u]):V×List V).2 xs σ=r:=by
 walk_at "a"
 exact r_bi1 k
 walk_at "z"
theorem r_pconst0 {f:Addr}{xs:M (List V)}{σ:St}{r:Option (Option V×St)}(k:(xs.bind fun vs=>callC Γ f vs) σ=r):aC K Γ ((V.const f,[]):V×List V).1 ((V.const f,[]):V×List V).2 xs σ=r:=by
 walk_at "a"
 exact r_const0 k
 walk_at "z"
theorem r_pconst1 {f:Addr}{u:V}{xs:M (List V)}{σ:St}{r:Option (Option V×St)}(k:(xs.bind fun vs=>callC Γ f (u::vs)) σ=r):aC K Γ ((V.const f,[u]):V×List V).1 ((V.const f,[u]):V×List V).2 xs σ=r:=by
 walk_at "a"
 exact r_const1 k
 walk_at "z"
theorem r_pv0 {f:Addr}{us:List V}{σ:St}{r:Option (Option V×St)}(k:callC Γ f us σ=r):bU K Γ ((V.const f,us):V×List V).1 ((V.const f,us):V×List V).2 σ=r:=by rw [v0_const];exact k
theorem r_pv0b {id:String}{us:List V}{σ:St}{r:Option (Option V×St)}(k:bG K id us σ=r):bU K Γ ((V.bi id,us):V×List V).1 ((V.bi id,us):V×List V).2 σ=r:=by rw [v0_bi];exact k
theorem r_ty {T:String}{xs:M (List V)}{σ:St}{r:Option (Option V×St)}(k:(xs.bind fun vs=>callT T vs) σ=r):aC K Γ (.ty T) [] xs σ=r:=by rw [at_ty];exact k
theorem r_v0 {f:Addr}{first:List V}{σ:St}{r:Option (Option V×St)}(k:callC Γ f first σ=r):bU K Γ (.const f) first σ=r:=by rw [v0_const];exact k
theorem r_v0b {id:String}{first:List V}{σ:St}{r:Option (Option V×St)}(k:bG K id first σ=r):bU K Γ (.bi id) first σ=r:=by
 walk_at "a"
 rw [v0_bi];exact k
 walk_at "z"
theorem r_st {f:V→M Unit}{fs:List (V→M Unit)}{v:V}{vs:List V}{σ:St}{r:Option (Option Unit×St)}(k:((f v).bind fun _=>dA fs vs) σ=r):dA (f::fs) (v::vs) σ=r:=by
 walk_at "a"
 rw [st_cons];exact k
 walk_at "z"
theorem r_rev2 {fs:List (V→M Unit)}{a b:V}{σ:St}{r:Option (Option Unit×St)}(k:dA fs [b,a] σ=r):dA fs (List.reverse [a,b]) σ=r:=k
theorem r_rev3 {fs:List (V→M Unit)}{a b c:V}{σ:St}{r:Option (Option Unit×St)}(k:dA fs [c,b,a] σ=r):dA fs (List.reverse [a,b,c]) σ=r:=k
theorem rb {β:Type}{r:Option (Option β×St)}{σ σ1:St}{α:Type}{y:α}{x:M α}{f:α→M β}(h:x σ=some (some y,σ1))(k:f y σ1=r):(x.bind f) σ=r:=r_bind h k
theorem rb0 {β:Type}{σ σ1:St}{α:Type}{x:M α}{f:α→M β}(h:x σ=some (none,σ1)):(x.bind f) σ=some (none,σ1):=r_bind h k_none
theorem rt {r:Option (Option Fl×St)}{y:M Fl}{σ σ1:St}{x:M Fl}(h:x σ=some (some .next,σ1))(k:y σ1=r):aF x y σ=r:=gG h (gO k)
theorem rtt {α:Type}{r:Option (Option α×St)}{σ:St}{x y:M α}{c:Bool}(h:c=true)(k:x σ=r):bD c x y σ=r:=r_t h k
theorem rff {α:Type}{r:Option (Option α×St)}{σ:St}{x y:M α}{c:Bool}(h:c=false)(k:y σ=r):bD c x y σ=r:=r_f h k
theorem r_call {f:Addr}{vs:List V}{r:Option V}{H H':List aE}{ρ:List (Option V)}(h:Γ f vs H=some (r,H')):callC Γ f vs ⟨ρ,H⟩=some (r,⟨ρ,H'⟩):=callC_of h
end
end
end Mine
end
example : True := by
  run_tac do
    let A := Lean.mkAppN
    let C := fun (n : Lean.Name) => Lean.mkConst n
    let old ← PySem.W.leftPieces.get
    let runR ← IO.mkRef (fun (_ : Lean.MVarId) => (pure [] : Lean.MetaM (List Lean.MVarId)))
    let St := C ``Mine.St
    let oS := fun (α : Lean.Expr) => A (.const ``Option [0]) #[A (.const ``Prod [0, 0]) #[A (.const ``Option [0]) #[α], St]]
    let pr := fun (α o σ : Lean.Expr) => A (.const ``Option.some [0]) #[A (.const ``Prod [0, 0]) #[A (.const ``Option [0]) #[α], St], A (.const ``Prod.mk [0, 0]) #[A (.const ``Option [0]) #[α], St, o, σ]]
    let eqn := fun (α a b : Lean.Expr) => A (.const ``Eq [1]) #[oS α, a, b]
    let sub := fun (α x σ : Lean.Expr) => show Lean.MetaM (Lean.Expr × Lean.Expr × Lean.Expr × List Lean.MVarId) from do
      let o ← Lean.Meta.mkFreshExprMVar (A (.const ``Option [0]) #[α])
      let σ1 ← Lean.Meta.mkFreshExprMVar St
      let h ← Lean.Meta.mkFreshExprSyntheticOpaqueMVar (eqn α (Lean.Expr.app x σ).headBeta (pr α o σ1))
      let l ← (← runR.get) h.mvarId!
      return (← Lean.instantiateMVars o, ← Lean.instantiateMVars σ1, h, l)
    let goalOf := fun (t : Lean.Expr) => Lean.Meta.mkFreshExprSyntheticOpaqueMVar t
    let asm := fun (t : Lean.Expr) => show Lean.MetaM (Option Lean.Expr) from do
      let t ← Lean.instantiateMVars t
      for d in (← Lean.getLCtx).decls.toArray.reverse do
        if let some d := d then
          unless d.isImplementationDetail do
            if ← Lean.Meta.isDefEq d.type t then return some d.toExpr
      return none
    let leaf := fun (g : Lean.MVarId) (t : Lean.Expr) (hd : Lean.Name) (c : Lean.Expr) (mode : Nat) => show Lean.MetaM (Option (List Lean.MVarId)) from do
      let ty ← Lean.instantiateMVars (← Lean.Meta.inferType c)
      let b := ty.getForallBody
      unless b.isAppOfArity ``Eq 3 do return none
      let l := b.appFn!.appArg!.getAppFn
      if l.isConst then
        unless l.constName! == hd do return none
      else if l.isFVar then
        unless hd == `fvar do return none
      else if l.isBVar then
        if mode != 9 then return none
      let (ms, _, concl) ← Lean.Meta.forallMetaTelescope ty
      unless ← Lean.Meta.isDefEq concl t do return none
      let mut left := []
      for m in ms do
        unless ← m.mvarId!.isAssigned do
          let mt ← Lean.instantiateMVars (← m.mvarId!.getType)
          if ← Lean.Meta.isProp mt then
            match mode with
            | 1 => match ← asm mt with
              | some p => m.mvarId!.assign p
              | none => return none
            | 2 =>
              let p ← Lean.Meta.mkDecideProof mt
              m.mvarId!.assign p
            | 3 =>
              m.mvarId!.setKind .syntheticOpaque
              left := left ++ [m.mvarId!]
            | _ => return none
      g.assign (A c ms)
      return some left
    let N := fun (s : String) => (s.splitOn " ").map fun x => Lean.Name.str `Mine x
    let L0 : List Lean.Name := (N "bF gv0 gv1 gv2 gv3 gv4 gv5 gv6 gv7 sv0 sv1 sv2 sv3 sv4 sv5 sv6 sv7")
    let L1 : List (Lean.Name × Nat) := (N "tru c_eqS c_neS c_eqI c_neI c_ltI c_leI c_gtI c_geI c_leS c_isNN c_isNI c_isNT c_inNN c_inNI c_inNT b_addI b_subI i_addI i_subI neg_I own_app st_nil in_tup2 in_lst2 chr92 chr34 chr10 it0 it1 int_b if_b isi_S isi_T itl0 c_neL0 c_neL1 c_neTS").map (·, 0) ++ (N "b_addS i_addS sl_ss sl_sn sl_ns len_S").map (·, 1) ++ [(`Mine.mk_tup, 2), (`Mine.mk_lst, 2), (`Mine.unp2, 0), (`Mine.unp3, 0), (`Mine.r_st, 3), (`Mine.r_rev2, 3), (`Mine.r_rev3, 3)]
    let one := fun (g : Lean.MVarId) => show Lean.MetaM (Option (List Lean.MVarId)) from g.withContext do
      let t := (← Lean.instantiateMVars (← g.getType)).cleanupAnnotations
      if t.isAppOf ``Mine.contB || t.isAppOf ``Mine.contS then
        for n in [``Mine.k_some, ``Mine.k_none, ``Mine.gO, ``Mine.n_ret, ``Mine.n_cont, ``Mine.n_brk, ``Mine.n_none] do
          let c := C n
          let ty ← Lean.Meta.inferType c
          let (ms, _, concl) ← Lean.Meta.forallMetaTelescope ty
          if ← Lean.Meta.isDefEq concl t then
            let mut left := []
            for m in ms do
              unless ← m.mvarId!.isAssigned do
                if ← Lean.Meta.isProp (← m.mvarId!.getType) then
                  m.mvarId!.setKind .syntheticOpaque
                  m.mvarId!.setType (← Lean.instantiateMVars (← m.mvarId!.getType)).headBeta
                  left := left ++ [m.mvarId!]
            g.assign (A c ms)
            return some left
        return none
      unless t.isAppOfArity ``Eq 3 do return none
      let lhs := t.appFn!.appArg!
      let lhs := lhs.headBeta
      let r := t.appArg!
      let t := A t.getAppFn #[t.getAppArgs[0]!, lhs, r]
      let fn := lhs.getAppFn
      let a := lhs.getAppArgs
      let hd := if fn.isConst then fn.constName! else `fvar
      let two := fun (α β x f σ : Lean.Expr) (wrap : Lean.Expr → Lean.Expr) => show Lean.MetaM (Option (List Lean.MVarId)) from do
        let (o, σ1, h, l) ← sub α x σ
        if l.isEmpty then
          if o.isAppOfArity ``Option.some 2 then
            let y := o.appArg!
            let k ← goalOf (eqn β (Lean.mkApp2 f y σ1).headBeta r)
            g.assign (wrap (A (C ``Mine.rb) #[β, r, σ, σ1, α, y, x, f, h, k]))
            return some [k.mvarId!]
          if o.isAppOf ``Option.none then
            if ← Lean.Meta.isDefEq r (pr β (A (.const ``Option.none [0]) #[β]) σ1) then
              g.assign (wrap (A (C ``Mine.rb0) #[β, σ, σ1, α, x, f, h]))
              return some []
        let k ← goalOf (A (C ``Mine.contB) #[α, β, o, f, σ1, r])
        g.assign (wrap (A (C ``Mine.r_bind) #[α, β, x, f, σ, σ1, o, r, h, k]))
        return some (l ++ [k.mvarId!])
      if hd == ``Mine.M.bind && a.size == 5 then
        return ← two a[0]! a[1]! a[2]! a[3]! a[4]! id
      if hd == ``Mine.aF && a.size == 3 then
        let x := a[0]!; let y := a[1]!; let σ := a[2]!
        let (o, σ1, h, l) ← sub (C ``Mine.Fl) x σ
        if l.isEmpty then
          if o.isAppOfArity ``Option.some 2 && o.appArg!.isConstOf ``Mine.Fl.next then
            let k ← goalOf (eqn (C ``Mine.Fl) (Lean.Expr.app y σ1).headBeta r)
            g.assign (A (C ``Mine.rt) #[r, y, σ, σ1, x, h, k])
            return some [k.mvarId!]
        let k ← goalOf (A (C ``Mine.contS) #[o, y, σ1, r])
        g.assign (A (C ``Mine.gG) #[x, y, σ, σ1, o, r, h, k])
        return some (l ++ [k.mvarId!])
      for n in L0 do
        if let some l ← leaf g t hd (C n) 0 then return some l
      let mut seen : Lean.NameSet := {}
      for d in (← Lean.getLCtx).decls.toArray.reverse do
        if let some d := d then
          let s := d.userName.toString
          if s.length ≤ 3 && s.startsWith "q" && (s.drop 1).all Char.isDigit && !seen.contains d.userName then
            seen := seen.insert d.userName
            if let some l ← leaf g t hd d.toExpr 0 then return some l
      let env ← Lean.getEnv
      for (n, m) in L1 do
        if env.contains n then
         if let some l ← leaf g t hd (C n) m then return some l
      if hd == ``Mine.bD && a.size == 5 then
        for (b, n) in [(C ``Bool.true, ``Mine.rtt), (C ``Bool.false, ``Mine.rff)] do
          let ct := A (.const ``Eq [1]) #[C ``Bool, a[1]!, b]
          let p ← if ← Lean.Meta.isDefEq a[1]! b then pure (some (A (.const ``Eq.refl [1]) #[C ``Bool, b])) else asm ct
          if let some p := p then
            let k ← goalOf (eqn a[0]! (Lean.Expr.app (if n == ``Mine.rtt then a[2]! else a[3]!) a[4]!).headBeta r)
            g.assign (A (C n) #[a[0]!, r, a[4]!, a[2]!, a[3]!, a[1]!, p, k])
            return some [k.mvarId!]
        return none
      if hd == ``Mine.aC && a.size == 6 then
        let f ← Lean.Meta.whnfR a[2]!
        let us ← Lean.Meta.whnfR a[3]!
        let Vt := C ``Mine.V
        let Lt := A (.const ``List [0]) #[Vt]
        let u? := if us.isAppOfArity ``List.cons 3 then some us.appFn!.appArg! else none
        let vs := match u? with | none => Lean.Expr.bvar 0 | some u => A (.const ``List.cons [0]) #[Vt, u, .bvar 0]
        let (body, n, ar) : Lean.Expr × Lean.Name × Array Lean.Expr := match f.getAppFn.constName? with
          | some ``Mine.V.bi => (A (C ``Mine.bG) #[a[0]!, f.appArg!, vs], if u?.isNone then ``Mine.r_bi0 else ``Mine.r_bi1, #[a[0]!, a[1]!, f.appArg!])
          | some ``Mine.V.const => (A (C ``Mine.callC) #[a[1]!, f.appArg!, vs], if u?.isNone then ``Mine.r_const0 else ``Mine.r_const1, #[a[0]!, a[1]!, f.appArg!])
          | some ``Mine.V.ty => (A (C ``Mine.callT) #[f.appArg!, vs], if u?.isNone then ``Mine.r_ty else .anonymous, #[a[0]!, a[1]!, f.appArg!])
          | _ => (vs, .anonymous, #[])
        if n.isAnonymous then return none
        let fE := Lean.Expr.lam `vs Lt body .default
        let ar := match u? with | none => ar | some u => ar.push u
        return ← two Lt Vt a[4]! fE a[5]! (fun p => A (C n) (ar ++ #[a[4]!, a[5]!, r, p]))
      if hd == ``Mine.bU && a.size == 5 then
        let f ← Lean.Meta.whnfR a[2]!
        let us ← Lean.Meta.whnfR a[3]!
        match f.getAppFn.constName? with
        | some ``Mine.V.bi =>
          let k ← goalOf (eqn (C ``Mine.V) (A (C ``Mine.bG) #[a[0]!, f.appArg!, us, a[4]!]) r)
          g.assign (A (C ``Mine.r_v0b) #[a[0]!, a[1]!, f.appArg!, us, a[4]!, r, k])
          return some [k.mvarId!]
        | some ``Mine.V.const =>
          let k ← goalOf (eqn (C ``Mine.V) (A (C ``Mine.callC) #[a[1]!, f.appArg!, us, a[4]!]) r)
          g.assign (A (C ``Mine.r_v0) #[a[0]!, a[1]!, f.appArg!, us, a[4]!, r, k])
          return some [k.mvarId!]
        | _ => return none
      if hd == ``Mine.callC then
        return ← leaf g t hd (C ``Mine.r_call) 3
      return none
    runR.set fun g => do
      let mut todo := [g]
      let mut go := true
      while go do
        match todo with
        | [] => go := false
        | g1 :: more =>
          if ← g1.isAssigned then todo := more
          else
            let s ← Lean.Meta.saveState
            let res ← try one g1 catch _ => do s.restore; pure none
            match res with
            | none => s.restore; go := false
            | some gs => todo := gs ++ more
      return todo
    PySem.W.leftPieces.set (some fun g e p ns => do
      if ns == ["s"] then Lean.Meta.withReducible do
        let l ← (← runR.get) g
        if l == [g] then throwError "no step"
      else if let some f := old then f g e p ns)
  trivial
section
namespace Mine
theorem close_at {H H1:List aE}{i:Nat}{o':aE}(hlen:H.length≤H1.length)(hj:∀ j,j<H.length→j≠i→H1[j]? = H[j]?)(ho:o'=.dT∨(H1[i]? = some o'∧o'.fit H.length=true)):cX H H1 (H.set i o'):=by
 walk_at "a"
 refine ⟨by simpa using hlen,fun j o h=>?_⟩
 rw [List.getElem?_set] at h
 split at h
 ·rename_i e
  subst e
  split at h
  ·cases h
   rcases ho with ho | ⟨h1,h2⟩
   ·exact .inl ho
   ·exact .inr ⟨h1,.inr (by rw [List.length_set];exact h2)⟩
  ·cases h
 ·rename_i e
  have hl:=(List.getElem?_eq_some_iff.mp h).1
  exact .inr ⟨(hj j hl (Ne.symm e)).trans h,.inl h⟩
 walk_at "z"
theorem close_cut {H H1:List aE}(hlen:H.length≤H1.length)(hj:∀ j,j<H.length→H1[j]? = H[j]?):cX H H1 H :=
 ⟨hlen,fun j o h=>.inr ⟨(hj j (List.getElem?_eq_some_iff.mp h).1).trans h,.inl h⟩⟩
theorem fW {H:List aE}{i j:Nat}{o:aE}(h:j≠i):(H.set i o)[j]? = H[j]? := by rw [List.getElem?_set_ne (Ne.symm h)]
theorem cE {H H1 H':List aE}{v u:V}(c:cX H H1 H')(f:Fz H1 H'.length v u):Ends0 (some (.ret v)) H H1 (some u,H'):=⟨c,f⟩
theorem ends_next {H H1 H':List aE}(c:cX H H1 H'):Ends0 (some .next) H H1 (some .none,H'):=⟨c,rfl⟩
theorem iO {H H1 H':List aE}(c:cX H H1 H'):Ends0 none H H1 (none,H'):=⟨c,trivial⟩
noncomputable def lexN:List Str:=[Str.ofString "tokens",Str.ofString "nest",Str.ofString "spaced",Str.ofString "begin",Str.ofString "def_nest"]
structure Sc (H:List aE)(i:Nat)(C:Addr)(l:List Nat)(a ln:Nat)(rest:List (Str×V)):Prop where
 at_:H[i]? = some (aP C l a ln rest)
 ok:okC C
 hl:l.length≤60
 ha:a≤1000
 hr:rest.length≤50
 hk:rest.map (·.1)=[]∨rest.map (·.1)=lexN
 hf:V.gR H.length rest=true
noncomputable def ScA (n:Nat)(p:Addr×List (Str×V))(t:Str)(a ln:Int):Prop:=p.2=cB t.cps.toList a.toNat ln.toNat (p.2.drop 3)∧okC p.1∧t.length≤60∧a≤1000∧(p.2.drop 3).length≤50∧((p.2.drop 3).map (·.1)=[]∨(p.2.drop 3).map (·.1)=lexN)∧V.gR n (p.2.drop 3)=true
open Classical in
noncomputable def scanT (n:Nat)(p:Addr×List (Str×V))(t:Str)(a ln:Int):Option (Addr×List Nat×Nat×Nat×List (Str×V)):=if ScA n p t a ln then some (p.1,t.cps.toList,a.toNat,ln.toNat,p.2.drop 3) else none
theorem scanT_e {n:Nat}{p:Addr×List (Str×V)}{t:Str}{a ln:Int}{q:Addr×List Nat×Nat×Nat×List (Str×V)}(h:scanT n p t a ln=some q):ScA n p t a ln∧(p.1,t.cps.toList,a.toNat,ln.toNat,p.2.drop 3)=q:=by
 walk_at "a"
 unfold scanT at h
 split at h
 ·exact ⟨‹_›,Option.some.inj h⟩
 ·cases h
 walk_at "z"
noncomputable def scanOf (n:Nat)(o:aE):Option (Addr×List Nat×Nat×Nat×List (Str×V)):=on1 o.inst? (fun p=>on1 ((p.2.lookup (Str.ofString "source")).bind V.eX) (fun t=>on2 ((p.2.lookup (Str.ofString "place")).bind V.int?) ((p.2.lookup (Str.ofString "line")).bind V.int?) (fun a ln=>scanT n p t a ln) none) none) none
theorem Sc.of {H:List aE}{i:Nat}{q:Addr×List Nat×Nat×Nat×List (Str×V)}(h:(H[i]?).bind (scanOf H.length)=some q):Sc H i q.1 q.2.1 q.2.2.1 q.2.2.2.1 q.2.2.2.2:=by
 walk_at "a"
 obtain ⟨o,ho,h⟩:=Option.bind_eq_some_iff.mp h
 refine cK (fun p hp h=>cK (fun t ht h=>on2_n (fun a ln ha hl h=>?_) h) h) h
 obtain ⟨c,rfl⟩:=scanT_e h
 obtain ⟨c1,c2,c3,c4,c5,c6,c7⟩:=c
 exact ⟨by rw [ho,aE.inst?_eq hp];show _=some (aE.inst p.1 _);rw [← c1],c2,by simpa [Str.length] using c3,by show a.toNat≤1000;lia,c5,c6,c7⟩
 walk_at "z"
theorem Sc.to {H:List aE}{i:Nat}{C:Addr}{l:List Nat}{a ln:Nat}{rest:List (Str×V)}(h:Sc H i C l a ln rest):(H[i]?).bind (scanOf H.length)=some (C,l,a,ln,rest):=by
 walk_at "a"
 have e:scanOf H.length (aP C l a ln rest)=scanT H.length (C,cB l a ln rest) (S l) a ln:=rfl
 have c:ScA H.length (C,cB l a ln rest) (S l) a ln:=⟨by simp [cB],h.ok,by rw [cD];exact h.hl,by have:=h.ha;lia,h.hr,h.hk,h.hf⟩
 rw [h.at_,Option.bind_some,e]
 unfold scanT
 rw [if_pos c]
 simp [cB]
 walk_at "z"
theorem Sc.lt {H:List aE}{i:Nat}{C:Addr}{l:List Nat}{a ln:Nat}{rest:List (Str×V)}(h:Sc H i C l a ln rest):i<H.length:=(List.getElem?_eq_some_iff.mp h.at_).1
noncomputable abbrev FC:=Nat→Addr→List Nat→Nat→Nat→List (Str×V)→PC
noncomputable def dW (f:FC):PC:=pO fun i more H=>on1 ((H[i]?).bind (scanOf H.length)) (fun q=>f i q.1 q.2.1 q.2.2.1 q.2.2.2.1 q.2.2.2.2 more H) none
theorem cG {f:FC}{i:Nat}{more:List V}{H:List aE}{C:Addr}{l:List Nat}{a ln:Nat}{rest:List (Str×V)}(h:Sc H i C l a ln rest):dW f (.obj i::more) H=f i C l a ln rest more H:=by
 walk_at "a"
 have e:dW f (.obj i::more) H=on1 ((H[i]?).bind (scanOf H.length)) (fun q=>f i q.1 q.2.1 q.2.2.1 q.2.2.2.1 q.2.2.2.2 more H) none:=rfl
 rw [e,h.to]
 rfl
 walk_at "z"
theorem fD {f:FC}{vs:List V}{H:List aE}{r:Option V×List aE}{G:Prop}(h:dW f vs H=some r)(k:∀ i more C l a ln rest,vs=.obj i::more→Sc H i C l a ln rest→f i C l a ln rest more H=some r→G):G:=by
 walk_at "a"
 exact 
  pO_e h fun i us e h=>cK (fun q hq h=>k i us _ _ _ _ _ e (Sc.of hq) h) h
 walk_at "z"
noncomputable def f_sign:FC:=fun i C l a ln rest more H=>match more with
 | []=>some (some (.str (S ((l.drop a).take 1))),H)
 | v::us=>pI (fun k H=>if 0≤k then some (some (.str (S ((l.drop (a+k.toNat)).take 1))),H) else none) (v::us) H
noncomputable abbrev eJ:=dW f_sign
section
variable {P:Params}{C:Addr}{l:List Nat}{a ln:Nat}{rest:List (Str×V)}{H:List aE}{ρ:List (Option V)}{i:Nat}
theorem run_sign {Γ:CT}{k:Nat}(hC:okC C)(hl:l.length≤1000)(hH:H[i]? = some (aP C l a ln rest)) :
  hV (F.K P) Γ ⟨[some (.obj i),some (.int k),none],H⟩=some (some (.ret (.str (S ((l.drop (a+k)).take 1)))),⟨[some (.obj i),some (.int k),some (.int (a+k:Nat))],H⟩):=by
 walk_at "a"
 have q0:=fun ρ=>get_source (P:=P) (ρ:=ρ) hC hH
 have q1:=fun ρ=>bZ (P:=P) (ρ:=ρ) hC hH
 have q2:∀ σ,bM (.str (S l)) (.int ((a:Int)+k)) (.int ((a:Int)+k+1)) σ=some (some (.str (S ((l.drop (a+k)).take 1))),σ):=fun σ=>by
  have:=sl_ss (l:=l) (a:=a+k) (b:=a+k+1) (σ:=σ) hl
  rw [List.drop_take,Nat.add_sub_cancel_left] at this
  exact this
 show _=some (some (Fl.ret (.str (S ((l.drop (a+k)).take 1)))),(⟨[some (.obj i),some (.int k),some (.int ((a:Int)+k))],H⟩:St))
 unfold hV
 repeat walk_at "s"
 walk_at "z"
end
section
variable {prog:Program}{w:World}{sl:Addr}{sn:List Int}{Γ:CT}{n:Nat}
theorem sign_ok (G:GOK prog w (KK w) (.ref 59) sl sn Γ n):GOK prog w (KK w) (.ref 59) sl sn (ov F.at_Scanner_sign eJ Γ) (n+1):=by
 walk_at "a"
 refine ok_Scanner_sign G fun vs H r h0=>?_
 refine fD h0 fun i more C l a ln rest e hS h=>?_
 subst e
 have hl:l.length≤1000:=Nat.le_trans hS.hl (by decide)
 cases more with
 | nil =>
  cases h
  exact .of (Nat.le_refl _) [.obj i,.int 0] rfl rfl _ _ (run_sign (k:=0) hS.ok hl hS.at_) (cE cX.same (.same rfl))
 | cons v us =>
  have h:pI (fun k H=>if 0≤k then some (some (.str (S ((l.drop (a+k.toNat)).take 1))),H) else none) (v::us) H=some r:=h
  refine pI_e (vs:=v::us) h fun k e2 h2=>fL h2 fun hk h3=>?_
  obtain rfl:=Option.some.inj h3
  rw [e2]
  have:=run_sign (P:=w.params) (Γ:=Γ) (k:=k.toNat) hS.ok hl hS.at_
  rw [show ((k.toNat:Nat):Int)=k by lia] at this
  exact .of (Nat.le_refl _) [.obj i,.int k] rfl rfl _ _ this (cE cX.same (.same rfl))
 walk_at "z"
end
theorem lookup_none {x:Str}:∀ {as:List (Str×V)},(as.map (·.1)).contains x=false→as.lookup x=none
 | [],_=>rfl
 | p::as,h=>by
  rw [List.map_cons,List.contains_cons,Bool.or_eq_false_iff] at h
  simp only [List.lookup,h.1]
  exact lookup_none h.2
noncomputable def scanN:List Str:=[Str.ofString "source",Str.ofString "place",Str.ofString "line"]++lexN
theorem Sc.no {H:List aE}{i:Nat}{C:Addr}{l:List Nat}{a ln:Nat}{rest:List (Str×V)}(h:Sc H i C l a ln rest){x:Str}(hx:scanN.contains x=false):(cB l a ln rest).lookup x=none:=by
 walk_at "a"
 refine lookup_none ?_
 rw [scanN] at hx
 simp only [List.contains_eq_any_beq,List.any_append,Bool.or_eq_false_iff] at hx
 simp only [cB,List.map_cons,List.contains_eq_any_beq]
 rcases h.hk with e | e<;>rw [e]
 ·exact hx.1
 ·have h1:=hx.1
  have h2:=hx.2
  simp only [List.any_cons,List.any_nil,Bool.or_false,Bool.or_eq_false_iff] at h1 ⊢
  exact ⟨h1.1,h1.2.1,h1.2.2,h2⟩
 walk_at "z"
section
variable {P:Params}{C:Addr}{l:List Nat}{a ln:Nat}{rest:List (Str×V)}{H:List aE}{ρ:List (Option V)}{i:Nat}{Γ:CT}
theorem aT (h:Sc H i C l a ln rest){name:Str}{f:Addr}(hm:eR (F.K P) C name=some f)(hx:scanN.contains name=false):getM (F.K P) name (.obj i) ⟨ρ,H⟩=some (some (.const f,[.obj i]),⟨ρ,H⟩) :=
 getM_own h.at_ hm (h.no hx)
theorem dP (h:okC C)(P:Params):eR (F.K P) C (Str.ofString "sign")=some F.at_Scanner_sign:=by
 walk_at "a"
 rcases h with rfl | rfl | rfl<;>kernel_rfl
 walk_at "z"
theorem m_step (h:okC C)(P:Params):eR (F.K P) C (Str.ofString "step")=some F.at_Scanner_step:=by
 walk_at "a"
 rcases h with rfl | rfl | rfl<;>kernel_rfl
 walk_at "z"
theorem m_begins (h:okC C)(P:Params):eR (F.K P) C (Str.ofString "begins")=some F.at_Scanner_begins:=by
 walk_at "a"
 rcases h with rfl | rfl | rfl<;>kernel_rfl
 walk_at "z"
theorem m_name (h:okC C)(P:Params):eR (F.K P) C (Str.ofString "name")=some F.at_Scanner_name:=by
 walk_at "a"
 rcases h with rfl | rfl | rfl<;>kernel_rfl
 walk_at "z"
theorem m_fail (h:okC C)(P:Params):eR (F.K P) C (Str.ofString "fail")=some 182:=by
 walk_at "a"
 rcases h with rfl | rfl | rfl<;>kernel_rfl
 walk_at "z"
noncomputable def aH (Γ:CT)(f:Addr)(p:PC):Prop:=∀ vs H r,p vs H=some r→Γ f vs H=some r
theorem aH.self {f:Addr}{p:PC}:aH (ov f p Γ) f p:=by
 walk_at "a"
 exact fun vs H r h=>by show (if f=f then _ else _)=_;rw [if_pos rfl];exact h
 walk_at "z"
theorem aH.ov {f g:Addr}{p q:PC}(k:aH Γ f p)(h:f≠g):aH (ov g q Γ) f p:=by
 walk_at "a"
 exact fun vs H r e=>by show (if f=g then _ else _)=_;rw [if_neg h];exact k vs H r e
 walk_at "z"
theorem callV0_of {f:Addr}{vs:List V}{r:Option V}{H':List aE}{ρ:List (Option V)}(h:Γ f vs H=some (r,H')):bU (F.K P) Γ (.const f) vs ⟨ρ,H⟩=some (r,⟨ρ,H'⟩):=by
 walk_at "a"
 exact callC_of h
 walk_at "z"
theorem Sc.put (h:Sc H i C l a ln rest){b m:Nat}(hb:b≤1000):Sc (H.set i (aP C l b m rest)) i C l b m rest:=by
 walk_at "a"
 exact 
  ⟨by rw [List.getElem?_set_self h.lt],h.ok,h.hl,hb,h.hr,h.hk,by rw [List.length_set];exact h.hf⟩
 walk_at "z"
theorem Sc.fit {b m:Nat}(h:Sc H i C l a ln rest):(aP C l b m rest).fit H.length=true:=by
 simpa [cB,aE.fit,V.gR,V.fit] using h.hf
theorem Sc.close {b m:Nat}(h:Sc H i C l a ln rest):cX H (H.set i (aP C l b m rest)) (H.set i (aP C l b m rest)):=by
 walk_at "a"
 exact 
  close_at (by simp) (fun j _ hj=>fW hj) (.inr ⟨by rw [List.getElem?_set_self h.lt],h.fit⟩)
 walk_at "z"
noncomputable def nl (s:List Nat):Nat:=if s=[10] then 1 else 0
noncomputable def f_step:FC:=fun i C l a ln rest=>pN fun H=>if a≤900 then some (some (.str (S ((l.drop a).take 1))),H.set i (aP C l (a+1) (ln+nl ((l.drop a).take 1)) rest)) else none
noncomputable abbrev gN:=dW f_step
theorem run_step (h:Sc H i C l a ln rest)(ha:a≤900)(k:aH Γ F.at_Scanner_sign eJ) :
  hU (F.K P) Γ ⟨[some (.obj i),none],H⟩=some (some (.ret (.str (S ((l.drop a).take 1)))),⟨[some (.obj i),some (.str (S ((l.drop a).take 1)))],H.set i (aP C l (a+1) (ln+nl ((l.drop a).take 1)) rest)⟩):=by
 walk_at "a"
 have q0:=k [.obj i] H _ (cG (f:=f_sign) (more:=[]) h)
 have q1:=fun ρ=>aT (ρ:=ρ) h (dP h.ok P) (by decide)
 have hr:rest.length≤100:=Nat.le_trans h.hr (by decide)
 have hn:Str.ofString "\n"=S [10]:=by decide
 have h1:Sc (H.set i (aP C l a (ln+1) rest)) i C l a (ln+1) rest:=h.put (by lia)
 have q2:=fun ρ=>get_line (P:=P) (ρ:=ρ) h.ok h.at_
 have q3:∀ ρ,dN (F.K P) (Str.ofString "line") (.obj i) (.int ((ln:Int)+1)) ⟨ρ,H⟩=some (some (),⟨ρ,H.set i (aP C l a (ln+1) rest)⟩):=fun ρ=>set_line h.ok hr h.at_ (ln+1)
 have q4:=fun ρ=>bZ (P:=P) (ρ:=ρ) h.ok h.at_
 have q5:∀ ρ,dN (F.K P) (Str.ofString "place") (.obj i) (.int ((a:Int)+1)) ⟨ρ,H⟩=some (some (),⟨ρ,H.set i (aP C l (a+1) ln rest)⟩):=fun ρ=>fV h.ok hr h.at_ (a+1)
 have q6:=fun ρ=>bZ (P:=P) (ρ:=ρ) h.ok h1.at_
 have q7:∀ ρ,dN (F.K P) (Str.ofString "place") (.obj i) (.int ((a:Int)+1)) ⟨ρ,H.set i (aP C l a (ln+1) rest)⟩=some (some (),⟨ρ,H.set i (aP C l (a+1) (ln+1) rest)⟩):=fun ρ=>by
  have:=fV (P:=P) (ρ:=ρ) h.ok hr h1.at_ (a+1)
  rw [List.set_set] at this
  exact this
 unfold hU
 rw [hn]
 by_cases q:(l.drop a).take 1=[10]
 ·have f1:(S ((l.drop a).take 1)==S [10])=true:=by rw [S_beq,q];rfl
  rw [show nl ((l.drop a).take 1)=1 from if_pos q]
  repeat walk_at "s"
 ·have f1:(S ((l.drop a).take 1)==S [10])=false:=by rw [S_beq];simpa using q
  rw [show ln+nl ((l.drop a).take 1)=ln from congrArg (ln + ·) (if_neg q)]
  repeat walk_at "s"
 walk_at "z"
section
variable {prog:Program}{w:World}{sl:Addr}{sn:List Int}{n:Nat}
theorem step_ok (G:GOK prog w (KK w) (.ref 59) sl sn Γ n)(k:aH Γ F.at_Scanner_sign eJ):GOK prog w (KK w) (.ref 59) sl sn (ov F.at_Scanner_step gN Γ) (n+1):=by
 walk_at "a"
 refine ok_Scanner_step G fun vs H r h0=>?_
 refine fD h0 fun i more C l a ln rest e hS h1x=>pN_e h1x fun e2 h2x=>fL h2x fun ha h=>?_
 subst e2 e
 obtain rfl:=Option.some.inj h
 exact .of (by simp) [.obj i] rfl rfl _ _ (run_step hS ha k) (cE hS.close (.same rfl))
 walk_at "z"
end
noncomputable def f_begins:FC:=fun i C l a ln rest=>pS fun t H=>if t.length≤100 then some (some (.bool ((l.drop a).take t.length==t.cps.toList)),H) else none
noncomputable abbrev p_begins:=dW f_begins
theorem run_begins (h:Sc H i C l a ln rest){t:Str}(ht:t.length≤100) :
  gA (F.K P) Γ ⟨[some (.obj i),some (.str t)],H⟩=some (some (.ret (.bool ((l.drop a).take t.length==t.cps.toList))),⟨[some (.obj i),some (.str t)],H⟩):=by
 walk_at "a"
 have hl:=h.hl
 have q0:=fun ρ=>get_source (P:=P) (ρ:=ρ) h.ok h.at_
 have q1:=fun ρ=>bZ (P:=P) (ρ:=ρ) h.ok h.at_
 have e:t=S t.cps.toList:=by simp
 have hn:t.length=t.cps.toList.length:=by simp [Str.length]
 rw [hn] at ht ⊢
 generalize t.cps.toList=u at e ht ⊢
 subst e
 have q2:∀ σ,bM (.str (S l)) (.int (a:Int)) (.int ((a:Int)+u.length)) σ=some (some (.str (S ((l.drop a).take u.length))),σ):=fun σ=>by
  have:=sl_ss (l:=l) (a:=a) (b:=a+u.length) (σ:=σ) (by lia)
  rw [List.drop_take,Nat.add_sub_cancel_left] at this
  exact this
 have q3:u.length≤1000:=by lia
 rw [← S_beq]
 unfold gA
 repeat walk_at "s"
 walk_at "z"
section
variable {prog:Program}{w:World}{sl:Addr}{sn:List Int}{n:Nat}
theorem begins_ok (G:GOK prog w (KK w) (.ref 59) sl sn Γ n):GOK prog w (KK w) (.ref 59) sl sn (ov F.at_Scanner_begins p_begins Γ) (n+1):=by
 walk_at "a"
 refine ok_Scanner_begins G fun vs H r h0=>?_
 refine fD h0 fun i more C l a ln rest e hS h1x=>pS_e h1x fun t e2 h2x=>fL h2x fun ht h=>?_
 subst e2 e
 obtain rfl:=Option.some.inj h
 exact .of (Nat.le_refl _) [.obj i,.str t] rfl rfl _ _ (run_begins hS ht) (cE cX.same (.same rfl))
 walk_at "z"
end
end
end Mine
end
section
namespace Mine
theorem while_step {n:Nat}{c:M Bool}{b:M Fl}{σ σ1:St}(hc:c σ=some (some true,σ1)):cW (n+1) c b σ=(b.bind (afterM (cW n c b))) σ1:=by
 walk_at "a"
 show (c.bind _) σ=_
 rw [bind_app,hc];rfl
 walk_at "z"
theorem dX {n:Nat}{c:M Bool}{b:M Fl}{σ σ1:St}(hc:c σ=some (some false,σ1)):cW (n+1) c b σ=some (some .next,σ1):=by
 show (c.bind _) σ=_
 rw [bind_app,hc];rfl
theorem dK {n:Nat}{c:M Bool}{b:M Fl}{σ σ1 σ2:St}(hc:c σ=some (some true,σ1))(hb:b σ1=some (some .next,σ2)):cW (n+1) c b σ=cW n c b σ2:=by
 walk_at "a"
 rw [while_step hc,bind_app,hb];rfl
 walk_at "z"
noncomputable def innerL:List Nat:=[97,98,99,100,101,102,103,104,105,106,107,108,109,110,111,112,113,114,115,116,117,118,119,120,121,122,
 65,66,67,68,69,70,71,72,73,74,75,76,77,78,79,80,81,82,83,84,85,86,87,88,89,90,95,48,49,50,51,52,53,54,55,56,57]
noncomputable def aG (c:Nat):Bool:=innerL.contains c
theorem inner_at (P:Params):okCls (F.K P) 128 (Str.ofString "inner")=some 122:=by kernel_rfl
theorem inner_tab (P:Params):∃ es,tabK (F.K P) 122=some es∧es.map (·.1)=innerL.map fun c=>S [c]:=⟨_,rfl,by kernel_rfl⟩
theorem inKeys_map {c:Str}:∀ {es:List (Str×V)},inKeys c es=(es.map (·.1)).contains c
 | []=>rfl
 | p::es=>by
  rw [List.map_cons,List.contains_cons,← inKeys_map]
  rfl
theorem contains_S1 {c:Nat}:∀ (L:List Nat),(L.map fun c=>S [c]).contains (S [c])=L.contains c
 | []=>rfl
 | d::L=>by
  rw [List.map_cons,List.contains_cons,List.contains_cons,contains_S1 L,S_beq]
  congr 1
  by_cases h:c=d<;>simp [h]
theorem contains_S0:∀ (L:List Nat),(L.map fun c=>S [c]).contains (S [])=false
 | []=>rfl
 | d::L=>by
  rw [List.map_cons,List.contains_cons,contains_S0 L,S_beq]
  rfl
theorem in_inner {P:Params}{c:Nat}:cmpD (F.K P) .In (.str (S [c])) (.const 122)=M.ret (.bool (aG c)):=by
 walk_at "a"
 obtain ⟨es,h1,h2⟩:=inner_tab P
 have:fN (F.K P) (.const 122)=some es:=h1
 rw [cmpD_tab this,inKeys_map,h2,contains_S1]
 rfl
 walk_at "z"
theorem in_inner0 {P:Params}:cmpD (F.K P) .In (.str (S [])) (.const 122)=M.ret (.bool false):=by
 walk_at "a"
 obtain ⟨es,h1,h2⟩:=inner_tab P
 have:fN (F.K P) (.const 122)=some es:=h1
 rw [cmpD_tab this,inKeys_map,h2,contains_S0]
 walk_at "z"
theorem get_inner {P:Params}{σ:St}:cR (F.K P) (Str.ofString "inner") (.const 128) σ=some (some (.const 122),σ):=by
 exact getA_cls (inner_at P)
theorem drop_cons {l:List Nat}{a:Nat}{c:Nat}{s:List Nat}(h:l.drop a=c::s):l[a]? = some c∧l.drop (a+1)=s∧a<l.length:=by
 walk_at "a"
 have h1:l[a]? = some c:=by
  have:(l.drop a)[0]? = some c:=by rw [h];rfl
  simpa [List.getElem?_drop] using this
 refine ⟨h1,?_,(List.getElem?_eq_some_iff.mp h1).1⟩
 rw [← List.drop_drop,h];rfl
 walk_at "z"
theorem drop_nil {l:List Nat}{a:Nat}(h:l.drop a=[]):l.length≤a:=List.drop_eq_nil_iff.mp h
section
variable {P:Params}{C:Addr}{l:List Nat}{a ln:Nat}{rest:List (Str×V)}{H:List aE}{ρ:List (Option V)}{i:Nat}{Γ:CT}
theorem itemM_S {x:Str}{k:Int}:cU (.str x) (.int k)=if 0≤k∧k<1000000 then on1 x.cps[k.toNat]? (fun c=>M.ret (.str ⟨#[c]⟩)) M.stuck else M.stuck:=rfl
theorem item_S {a c:Nat}{l:List Nat}(h:l[a]? = some c)(ha:a<1000000){σ:St}:cU (.str (S l)) (.int (a:Int)) σ=some (some (.str (S [c])),σ):=by
 walk_at "a"
 have h2:(S l).cps[(a:Int).toNat]? = some c:=by simpa using h
 rw [itemM_S,if_pos ⟨by lia,by lia⟩,h2]
 exact bF
 walk_at "z"
noncomputable def aW (s:List Nat):Nat:=(s.takeWhile aG).length
section
variable {v0:V}{b:Nat}
noncomputable abbrev nameSt (v0:V)(l:List Nat)(b:Nat)(H:List aE):St:=⟨[some v0,some (.int b),some (.str (S l)),some (.int l.length),none],H⟩
theorem name_c0 (hb:¬ b<l.length):dM (F.K P) Γ (nameSt v0 l b H)=some (some false,nameSt v0 l b H):=by
 walk_at "a"
 have e:decide ((b:Int)<(l.length:Int))=false:=by simp;lia
 unfold dM
 simp only [bind_app,gv1,gv3,c_ltI,e,tru,if_f,bF]
 walk_at "z"
theorem name_c1 {c:Nat}(hb:b<l.length)(h1:l[b]? = some c)(hl:b<1000000):dM (F.K P) Γ (nameSt v0 l b H)=some (some (aG c),nameSt v0 l b H):=by
 walk_at "a"
 have q0:=fun σ=>item_S (σ:=σ) h1 hl
 have e:decide ((b:Int)<(l.length:Int))=true:=by simp;lia
 have q1:∀ σ,cR (F.K P) (Str.ofString "inner") (.const 128) σ=some (some (.const 122),σ):=fun σ=>get_inner
 have q2:∀ c σ,cmpD (F.K P) .In (.str (S [c])) (.const 122) σ=some (some (.bool (aG c)),σ):=fun c σ=>by rw [in_inner,bF]
 have q3:∀ b σ,bD b (M.ret true) (M.ret false) σ=some (some b,σ):=fun b σ=>if_b
 unfold dM
 repeat walk_at "s"
 walk_at "z"
theorem name_b:fH (F.K P) Γ (nameSt v0 l b H)=some (some .next,nameSt v0 l (b+1) H):=by
 walk_at "a"
 unfold fH
 simp only [then_app,bind_app,gv1,sv1,bF,i_addI]
 rfl
 walk_at "z"
end
theorem word_next {c:Nat}{s:List Nat}(hc:aG c=true)(b:Nat):b+1+aW s=b+aW (c::s):=by
 simp only [aW,List.takeWhile_cons,hc,if_true,List.length_cons];lia
theorem word_stop {c:Nat}{s:List Nat}(hc:aG c=false):aW (c::s)=0:=by
 simp [aW,hc]
theorem name_loop (hl:l.length≤1000)(v0:V):∀ (s:List Nat) (b n:Nat),l.drop b=s→b≤l.length→s.length<n →
  cW n (dM (F.K P) Γ) (fH (F.K P) Γ) (nameSt v0 l b H)=some (some .next,nameSt v0 l (b+aW s) H):=by
 walk_at "a"
 intro s
 induction s with
 | nil =>
  intro b n hs hb hn
  obtain ⟨n,rfl⟩:∃ m,n=m+1:=⟨n-1,by rw [List.length_nil] at hn;lia⟩
  have:=drop_nil hs
  exact dX (name_c0 (by lia))
 | cons c s ih =>
  intro b n hs hb hn
  rw [List.length_cons] at hn
  obtain ⟨n,rfl⟩:∃ m,n=m+1:=⟨n-1,by lia⟩
  obtain ⟨h1,h2,h3⟩:=drop_cons hs
  have hc1:=name_c1 (P:=P) (Γ:=Γ) (v0:=v0) (H:=H) h3 h1 (by lia)
  cases hc:aG c with
  | true =>
   rw [hc] at hc1
   rw [dK hc1 name_b,ih (b+1) n h2 (by lia) (by lia),word_next hc]
  | false =>
   rw [hc] at hc1
   rw [word_stop hc]
   exact dX hc1
 walk_at "z"
noncomputable def f_name:FC:=fun i C l a ln rest=>pN fun H=>if a≤l.length∧l.length≤50 then some (some (.str (S ((l.drop a).takeWhile aG))),H.set i (aP C l (a+aW (l.drop a)) ln rest)) else none
noncomputable abbrev p_name:=dW f_name
theorem take_word (l:List Nat)(a:Nat):(l.take (a+aW (l.drop a))).drop a=(l.drop a).takeWhile aG:=by
 rw [List.drop_take,Nat.add_sub_cancel_left]
 unfold aW
 have h:∀ (s:List Nat),s.take (s.takeWhile aG).length=s.takeWhile aG:=fun s=>by
  induction s with
  | nil=>rfl
  | cons c s ih=>by_cases hc:aG c=true<;>simp [hc,ih]
 exact h _
theorem run_name (h:Sc H i C l a ln rest)(ha:a≤l.length)(hl:l.length≤50):∃ σ',
  hW (F.K P) Γ ⟨[some (.obj i),none,none,none,none],H⟩=some (some (.ret (.str (S ((l.drop a).takeWhile aG)))),σ')∧σ'.H=H.set i (aP C l (a+aW (l.drop a)) ln rest):=by
 walk_at "a"
 have e1:∀ ρ,cR (F.K P) (Str.ofString "source") (.obj i) ⟨ρ,H⟩=some (some (.str (S l)),⟨ρ,H⟩):=fun ρ=>get_source h.ok h.at_
 have e5:∀ ρ,cR (F.K P) (Str.ofString "place") (.obj i) ⟨ρ,H⟩=some (some (.int a),⟨ρ,H⟩):=fun ρ=>bZ h.ok h.at_
 have hr:=h.hr
 have e6:∀ ρ,dN (F.K P) (Str.ofString "place") (.obj i) (.int ((a:Int)+(aW (l.drop a):Nat))) ⟨ρ,H⟩=some (some (),⟨ρ,H.set i (aP C l (a+aW (l.drop a)) ln rest)⟩):=fun ρ=>fV h.ok (by lia) h.at_ (a+aW (l.drop a))
 have h1:(S l).length≤100000:=by rw [cD];lia
 have hL:=name_loop (P:=P) (Γ:=Γ) (H:=H) (l:=l) (by lia) (.obj i) (l.drop a) a 100 rfl ha (by simp;lia)
 refine ⟨⟨[some (.obj i),some (.int (a+aW (l.drop a):Nat)),some (.str (S l)),some (.int l.length),some (.int a)],H.set i (aP C l (a+aW (l.drop a)) ln rest)⟩,?_,rfl⟩
 have hL':cW 100 (dM (F.K P) Γ) (fH (F.K P) Γ) ⟨[some (.obj i),some (.int a),some (.str (S l)),some (.int l.length),none],H⟩=some (some .next,⟨[some (.obj i),some (.int (a+aW (l.drop a):Nat)),some (.str (S l)),some (.int l.length),none],H⟩):=hL
 have hl2:l.length≤1000:=by lia
 have hs':=sl_ss (l:=l) (a:=a) (b:=a+aW (l.drop a)) (σ:=⟨[some (.obj i),some (.int (a+aW (l.drop a):Nat)),some (.str (S l)),some (.int l.length),some (.int a)],H.set i (aP C l (a+aW (l.drop a)) ln rest)⟩) hl2
 have e6':∀ ρ,dN (F.K P) (Str.ofString "place") (.obj i) (.int (a+aW (l.drop a):Nat)) ⟨ρ,H⟩=some (some (),⟨ρ,H.set i (aP C l (a+aW (l.drop a)) ln rest)⟩):=e6
 rw [take_word] at hs'
 have q0:=e1
 have q1:=e5
 have q2:=hL'
 have q3:=e6'
 have q4:=hs'
 unfold hW
 repeat walk_at "s"
 walk_at "z"
section
variable {prog:Program}{w:World}{sl:Addr}{sn:List Int}{n:Nat}
theorem name_ok (G:GOK prog w (KK w) (.ref 59) sl sn Γ n):GOK prog w (KK w) (.ref 59) sl sn (ov F.at_Scanner_name p_name Γ) (n+1):=by
 walk_at "a"
 refine ok_Scanner_name G fun vs H r h0=>?_
 refine fD h0 fun i more C l a ln rest e hS h1x=>pN_e h1x fun e2 h2x=>fL h2x fun hq h=>?_
 subst e2 e
 obtain rfl:=Option.some.inj h
 obtain ⟨σ',e1,e2⟩:=run_name (P:=w.params) (Γ:=Γ) hS hq.1 hq.2
 exact .of (by simp) [.obj i] rfl rfl _ σ' e1 (cE (by rw [e2];exact hS.close) (.same rfl))
 walk_at "z"
end
end
end Mine
end
section
namespace Mine
section
variable {P:Params}{C:Addr}{l:List Nat}{a ln:Nat}{rest:List (Str×V)}{H:List aE}{ρ:List (Option V)}{i:Nat}{Γ:CT}
theorem set_any {name:Str}{v:V}{as as':List (Str×V)}(hs:gQ (F.K P) C name=true)(hH:H[i]? = some (.inst C as))(e:putAs name v as=as')(hl:as'.length≤900):dN (F.K P) name (.obj i) v ⟨ρ,H⟩=some (some (),⟨ρ,H.set i (.inst C as')⟩):=by
 walk_at "a"
 subst e
 exact setA_own (σ:=⟨ρ,H⟩) hH hs hl
 walk_at "z"
theorem set_again {name:Str}{v:V}{as as':List (Str×V)}(hs:gQ (F.K P) C name=true)(hi:i<H.length)(e:putAs name v as=as')(hl:as'.length≤900):dN (F.K P) name (.obj i) v ⟨ρ,H.set i (.inst C as)⟩=some (some (),⟨ρ,H.set i (.inst C as')⟩):=by
 rw [set_any hs (List.getElem?_set_self hi) e hl,List.set_set]
theorem p_source (h:okC C)(P:Params):gQ (F.K P) C (Str.ofString "source")=true:=by
 walk_at "a"
 rcases h with rfl | rfl | rfl<;>kernel_rfl
 walk_at "z"
noncomputable def newI (H:List aE)(i:Nat):Option Addr:=(H[i]?).bind fun o=>(o.inst?).bind fun p=>if p.2.isEmpty then some p.1 else none
theorem newI_eq {H:List aE}{i:Nat}{C:Addr}(h:newI H i=some C):H[i]? = some (.inst C []):=by
 walk_at "a"
 obtain ⟨o,h1,h⟩:=Option.bind_eq_some_iff.mp h
 obtain ⟨p,h2,h⟩:=Option.bind_eq_some_iff.mp h
 refine fL h fun h3 h=>?_
 rw [← Option.some.inj h,h1,aE.inst?_eq h2,List.isEmpty_iff.mp h3]
 walk_at "z"
theorem newI_of {H:List aE}{i:Nat}{C:Addr}(h:H[i]? = some (.inst C [])):newI H i=some C:=by unfold newI;rw [h];rfl
noncomputable def p_init:PC:=pO fun i=>pSI fun t ln H=>on1 (newI H i) (fun C=>if okC C∧t.length≤60∧0≤ln then some (some .none,H.set i (aP C t.cps.toList 0 ln.toNat [])) else none) none
theorem p_init_at {H:List aE}{i:Nat}{C:Addr}{t:Str}{ln:Int}(h:H[i]? = some (.inst C []))(hq:okC C∧t.length≤60∧0≤ln):p_init [.obj i,.str t,.int ln] H=some (some .none,H.set i (aP C t.cps.toList 0 ln.toNat [])):=by
 walk_at "a"
 have e:p_init [.obj i,.str t,.int ln] H=on1 (newI H i) (fun C=>if okC C∧t.length≤60∧0≤ln then some (some .none,H.set i (aP C t.cps.toList 0 ln.toNat [])) else none) none:=rfl
 rw [e,newI_of h]
 exact if_pos hq
 walk_at "z"
theorem run_init {t:Str}{m:Nat}(hC:okC C)(hH:H[i]? = some (.inst C [])) :
  fA (F.K P) Γ ⟨[some (.obj i),some (.str t),some (.int m)],H⟩=some (some .next,⟨[some (.obj i),some (.str t),some (.int m)],H.set i (aP C t.cps.toList 0 m [])⟩):=by
 walk_at "a"
 have hi:=(List.getElem?_eq_some_iff.mp hH).1
 have q0:=fun ρ=>set_any (ρ:=ρ) (v:=.str t) (p_source hC P) hH (as':=[(Str.ofString "source",.str t)]) rfl (by simp)
 have q1:=fun ρ=>set_again (ρ:=ρ) (v:=.int 0) (p_place hC P) hi (as:=[(Str.ofString "source",.str t)]) (as':=[(Str.ofString "source",.str t),(Str.ofString "place",.int 0)]) rfl (by simp)
 have q2:=fun ρ=>set_again (ρ:=ρ) (v:=.int m) (p_line hC P) hi (as:=[(Str.ofString "source",.str t),(Str.ofString "place",.int 0)]) (as':=[(Str.ofString "source",.str t),(Str.ofString "place",.int 0),(Str.ofString "line",.int m)]) rfl (by simp)
 have e:aP C t.cps.toList 0 m []=.inst C [(Str.ofString "source",.str t),(Str.ofString "place",.int 0),(Str.ofString "line",.int m)]:=by simp [cB]
 rw [e]
 unfold fA
 repeat walk_at "s"
 walk_at "z"
section
variable {prog:Program}{w:World}{sl:Addr}{sn:List Int}{n:Nat}
theorem init_ok (G:GOK prog w (KK w) (.ref 59) sl sn Γ n):GOK prog w (KK w) (.ref 59) sl sn (ov F.at_Scanner___init__ p_init Γ) (n+1):=by
 walk_at "a"
 refine ok_Scanner___init__ G fun vs H r h0=>?_
 refine pO_e h0 fun i us e h1x=>pSI_e h1x fun t m e2 h2x=>cK (fun C hC h3x=>fL h3x fun hq h=>?_) h2x
 subst e2 e
 obtain rfl:=Option.some.inj h
 have hH:=newI_eq hC
 have hi:=(List.getElem?_eq_some_iff.mp hH).1
 have:=run_init (P:=w.params) (Γ:=Γ) (t:=t) (m:=m.toNat) hq.1 hH
 rw [show ((m.toNat:Nat):Int)=m by lia] at this
 exact .of (by simp) [.obj i,.str t,.int m] rfl rfl _ _ this (ends_next (close_at (by simp) (fun j _ hj=>fW hj) (.inr ⟨by rw [List.getElem?_set_self hi],by simp [cB,aE.fit,V.gR,V.fit]⟩)))
 walk_at "z"
end
noncomputable def p_new (C:Addr):PC:=pSI fun t ln H=>if t.length≤60∧0≤ln then some (some (.obj H.length),H++[aP C t.cps.toList 0 ln.toNat []]) else none
theorem new_ok {prog:Program}{w:World}{sl:Addr}{sn:List Int}{n:Nat}(hC:C=199∨C=248)(G:GOK prog w (KK w) (.ref 59) sl sn Γ n)(k:aH Γ F.at_Scanner___init__ p_init):GOK prog w (KK w) (.ref 59) sl sn (ov C (p_new C) Γ) (n+1):=by
 walk_at "a"
 have hk:keepIn (KK w) (.ref C)=true:=by rcases hC with rfl | rfl<;>kernel_rfl
 have hm:makesIn (KK w) C=true:=by rcases hC with rfl | rfl<;>kernel_rfl
 have hi:findIn (KK w) (.ref C) "__init__"=some (some (.ref F.at_Scanner___init__)):=by rcases hC with rfl | rfl<;>kernel_rfl
 have hf:typeIn (KK w) (.ref F.at_Scanner___init__)=some (.type "function"):=by kernel_rfl
 refine cls_ok hk hm hi hf G fun vs H r h1x=>pSI_e h1x fun t m e2 h2x=>fL h2x fun hq h=>?_
 subst e2
 obtain rfl:=Option.some.inj h
 have hH:(H++[aE.inst C []])[H.length]? = some (.inst C []):=by simp
 have e:=p_init_at (t:=t) (ln:=m) hH ⟨by rcases hC with rfl | rfl<;>decide,hq⟩
 have e2:(H++[aE.inst C []]).set H.length (aP C t.cps.toList 0 m.toNat [])=H++[aP C t.cps.toList 0 m.toNat []]:=by simp
 unfold clsP
 rw [k _ _ _ e,e2]
 walk_at "z"
end
end Mine
end
section
namespace Mine
noncomputable def cnt (s:List Nat):Nat:=s.count 10
noncomputable def cO:List Nat→Option (List Nat×Nat)
 | []=>none
 | [c]=>if c=39 then some ([],1) else none
 | c::d::s=>if c=39 then some ([],1)
   else if c=92∧(d=92∨d=39) then (cO s).map fun p=>(d::p.1,p.2+2)
   else (cO (d::s)).map fun p=>(c::p.1,p.2+1)
theorem fR:∀ (s:List Nat) {t:List Nat} {k:Nat},cO s=some (t,k)→1≤k∧k≤s.length∧t.length<k
 | [],t,k,h=>by cases h
 | [c],t,k,h=>by
  unfold cO at h
  split at h
  ·cases h;simp
  ·cases h
 | c::d::s,t,k,h=>by
  unfold cO at h
  split at h
  ·cases h;simp
  ·split at h
   ·obtain ⟨⟨t',k'⟩,h1,h2⟩:=Option.map_eq_some_iff.mp h
    cases h2
    have:=fR s h1
    simp only [List.length_cons];lia
   ·obtain ⟨⟨t',k'⟩,h1,h2⟩:=Option.map_eq_some_iff.mp h
    cases h2
    have:=fR (d::s) h1
    simp only [List.length_cons] at this ⊢;lia
section
variable {P:Params}{C:Addr}{l:List Nat}{a b m ln:Nat}{rest:List (Str×V)}{H X:List aE}{ρ:List (Option V)}{i j:Nat}{Γ:CT}{vs:List V}
theorem gC (h:Sc X i C l b m rest)(k:aH Γ F.at_Scanner_sign eJ):Γ F.at_Scanner_sign [.obj i] X=some (some (.str (S ((l.drop b).take 1))),X):=k _ _ _ (cG (f:=f_sign) (more:=[]) h)
theorem sign1 (h:Sc X i C l b m rest)(k:aH Γ F.at_Scanner_sign eJ):Γ F.at_Scanner_sign [.obj i,.int 1] X=some (some (.str (S ((l.drop (b+1)).take 1))),X):=k _ _ _ (cG (f:=f_sign) (more:=[.int 1]) h)
theorem fail1 (h:Sc X i C l b m rest)(k:aH Γ 182 (failP (F.K P)))(x:Str):Γ 182 [.obj i,.str x] X=some (none,X):=by
 walk_at "a"
 exact k _ _ _ (by
  show (match cR (F.K P) "place" (.obj i) ⟨[some (.obj i),some (.str x)],X⟩ with | some (some _,_)=>some (none,X) | _=>none)=_
  rw [bZ h.ok h.at_])
 walk_at "z"
theorem step0 (h:Sc X i C l b m rest)(ha:b≤900)(k:aH Γ F.at_Scanner_step gN):Γ F.at_Scanner_step [.obj i] X=some (some (.str (S ((l.drop b).take 1))),X.set i (aP C l (b+1) (m+nl ((l.drop b).take 1)) rest)):=by
 walk_at "a"
 exact k _ _ _ (by
  show dW f_step [.obj i] X=_
  rw [cG (f:=f_step) (more:=[]) h]
  show (if b≤900 then _ else _)=_
  rw [if_pos ha])
 walk_at "z"
theorem place1 (h:Sc X i C l b m rest):dN (F.K P) (Str.ofString "place") (.obj i) (.int ((b:Int)+1)) ⟨ρ,X⟩=some (some (),⟨ρ,X.set i (aP C l (b+1) m rest)⟩):=fV h.ok (by have:=h.hr;lia) h.at_ (b+1)
theorem place2 (h:Sc X i C l b m rest):dN (F.K P) (Str.ofString "place") (.obj i) (.int ((b:Int)+2)) ⟨ρ,X⟩=some (some (),⟨ρ,X.set i (aP C l (b+2) m rest)⟩):=fV h.ok (by have:=h.hr;lia) h.at_ (b+2)
noncomputable def st2 (H:List aE)(i:Nat)(C:Addr)(l:List Nat)(rest:List (Str×V))(j:Nat)(b m:Nat)(vs:List V):List aE:=(H.set i (aP C l b m rest)).set j (.list vs)
theorem fP (h:Sc H i C l a ln rest)(hij:i≠j)(hb:b≤1000):Sc (st2 H i C l rest j b m vs) i C l b m rest:=by
 walk_at "a"
 exact 
  ⟨by unfold st2;rw [List.getElem?_set_ne (Ne.symm hij)];exact (h.put hb).at_,h.ok,h.hl,hb,h.hr,h.hk,by unfold st2;rw [List.length_set,List.length_set];exact h.hf⟩
 walk_at "z"
theorem gM (hj:j<H.length):(st2 H i C l rest j b m vs)[j]? = some (.list vs):=by
 walk_at "a"
 unfold st2;rw [List.getElem?_set_self (by simpa using hj)]
 walk_at "z"
theorem st2_i {b' m':Nat}(hij:i≠j):(st2 H i C l rest j b m vs).set i (aP C l b' m' rest)=st2 H i C l rest j b' m' vs:=by
 walk_at "a"
 unfold st2
 rw [List.set_comm _ _ (Ne.symm hij),List.set_set]
 walk_at "z"
theorem st2_j {vs':List V}:(st2 H i C l rest j b m vs).set j (.list vs')=st2 H i C l rest j b m vs':=by
 walk_at "a"
 unfold st2;rw [List.set_set]
 walk_at "z"
theorem app1 {K:Frag}{v:V}(hX:X[j]? = some (.list vs))(hl:vs.length≤100000):bG K "list.append" [.obj j,v] ⟨ρ,X⟩=some (some .none,⟨ρ,X.set j (.list (vs++[v]))⟩):=by
 walk_at "a"
 have:bG K "list.append" [.obj j,v]=bAppend [.obj j,v]:=by unfold bG;rfl
 have e:bAppend [.obj j,v] ⟨ρ,X⟩=on1 (ownL ⟨ρ,X⟩ j) (fun us=>if us.length≤100000 then some (some .none,⟨ρ,X.set j (.list (us++[v]))⟩) else none) none:=rfl
 rw [this,e,ownL_of hX]
 exact if_pos hl
 walk_at "z"
theorem getM_app {K:Frag}(hX:X[j]? = some (.list vs)):getM K (Str.ofString "append") (.obj j) ⟨ρ,X⟩=some (some (.bi "list.append",[.obj j]),⟨ρ,X⟩):=getM_list hX
theorem in_tup2 {K:Frag}{x y z:Str}{σ:St}:cmpD K .In (.str x) (.tup [.str y,.str z]) σ=some (some (.bool ([y,z].contains x)),σ):=by
 walk_at "a"
 cases σ;rfl
 walk_at "z"
theorem joinS {K:Frag}{t:List Nat}{σ:St}(hl:listAt σ (.obj j)=some (t.map fun c=>V.str (S [c])))(ht:t.length≤1000):bG K "str.join" [.str (Str.ofString ""),.obj j] σ=some (some (.str (S t)),σ):=by
 walk_at "a"
 have e0:bG K "str.join" [.str (Str.ofString ""),.obj j]=bJoin [.str (Str.ofString ""),.obj j]:=by unfold bG;rfl
 have e1:∀ (t:List Nat),gP (t.map fun c=>V.str (S [c]))=some (t.map fun c=>S [c]):=fun t=>by
  induction t with
  | nil=>rfl
  | cons c t ih =>
   have e:gP ((c::t).map fun c=>V.str (S [c]))=on2 (some (S [c])) (gP (t.map fun c=>V.str (S [c]))) (fun s t=>some (s::t)) none:=rfl
   rw [e,ih]
   rfl
 have e2:∀ (t:List Nat),((t.map fun c=>S [c]).map (·.length)).sum=t.length:=fun t=>by
  induction t with
  | nil=>rfl
  | cons c t ih=>simp only [List.map_cons,List.sum_cons,ih,List.length_cons,cD,List.length_nil];lia
 have e3:∀ (t:List Nat),Txt.join (Str.ofString "") (t.map fun c=>S [c])=S t:=fun t=>by
  have e0:Str.ofString ""=S []:=by decide
  have e4:∀ (t:List Nat) (acc:Array Nat),(t.map fun c=>S [c]).foldl (fun acc p=>acc++(S []).cps++p.cps) acc=acc++t.toArray:=fun t=>by
   induction t with
   | nil=>intro acc;simp
   | cons c t ih=>intro acc;rw [List.map_cons,List.foldl_cons,ih];simp
  rw [e0]
  show (⟨_⟩:Str)=_
  congr 1
  cases t with
  | nil=>rfl
  | cons c t=>simp only [List.map_cons,List.drop_succ_cons,List.drop_zero,List.headD_cons];rw [e4];simp
 have e5:bJoin [.str (Str.ofString ""),.obj j] σ=on1 ((listAt σ (.obj j)).bind gP) (fun ys=>if (Str.ofString "").length≤16∧(ys.map (·.length)).sum+ys.length≤1048576 then some (some (.str (Txt.join (Str.ofString "") ys)),σ) else none) none:=rfl
 rw [e0,e5,hl,Option.bind_some,e1]
 show (if (Str.ofString "").length≤16∧((t.map fun c=>S [c]).map (·.length)).sum+(t.map fun c=>S [c]).length≤1048576 then some (some (V.str (Txt.join (Str.ofString "") (t.map fun c=>S [c]))),σ) else none)=_
 rw [e2,e3,if_pos ⟨by decide,by rw [List.length_map];lia⟩]
 walk_at "z"
theorem eQ {s t:List Nat}(h:s=t):(S s==S t)=true:=by rw [h];exact beq_self_eq_true _
theorem bne_q {s t:List Nat}(h:s=t):(S s != S t)=false:=by rw [h];simp
theorem cN {s t:List Nat}(h:s≠t):(S s==S t)=false:=by rw [S_beq];exact beq_eq_false_iff_ne.mpr h
theorem bne_n {s t:List Nat}(h:s≠t):(S s != S t)=true:=by
 walk_at "a"
 have:(S s != S t) = !(S s==S t):=rfl
 rw [this,cN h];rfl
 walk_at "z"
theorem w_q:Str.ofString "'"=S [39]:=by decide
theorem w_b:Str.ofString "\\"=S [92]:=by decide
theorem w_e:Str.ofString ""=S []:=by decide
theorem w_d:Str.ofString "\""=S [34]:=by decide
theorem w_h:Str.ofString "#{"=S [35,123]:=by decide
theorem w_o:Str.ofString "{"=S [123]:=by decide
theorem w_c:Str.ofString "}"=S [125]:=by decide
noncomputable abbrev iE (i j:Nat)(X:List aE):St:=⟨[some (.obj i),some (.obj j)],X⟩
section
variable (h:Sc X i C l b m rest)(kS:aH Γ F.at_Scanner_sign eJ)(kT:aH Γ F.at_Scanner_step gN)(kF:aH Γ 182 (failP (F.K P)))
include h kS
theorem plain_c:cA (F.K P) Γ (iE i j X)=some (some (S ((l.drop b).take 1) != S [39]),iE i j X):=by
 walk_at "a"
 have q0:=fun ρ=>aT (ρ:=ρ) h (dP h.ok P) (by decide)
 have q1:=gC h kS
 unfold cA
 rw [w_q]
 repeat walk_at "s"
 walk_at "z"
include kF
theorem plain_fail (hs:l.drop b=[]):bE (F.K P) Γ (iE i j X)=some (none,iE i j X):=by
 walk_at "a"
 have q0:=fun ρ=>aT (ρ:=ρ) h (dP h.ok P) (by decide)
 have q1:=gC h kS
 have q2:=fun ρ=>aT (ρ:=ρ) h (m_fail h.ok P) (by decide)
 have q3:=fun x=>fail1 h kF x
 have f1:(S ((l.drop b).take 1)==S [])=true:=eQ (by rw [hs];rfl)
 unfold bE
 rw [w_e,w_b,w_q]
 repeat walk_at "s"
 walk_at "z"
end
section
variable (h0:Sc H i C l a ln rest)(hij:i≠j)(hj:j<H.length)(kS:aH Γ F.at_Scanner_sign eJ)(kT:aH Γ F.at_Scanner_step gN)(kF:aH Γ 182 (failP (F.K P)))
include h0 hij hj kS kT
theorem plain_one {c:Nat}{s:List Nat}(hs:l.drop b=c::s)(hb:b≤100)(hv:vs.length≤1000)(hc:¬ (c=92∧([S [92],S [39]].contains (S (s.take 1))=true))) :
  bE (F.K P) Γ (iE i j (st2 H i C l rest j b m vs))=some (some .next,iE i j (st2 H i C l rest j (b+1) (m+nl [c]) (vs++[.str (S [c])]))):=by
 walk_at "a"
 have h:Sc (st2 H i C l rest j b m vs) i C l b m rest:=fP h0 hij (by lia)
 have hl:(st2 H i C l rest j (b+1) (m+nl [c]) vs)[j]? = some (.list vs):=gM hj
 have hs1:l.drop (b+1)=s:=(drop_cons hs).2.1
 have q0:=fun ρ=>aT (ρ:=ρ) h (dP h.ok P) (by decide)
 have q1:=gC h kS
 have q2:=sign1 h kS
 have q3:=fun ρ=>aT (ρ:=ρ) h (m_step h.ok P) (by decide)
 have q4:=step0 h (by lia) kT
 have tk:(c::s).take 1=[c]:=rfl
 rw [hs,st2_i hij,tk] at q4
 have q5:=fun ρ=>getM_app (K:=F.K P) (ρ:=ρ) (X:=st2 H i C l rest j b m vs) (j:=j) (vs:=vs) (gM hj)
 have q6:=fun ρ=>app1 (K:=F.K P) (ρ:=ρ) (v:=.str (S [c])) hl (by lia)
 rw [st2_j] at q6
 rw [hs,tk] at q1
 rw [hs1] at q2
 have f0:(S [c]==S [])=false:=cN (by simp)
 unfold bE
 rw [w_e,w_b,w_q]
 by_cases hc1:c=92
 ·have f1:(S [c]==S [92])=true:=eQ (by rw [hc1])
  have f2:[S [92],S [39]].contains (S (s.take 1))=false:=by simpa [hc1] using hc
  repeat walk_at "s"
 ·have f1:(S [c]==S [92])=false:=cN (by simpa using hc1)
  repeat walk_at "s"
 walk_at "z"
theorem plain_esc {d:Nat}{s:List Nat}(hs:l.drop b=92::d::s)(hb:b≤100)(hv:vs.length≤1000)(hd:d=92∨d=39) :
  bE (F.K P) Γ (iE i j (st2 H i C l rest j b m vs))=some (some .next,iE i j (st2 H i C l rest j (b+2) m (vs++[.str (S [d])]))):=by
 walk_at "a"
 have h:Sc (st2 H i C l rest j b m vs) i C l b m rest:=fP h0 hij (by lia)
 have h':Sc (st2 H i C l rest j (b+1) m vs) i C l (b+1) m rest:=fP h0 hij (by lia)
 have hl:(st2 H i C l rest j (b+2) m vs)[j]? = some (.list vs):=gM hj
 have hs1:l.drop (b+1)=d::s:=(drop_cons hs).2.1
 have tk:∀ (c:Nat) (s:List Nat),(c::s).take 1=[c]:=fun _ _=>rfl
 have q0:=fun ρ=>aT (ρ:=ρ) h (dP h.ok P) (by decide)
 have q1:=gC h kS
 have q2:=sign1 h kS
 have q3:=fun ρ=>aT (ρ:=ρ) h' (m_step h.ok P) (by decide)
 have q4:=step0 h' (by lia) kT
 have hnl:m+nl [d]=m:=by rcases hd with rfl | rfl<;>rfl
 rw [hs1,st2_i hij,tk,hnl] at q4
 have q5:=fun ρ=>getM_app (K:=F.K P) (ρ:=ρ) (X:=st2 H i C l rest j (b+1) m vs) (j:=j) (vs:=vs) (gM hj)
 have q6:=fun ρ=>app1 (K:=F.K P) (ρ:=ρ) (v:=.str (S [d])) hl (by lia)
 rw [st2_j] at q6
 rw [hs,tk] at q1
 rw [hs1,tk] at q2
 have f0:(S [92]==S [])=false:=cN (by simp)
 have f1:(S [92]==S [92])=true:=eQ rfl
 have f2:[S [92],S [39]].contains (S [d])=true:=by rcases hd with rfl | rfl<;>decide
 have q9:=fun ρ=>bZ (ρ:=ρ) (P:=P) h.ok h.at_
 have q10:=fun ρ=>place1 (ρ:=ρ) (P:=P) h
 rw [st2_i hij] at q10
 unfold bE
 rw [w_e,w_b,w_q]
 repeat walk_at "s"
 walk_at "z"
end
theorem cnt_cons (c:Nat)(s:List Nat):cnt (c::s)=nl [c]+cnt s:=by
 walk_at "a"
 unfold cnt nl
 rw [List.count_cons]
 by_cases h:c=10<;>simp [h];lia
 walk_at "z"
theorem nl_one (c:Nat)(h:c≠10):nl [c]=0:=by simp [nl,h]
theorem has2 (s:List Nat):[S [92],S [39]].contains (S (s.take 1))=true↔∃ d s',s=d::s'∧(d=92∨d=39):=by
 simp only [List.contains_cons,List.contains_nil,Bool.or_false,Bool.or_eq_true,S_beq]
 cases s with
 | nil=>simp
 | cons d s'=>simp [List.take]
theorem single_q (s:List Nat):cO (39::s)=some ([],1):=by cases s<;>rfl
theorem single_esc {d:Nat}{s:List Nat}(hd:d=92∨d=39):cO (92::d::s)=(cO s).map fun p=>(d::p.1,p.2+2):=by
 walk_at "a"
 conv=>lhs;unfold cO
 rw [if_neg (by decide),if_pos ⟨rfl,hd⟩]
 walk_at "z"
theorem single_one {c:Nat}{s:List Nat}(hc:c≠39)(hn:¬ (c=92∧([S [92],S [39]].contains (S (s.take 1))=true))):cO (c::s)=(cO s).map fun p=>(c::p.1,p.2+1):=by
 walk_at "a"
 cases s with
 | nil=>simp [cO,hc]
 | cons d s =>
  conv=>lhs;unfold cO
  rw [if_neg hc,if_neg (fun h=>hn ⟨h.1,(has2 _).mpr ⟨d,s,rfl,h.2⟩⟩)]
 walk_at "z"
section
variable (h0:Sc H i C l a ln rest)(hij:i≠j)(hj:j<H.length)(kS:aH Γ F.at_Scanner_sign eJ)(kT:aH Γ F.at_Scanner_step gN)(kF:aH Γ 182 (failP (F.K P)))
include h0 hij hj kS kT kF
noncomputable def TG (P:Params)(Γ:CT)(i j:Nat)(C:Addr)(l:List Nat)(rest:List (Str×V))(H:List aE)(n b m:Nat)(vs:List V)(o:Option (List Nat×Nat)):Prop:=match o with
 | some p=>cW n (cA (F.K P) Γ) (bE (F.K P) Γ) (iE i j (st2 H i C l rest j b m vs))=some (some .next,iE i j (st2 H i C l rest j (b+p.2-1) (m+cnt ((l.drop b).take p.2)) (vs++p.1.map fun c=>.str (S [c]))))
 | none=>∃ b' m' vs',cW n (cA (F.K P) Γ) (bE (F.K P) Γ) (iE i j (st2 H i C l rest j b m vs))=some (none,iE i j (st2 H i C l rest j b' m' vs'))
omit h0 hij hj kS kT kF in
theorem TG.go {n r x d:Nat}{o:Option (List Nat×Nat)}(hc:cA (F.K P) Γ (iE i j (st2 H i C l rest j b m vs))=some (some true,iE i j (st2 H i C l rest j b m vs)))
  (hb:bE (F.K P) Γ (iE i j (st2 H i C l rest j b m vs))=some (some .next,iE i j (st2 H i C l rest j (b+r) (m+x) (vs++[.str (S [d])])))) (hx:x=cnt ((l.drop b).take r))
  (ih:TG P Γ i j C l rest H n (b+r) (m+x) (vs++[.str (S [d])]) o):TG P Γ i j C l rest H (n+1) b m vs (o.map fun p=>(d::p.1,p.2+r)):=by
 walk_at "a"
 cases o with
 | none =>
  obtain ⟨b',m',vs',e1⟩:=ih
  exact ⟨b',m',vs',(dK hc hb).trans e1⟩
 | some p =>
  have e1:=(dK hc hb).trans ih
  have e5:m+x+cnt ((l.drop (b+r)).take p.2)=m+cnt ((l.drop b).take (p.2+r)):=by
   rw [hx,Nat.add_comm p.2,List.take_add,show cnt ((l.drop b).take r++((l.drop b).drop r).take p.2)=cnt ((l.drop b).take r)+cnt (((l.drop b).drop r).take p.2) from List.count_append,List.drop_drop,Nat.add_assoc]
  rw [e5,show b+r+p.2-1=b+(p.2+r)-1 by rw [Nat.add_assoc,Nat.add_comm r],List.append_assoc] at e1
  exact e1
 walk_at "z"
theorem plain_loop:∀ (n b m:Nat) (vs:List V),(l.drop b).length<n→b≤100→vs.length+(l.drop b).length≤900→TG P Γ i j C l rest H n b m vs (cO (l.drop b)):=by
 walk_at "a"
 intro n
 induction n with
 | zero=>intro b m vs hn;exact absurd hn (Nat.not_lt_zero _)
 | succ n ih =>
  intro b m vs hn hb hv
  have h:Sc (st2 H i C l rest j b m vs) i C l b m rest:=fP h0 hij (by lia)
  have hc:=plain_c (P:=P) (j:=j) h kS
  cases hs:l.drop b with
  | nil =>
   rw [show (S ((l.drop b).take 1) != S [39])=true by rw [hs];exact bne_n (by simp)] at hc
   exact ⟨b,m,vs,by rw [while_step hc,M.bind_raise (plain_fail (P:=P) h kS kF hs)]⟩
  | cons c s =>
   rw [hs,show (c::s).take 1=[c] from rfl] at hc
   have hsl:(l.drop b).length=s.length+1:=by rw [hs];rfl
   by_cases h39:c=39
   ·subst h39
    rw [bne_q rfl] at hc
    rw [single_q]
    refine (dX hc).trans ?_
    rw [hs]
    simp [cnt_cons,nl,cnt]
   rw [bne_n (by simpa using h39)] at hc
   have d1:=drop_cons hs
   have hll:=h0.hl
   by_cases he:c=92∧([S [92],S [39]].contains (S (s.take 1))=true)
   ·obtain ⟨rfl,he⟩:=he
    obtain ⟨d,s',rfl,hd⟩:=(has2 s).mp he
    have d2:=drop_cons d1.2.1
    have hsl':(d::s').length=s'.length+1:=rfl
    have i1:=ih (b+2) (m+0) (vs++[.str (S [d])]) (by rw [d2.2.1];lia) (by lia) (by rw [d2.2.1,List.length_append];show vs.length+1+_≤900;lia)
    rw [d2.2.1] at i1
    rw [single_esc hd]
    have hd10:nl [d]=0:=nl_one d (by rcases hd with rfl | rfl<;>decide)
    exact TG.go (x:=0) hc (plain_esc (P:=P) (m:=m) (vs:=vs) h0 hij hj kS kT hs hb (by lia) hd) (by rw [hs,show (92::d::s').take 2=[92,d] from rfl,cnt_cons,cnt_cons,hd10,nl_one 92 (by decide)];rfl) i1
   ·have i1:=ih (b+1) (m+nl [c]) (vs++[.str (S [c])]) (by rw [d1.2.1];lia) (by lia) (by rw [d1.2.1,List.length_append];show vs.length+1+_≤900;lia)
    rw [d1.2.1] at i1
    rw [single_one h39 he]
    exact TG.go hc (plain_one (P:=P) (m:=m) (vs:=vs) h0 hij hj kS kT hs hb (by lia) he) (by rw [hs,show (c::s).take 1=[c] from rfl,cnt_cons];rfl) i1
 walk_at "z"
end
noncomputable abbrev okT (C:Addr):Prop:=C=248∨C=479
theorem m_plain (h:okT C)(P:Params):eR (F.K P) C (Str.ofString "plain_text")=some F.at_TextScanner_plain_text:=by rcases h with rfl | rfl<;>kernel_rfl
theorem m_esc (h:okT C)(P:Params):eR (F.K P) C (Str.ofString "escaped")=some F.at_TextScanner_escaped:=by rcases h with rfl | rfl<;>kernel_rfl
theorem m_parts (h:okT C)(P:Params):eR (F.K P) C (Str.ofString "text_parts")=some F.at_TextScanner_text_parts:=by rcases h with rfl | rfl<;>kernel_rfl
theorem m_code (h:okT C)(P:Params):eR (F.K P) C (Str.ofString "code")=some F.at_TextScanner_code:=by rcases h with rfl | rfl<;>kernel_rfl
theorem m_skip (h:okT C)(P:Params):eR (F.K P) C (Str.ofString "skip_code")=some F.at_TextScanner_skip_code:=by rcases h with rfl | rfl<;>kernel_rfl
noncomputable def f_plain:FC:=fun i C l a ln rest=>pN fun H=>if a≤l.length then (match cO (l.drop a) with
  | some (t,k)=>some (some (.str (S t)),H.set i (aP C l (a+k) (ln+cnt ((l.drop a).take k)) rest))
  | none=>some (none,H.set i .dT)) else none
noncomputable abbrev p_plain:=dW f_plain
theorem Sc.grow (h:Sc H i C l a ln rest)(o:List aE):Sc (H++o) i C l a ln rest :=
 ⟨by rw [List.getElem?_append_left h.lt];exact h.at_,h.ok,h.hl,h.ha,h.hr,h.hk,V.fitsE_le (by simp) _ h.hf⟩
theorem st2_get {x:Nat}(hx:x<H.length)(hxi:x≠i)(o:List aE)(hj:j=H.length):(st2 (H++o) i C l rest j b m vs)[x]? = H[x]? := by
 walk_at "a"
 unfold st2
 rw [List.getElem?_set_ne (by lia),List.getElem?_set_ne (by lia),List.getElem?_append_left hx]
 walk_at "z"
theorem st2_len {H:List aE}:(st2 H i C l rest j b m vs).length=H.length:=by unfold st2;simp
theorem st2_close (h:Sc H i C l a ln rest)(o:aE)(hb:b≤1000):cX H (st2 (H++[o]) i C l rest H.length b m vs) (H.set i (aP C l b m rest)) :=
 close_at (by rw [st2_len];simp) (fun x hx hxi=>st2_get hx hxi [o] rfl) (.inr ⟨(fP (h.grow [o]) (by have:=h.lt;lia) hb).at_,h.fit⟩)
theorem st2_lost (h:Sc H i C l a ln rest)(o:aE):cX H (st2 (H++[o]) i C l rest H.length b m vs) (H.set i .dT) :=
 close_at (by rw [st2_len];simp) (fun x hx hxi=>st2_get hx hxi [o] rfl) (.inl rfl)
theorem getM_join {K:Frag}{x:Str}{σ:St}:getM K (Str.ofString "join") (.str x) σ=some (some (.bi "str.join",[.str x]),σ):=by
 walk_at "a"
 have:strMeth (Str.ofString "join")=some "str.join":=by decide
 have e:getM K (Str.ofString "join") (.str x) σ=on1 (strMeth (Str.ofString "join")) (fun id=>some (some (.bi id,[.str x]),σ)) none:=rfl
 rw [e,this]
 rfl
 walk_at "z"
section
variable {prog:Program}{w:World}{sl:Addr}{sn:List Int}{n:Nat}
theorem plain_ok (G:GOK prog w (KK w) (.ref 59) sl sn Γ n)(kS:aH Γ F.at_Scanner_sign eJ)(kT:aH Γ F.at_Scanner_step gN)(kF:aH Γ 182 (failP (KK w))) :
  GOK prog w (KK w) (.ref 59) sl sn (ov F.at_TextScanner_plain_text p_plain Γ) (n+1):=by
 walk_at "a"
 refine ok_TextScanner_plain_text G fun vs H r h0=>?_
 refine fD h0 fun i more C l a ln rest e hS h1x=>pN_e h1x fun e2 h2x=>fL h2x fun ha h=>?_
 subst e2 e
 have hij:i≠H.length:=by have:=hS.lt;lia
 have hS':=hS.grow [aE.list []]
 have hl:=hS.hl
 have e0:H++[aE.list []]=st2 (H++[.list []]) i C l rest H.length a ln []:=by
  unfold st2
  have h1:(H++[aE.list []])[i]? = some (aP C l a ln rest):=hS'.at_
  have e1:(H++[aE.list []]).set i (aP C l a ln rest)=H++[aE.list []]:=by
   refine List.ext_getElem? fun x=>?_
   rw [List.getElem?_set]
   split
   ·rename_i q;subst q;rw [if_pos hS'.lt,h1]
   ·rfl
  rw [e1];simp
 have LL:=plain_loop (P:=w.params) (Γ:=Γ) hS' hij (by simp) kS kT kF 100 a ln [] (by simp;lia) (by lia) (by simp;lia)
 split at h
 ·rename_i t k hk
  cases h
  have hk1:=fR _ hk
  have hkb:a+k≤100:=by simp at hk1;lia
  rw [hk] at LL
  have L:cW 100 _ _ _=some (some Fl.next,iE i H.length (st2 (H++[.list []]) i C l rest H.length (a+k-1) (ln+cnt ((l.drop a).take k)) ([]++t.map fun c=>V.str (S [c])))):=LL
  rw [List.nil_append] at L
  have hX:Sc (st2 (H++[.list []]) i C l rest H.length (a+k-1) (ln+cnt ((l.drop a).take k)) (t.map fun c=>V.str (S [c]))) i C l (a+k-1) (ln+cnt ((l.drop a).take k)) rest:=fP hS' hij (by lia)
  have q0:∀ ρ,newOwn (.list []) ⟨ρ,H⟩=some (some (.obj H.length),⟨ρ,st2 (H++[.list []]) i C l rest H.length a ln []⟩):=fun ρ=>by rw [own_app];exact congrArg (fun Y=>some (some (V.obj H.length),(⟨ρ,Y⟩:St))) e0
  have q1:=L
  have q2:=fun ρ=>bZ (ρ:=ρ) (P:=w.params) hX.ok hX.at_
  have q3:=fun ρ=>place1 (ρ:=ρ) (P:=w.params) hX
  rw [st2_i hij,show a+k-1+1=a+k by lia] at q3
  have q4:=fun σ=>getM_join (K:=KK w) (x:=Str.ofString "") (σ:=σ)
  have q5:∀ ρ,bG (KK w) "str.join" [.str (Str.ofString ""),.obj H.length] ⟨ρ,st2 (H++[.list []]) i C l rest H.length (a+k) (ln+cnt ((l.drop a).take k)) (t.map fun c=>V.str (S [c]))⟩=some (some (.str (S t)),⟨ρ,st2 (H++[.list []]) i C l rest H.length (a+k) (ln+cnt ((l.drop a).take k)) (t.map fun c=>V.str (S [c]))⟩):=fun ρ=>by
   have hat:(st2 (H++[aE.list []]) i C l rest H.length (a+k) (ln+cnt ((l.drop a).take k)) (t.map fun c=>V.str (S [c])))[H.length]? = some (.list (t.map fun c=>V.str (S [c]))):=gM (by simp)
   exact joinS (ownL_of hat) (by have:=hk1.2.1;have:=hk1.2.2;rw [List.length_drop] at *;lia)
  refine .of (by simp) [.obj i] rfl rfl (some (.ret (.str (S t)))) (⟨[some (.obj i),some (.obj H.length)],st2 (H++[.list []]) i C l rest H.length (a+k) (ln+cnt ((l.drop a).take k)) (t.map fun c=>V.str (S [c]))⟩) ?_ (cE (st2_close hS _ (by lia)) (.same rfl))
  show cI (KK w) Γ ⟨[some (.obj i),none],H⟩=_
  unfold cI
  repeat walk_at "s"
 ·rename_i hk
  cases h
  rw [hk] at LL
  obtain ⟨b',m',vs',L⟩:=LL
  have q0:∀ ρ,newOwn (.list []) ⟨ρ,H⟩=some (some (.obj H.length),⟨ρ,st2 (H++[.list []]) i C l rest H.length a ln []⟩):=fun ρ=>by rw [own_app];exact congrArg (fun Y=>some (some (V.obj H.length),(⟨ρ,Y⟩:St))) e0
  have q1:=L
  refine .of (by simp) [.obj i] rfl rfl none (iE i H.length (st2 (H++[.list []]) i C l rest H.length b' m' vs')) ?_ (iO (st2_lost hS _))
  show cI (KK w) Γ ⟨[some (.obj i),none],H⟩=_
  unfold cI
  repeat walk_at "s"
 walk_at "z"
end
end
end Mine
end
section
namespace Mine
mutual
noncomputable def bJ:List Nat→Nat→Option Nat
 | [],_=>none
 | c::s,d =>
  if c=39 then (match cO s with | some p=>(bJ (s.drop p.2) d).map (· + (1+p.2)) | none=>none)
  else if c=34 then (match eN s with | some k=>(bJ (s.drop k) d).map (· + (1+k)) | none=>none)
  else if c=123 then (bJ s (d+1)).map (· + 1)
  else if c=125 then (if d=1 then some 1 else (bJ s (d-1)).map (· + 1))
  else (bJ s d).map (· + 1)
termination_by s _=>s.length
decreasing_by all_goals simp_wf;all_goals first | lia | (simp only [List.length_drop,List.length_cons];lia)
noncomputable def eN:List Nat→Option Nat
 | []=>none
 | [c]=>if c=34 then some 1 else none
 | c::d::s =>
  if c=34 then some 1
  else if c=35∧d=123 then (match bJ s 1 with | some k=>(eN (s.drop k)).map (· + (2+k)) | none=>none)
  else if c=92 then (eN s).map (· + 2)
  else (eN (d::s)).map (· + 1)
termination_by s=>s.length
decreasing_by all_goals simp_wf;all_goals first | lia | (simp only [List.length_drop,List.length_cons];lia)
end
section
variable {P:Params}{C:Addr}{l:List Nat}{a b m ln:Nat}{rest:List (Str×V)}{H X:List aE}{ρ:List (Option V)}{i j:Nat}{Γ:CT}{vs:List V}
noncomputable abbrev st1 (H:List aE)(i:Nat)(C:Addr)(l:List Nat)(rest:List (Str×V))(b m:Nat):List aE:=H.set i (aP C l b m rest)
theorem st1_i {o:aE}:(st1 H i C l rest b m).set i o=H.set i o:=List.set_set ..
theorem map_le {o:Option Nat}{k L p q:Nat}(e:o.map (· + (q+p))=some k)(h:∀ k',o=some k'→1≤k'∧k'≤L-p):1≤k∧k≤L+q:=by
 walk_at "a"
 obtain ⟨k',e1,rfl⟩:=Option.map_eq_some_iff.mp e
 have:=h k' e1
 lia
 walk_at "z"
theorem map_le0 {o:Option Nat}{k L q:Nat}(e:o.map (· + q)=some k)(h:∀ k',o=some k'→1≤k'∧k'≤L):1≤k∧k≤L+q:=map_le (p:=0) e h
theorem some_le {k L:Nat}(e:some 1=some k):1≤k∧k≤L+1:=by
 obtain rfl:=Option.some.inj e
 exact ⟨Nat.le_refl _,Nat.le_add_left _ _⟩
theorem iQ (n:Nat):∀ (s:List Nat),s.length<n→(∀ d k,bJ s d=some k→1≤k∧k≤s.length)∧(∀ k,eN s=some k→1≤k∧k≤s.length):=by
 walk_at "a"
 induction n with
 | zero=>intro s h;exact absurd h (Nat.not_lt_zero _)
 | succ n ih =>
  have ihd:∀ (s:List Nat) (p:Nat),s.length<n→(∀ d k,bJ (s.drop p) d=some k→1≤k∧k≤s.length-p)∧(∀ k,eN (s.drop p)=some k→1≤k∧k≤s.length-p):=fun s p h=>by
   have:=ih (s.drop p) (by rw [List.length_drop];exact Nat.lt_of_le_of_lt (Nat.sub_le _ _) h)
   rwa [List.length_drop] at this
  intro s h
  cases s with
  | nil=>exact ⟨fun d k e=>(by rw [bJ] at e;exact nomatch e),fun k e=>(by rw [eN] at e;exact nomatch e)⟩
  | cons c s =>
   have hs:s.length<n:=Nat.lt_of_succ_lt_succ h
   refine ⟨fun d k e=>?_,fun k e=>?_⟩
   ·show 1≤k∧k≤s.length+1
    rw [bJ] at e
    split at e
    ·split at e
     ·exact map_le e ((ihd s _ hs).1 _)
     ·exact nomatch e
    split at e
    ·split at e
     ·exact map_le e ((ihd s _ hs).1 _)
     ·exact nomatch e
    split at e
    ·exact map_le0 e ((ih s hs).1 _)
    split at e
    ·split at e
     ·exact some_le e
     ·exact map_le0 e ((ih s hs).1 _)
    ·exact map_le0 e ((ih s hs).1 _)
   ·cases s with
    | nil =>
     rw [eN] at e
     split at e
     ·exact some_le e
     ·exact nomatch e
    | cons d s =>
     have hs':s.length<n:=Nat.lt_of_succ_lt hs
     show 1≤k∧k≤s.length+1+1
     rw [eN] at e
     split at e
     ·exact some_le e
     split at e
     ·split at e
      ·exact map_le (L:=s.length) (q:=2) e (ihd s _ hs').2
      ·exact nomatch e
     split at e
     ·exact map_le0 (L:=s.length) (q:=2) e (ih s hs').2
     ·exact map_le0 (L:=s.length+1) (q:=1) e (ih (d::s) hs).2
 walk_at "z"
noncomputable def f_skip (N:Nat):FC:=fun i C l a ln rest=>pN fun H=>if okT C∧a≤l.length∧(l.drop a).length<N then (match bJ (l.drop a) 1 with
  | some k=>some (some .none,H.set i (aP C l (a+k) (ln+cnt ((l.drop a).take k)) rest))
  | none=>some (none,H.set i .dT)) else none
noncomputable abbrev p_skip (N:Nat):=dW (f_skip N)
noncomputable def E_parts (Γ:CT)(N:Nat):Prop:=∀ (H:List aE) (i:Nat) (C:Addr) (l:List Nat) (a ln:Nat) (rest:List (Str×V)),Sc H i C l a ln rest→okT C→a≤l.length→(l.drop a).length<N →
 (∀ k,eN (l.drop a)=some k→∃ v,Γ F.at_TextScanner_text_parts [.obj i] H=some (some v,H.set i (aP C l (a+k) (ln+cnt ((l.drop a).take k)) rest))) ∧
 (eN (l.drop a)=none→Γ F.at_TextScanner_text_parts [.obj i] H=some (none,H.set i .dT))
noncomputable abbrev gW (i:Nat)(d:Nat)(sg:Option V)(X:List aE):St:=⟨[some (.obj i),some (.int d),sg],X⟩
theorem skip_c {d:Nat}{sg:Option V}:bS (F.K P) Γ (gW i d sg X)=some (some (decide (d>0)),gW i d sg X):=by
 walk_at "a"
 have e:decide ((d:Int)>0)=decide (d>0):=by by_cases h:d>0<;>simp [h]<;>lia
 rw [← e]
 unfold bS
 repeat walk_at "s"
 walk_at "z"
section
variable (h0:Sc H i C l a ln rest)(hT:okT C)(kS:aH Γ F.at_Scanner_sign eJ)(kT:aH Γ F.at_Scanner_step gN)(kF:aH Γ 182 (failP (F.K P)))
include h0 hT kS kT kF
theorem skip_fail {d:Nat}{sg:Option V}(hs:l.drop b=[])(hb:b≤100):∃ σ',aL (F.K P) Γ (gW i d sg (st1 H i C l rest b m))=some (none,σ')∧σ'.H=st1 H i C l rest b m:=by
 walk_at "a"
 have h:Sc (st1 H i C l rest b m) i C l b m rest:=h0.put (by lia)
 have q0:=fun ρ=>aT (ρ:=ρ) h (dP h.ok P) (by decide)
 have q1:=gC h kS
 have q2:=fun ρ=>aT (ρ:=ρ) h (m_fail h.ok P) (by decide)
 have q3:=fun x=>fail1 h kF x
 rw [hs] at q1
 have f1:(S (([]:List Nat).take 1)==S [])=true:=eQ rfl
 refine ⟨⟨[some (.obj i),some (.int d),some (.str (S (([]:List Nat).take 1)))],st1 H i C l rest b m⟩,?_,rfl⟩
 unfold aL
 rw [w_e,w_o,w_c,w_q,w_d]
 repeat walk_at "s"
 walk_at "z"
theorem skip_open {d c:Nat}{sg:Option V}{s:List Nat}(hs:l.drop b=c::s)(hb:b≤100)(hc:c=123) :
  aL (F.K P) Γ (gW i d sg (st1 H i C l rest b m))=some (some .next,gW i (d+1) (some (.str (S [c]))) (st1 H i C l rest (b+1) (m+nl [c]))):=by
 walk_at "a"
 have h:Sc (st1 H i C l rest b m) i C l b m rest:=h0.put (by lia)
 have h1:Sc (st1 H i C l rest (b+1) (m+nl [c])) i C l (b+1) (m+nl [c]) rest:=h0.put (by lia)
 have tk:(c::s).take 1=[c]:=rfl
 have hs1:l.drop (b+1)=s:=(drop_cons hs).2.1
 have q0:=fun ρ=>aT (ρ:=ρ) h (dP h.ok P) (by decide)
 have q1:=gC h kS
 have q2:=fun ρ=>aT (ρ:=ρ) h (m_step h.ok P) (by decide)
 have q3:=step0 h (by lia) kT
 rw [hs,tk] at q1
 rw [hs,tk,st1_i] at q3
 have f0:(S [c]==S [])=false:=cN (by simp)
 have f1:(S [c]==S [123])=true:=eQ (by rw [hc])
 show _=some (some Fl.next,(⟨[some (.obj i),some (.int ((d:Int)+1)),some (.str (S [c]))],st1 H i C l rest (b+1) (m+nl [c])⟩:St))
 unfold aL
 rw [w_e,w_o,w_c,w_q,w_d]
 repeat walk_at "s"
 walk_at "z"
theorem skip_close {d c:Nat}{sg:Option V}{s:List Nat}(hs:l.drop b=c::s)(hb:b≤100)(hc:c=125) :
  aL (F.K P) Γ (gW i (d+1) sg (st1 H i C l rest b m))=some (some .next,gW i d (some (.str (S [c]))) (st1 H i C l rest (b+1) (m+nl [c]))):=by
 walk_at "a"
 have h:Sc (st1 H i C l rest b m) i C l b m rest:=h0.put (by lia)
 have h1:Sc (st1 H i C l rest (b+1) (m+nl [c])) i C l (b+1) (m+nl [c]) rest:=h0.put (by lia)
 have tk:(c::s).take 1=[c]:=rfl
 have hs1:l.drop (b+1)=s:=(drop_cons hs).2.1
 have q0:=fun ρ=>aT (ρ:=ρ) h (dP h.ok P) (by decide)
 have q1:=gC h kS
 have q2:=fun ρ=>aT (ρ:=ρ) h (m_step h.ok P) (by decide)
 have q3:=step0 h (by lia) kT
 rw [hs,tk] at q1
 rw [hs,tk,st1_i] at q3
 have f0:(S [c]==S [])=false:=cN (by simp)
 have f1:(S [c]==S [123])=false:=cN (by simp [hc])
 have f2:(S [c]==S [125])=true:=eQ (by rw [hc])
 have e:gW i d (some (.str (S [c]))) (st1 H i C l rest (b+1) (m+nl [c]))=(⟨[some (.obj i),some (.int (((d+1:Nat):Int)-1)),some (.str (S [c]))],st1 H i C l rest (b+1) (m+nl [c])⟩:St):=by
  have:((d+1:Nat):Int)-1=d:=by lia
  rw [this]
 rw [e]
 unfold aL
 rw [w_e,w_o,w_c,w_q,w_d]
 repeat walk_at "s"
 walk_at "z"
theorem skip_other {d c:Nat}{sg:Option V}{s:List Nat}(hs:l.drop b=c::s)(hb:b≤100)(g1:c≠123)(g2:c≠125)(g3:c≠39)(g4:c≠34) :
  aL (F.K P) Γ (gW i d sg (st1 H i C l rest b m))=some (some .next,gW i d (some (.str (S [c]))) (st1 H i C l rest (b+1) (m+nl [c]))):=by
 walk_at "a"
 have h:Sc (st1 H i C l rest b m) i C l b m rest:=h0.put (by lia)
 have h1:Sc (st1 H i C l rest (b+1) (m+nl [c])) i C l (b+1) (m+nl [c]) rest:=h0.put (by lia)
 have tk:(c::s).take 1=[c]:=rfl
 have hs1:l.drop (b+1)=s:=(drop_cons hs).2.1
 have q0:=fun ρ=>aT (ρ:=ρ) h (dP h.ok P) (by decide)
 have q1:=gC h kS
 have q2:=fun ρ=>aT (ρ:=ρ) h (m_step h.ok P) (by decide)
 have q3:=step0 h (by lia) kT
 rw [hs,tk] at q1
 rw [hs,tk,st1_i] at q3
 have f0:(S [c]==S [])=false:=cN (by simp)
 have f1:(S [c]==S [123])=false:=cN (by simpa using g1)
 have f2:(S [c]==S [125])=false:=cN (by simpa using g2)
 have f3:(S [c]==S [39])=false:=cN (by simpa using g3)
 have f4:(S [c]==S [34])=false:=cN (by simpa using g4)
 unfold aL
 rw [w_e,w_o,w_c,w_q,w_d]
 repeat walk_at "s"
 walk_at "z"
theorem skip_single {d c:Nat}{sg:Option V}{s:List Nat}(hs:l.drop b=c::s)(hb:b≤100)(hc:c=39){o:Option V}{Y:List aE}(hp:Γ F.at_TextScanner_plain_text [.obj i] (st1 H i C l rest (b+1) (m+nl [c]))=some (o,Y)) :
  aL (F.K P) Γ (gW i d sg (st1 H i C l rest b m))=some (o.map fun _=>Fl.next,gW i d (some (.str (S [c]))) Y):=by
 have h:Sc (st1 H i C l rest b m) i C l b m rest:=h0.put (by lia)
 have h1:Sc (st1 H i C l rest (b+1) (m+nl [c])) i C l (b+1) (m+nl [c]) rest:=h0.put (by lia)
 have tk:(c::s).take 1=[c]:=rfl
 have hs1:l.drop (b+1)=s:=(drop_cons hs).2.1
 have q0:=fun ρ=>aT (ρ:=ρ) h (dP h.ok P) (by decide)
 have q1:=gC h kS
 have q2:=fun ρ=>aT (ρ:=ρ) h (m_step h.ok P) (by decide)
 have q3:=step0 h (by lia) kT
 rw [hs,tk] at q1
 rw [hs,tk,st1_i] at q3
 have f0:(S [c]==S [])=false:=cN (by simp)
 have f1:(S [c]==S [123])=false:=cN (by simp [hc])
 have f2:(S [c]==S [125])=false:=cN (by simp [hc])
 have f3:(S [c]==S [39])=true:=eQ (by rw [hc])
 have q4:=fun ρ=>aT (ρ:=ρ) h1 (m_plain hT P) (by decide)
 cases o with
 | none =>
  have q5:=hp
  show _=some (none,gW i d (some (.str (S [c]))) Y)
  unfold aL
  rw [w_e,w_o,w_c,w_q,w_d]
  repeat walk_at "s"
 | some u =>
  have q5:=hp
  show _=some (some Fl.next,gW i d (some (.str (S [c]))) Y)
  unfold aL
  rw [w_e,w_o,w_c,w_q,w_d]
  repeat walk_at "s"
theorem skip_double {d c:Nat}{sg:Option V}{s:List Nat}(hs:l.drop b=c::s)(hb:b≤100)(hc:c=34){o:Option V}{Y:List aE}(hp:Γ F.at_TextScanner_text_parts [.obj i] (st1 H i C l rest (b+1) (m+nl [c]))=some (o,Y)) :
  aL (F.K P) Γ (gW i d sg (st1 H i C l rest b m))=some (o.map fun _=>Fl.next,gW i d (some (.str (S [c]))) Y):=by
 walk_at "a"
 have h:Sc (st1 H i C l rest b m) i C l b m rest:=h0.put (by lia)
 have h1:Sc (st1 H i C l rest (b+1) (m+nl [c])) i C l (b+1) (m+nl [c]) rest:=h0.put (by lia)
 have tk:(c::s).take 1=[c]:=rfl
 have hs1:l.drop (b+1)=s:=(drop_cons hs).2.1
 have q0:=fun ρ=>aT (ρ:=ρ) h (dP h.ok P) (by decide)
 have q1:=gC h kS
 have q2:=fun ρ=>aT (ρ:=ρ) h (m_step h.ok P) (by decide)
 have q3:=step0 h (by lia) kT
 rw [hs,tk] at q1
 rw [hs,tk,st1_i] at q3
 have f0:(S [c]==S [])=false:=cN (by simp)
 have f1:(S [c]==S [123])=false:=cN (by simp [hc])
 have f2:(S [c]==S [125])=false:=cN (by simp [hc])
 have f3:(S [c]==S [39])=false:=cN (by simp [hc])
 have f4:(S [c]==S [34])=true:=eQ (by rw [hc])
 have q4:=fun ρ=>aT (ρ:=ρ) h1 (m_parts hT P) (by decide)
 cases o with
 | none =>
  have q5:=hp
  show _=some (none,gW i d (some (.str (S [c]))) Y)
  unfold aL
  rw [w_e,w_o,w_c,w_q,w_d]
  repeat walk_at "s"
 | some u =>
  have q5:=hp
  show _=some (some Fl.next,gW i d (some (.str (S [c]))) Y)
  unfold aL
  rw [w_e,w_o,w_c,w_q,w_d]
  repeat walk_at "s"
 walk_at "z"
variable (kP:aH Γ F.at_TextScanner_plain_text p_plain)
include kP
noncomputable def SG (P:Params)(Γ:CT)(i:Nat)(C:Addr)(l:List Nat)(rest:List (Str×V))(H:List aE)(n d:Nat)(sg:Option V)(b m:Nat)(o:Option Nat):Prop:=match o with
 | some k=>∃ d' sg',cW n (bS (F.K P) Γ) (aL (F.K P) Γ) (gW i d sg (st1 H i C l rest b m))=some (some .next,gW i d' sg' (st1 H i C l rest (b+k) (m+cnt ((l.drop b).take k))))
 | none=>∃ σ' o,cW n (bS (F.K P) Γ) (aL (F.K P) Γ) (gW i d sg (st1 H i C l rest b m))=some (none,σ')∧σ'.H=H.set i o
section
omit h0 hT kS kT kF kP
theorem skip_c1 {d:Nat}{sg:Option V}:bS (F.K P) Γ (gW i (d+1) sg X)=some (some true,gW i (d+1) sg X):=by
 walk_at "a"
 rw [skip_c,show decide (d+1>0)=true by simp]
 walk_at "z"
theorem SG.go {n r x d d2:Nat}{sg sg2:Option V}{o:Option Nat}(hb:aL (F.K P) Γ (gW i (d+1) sg (st1 H i C l rest b m))=some (some .next,gW i d2 sg2 (st1 H i C l rest (b+r) (m+x))))(hx:x=cnt ((l.drop b).take r))
  (ih:SG P Γ i C l rest H n d2 sg2 (b+r) (m+x) o):SG P Γ i C l rest H (n+1) (d+1) sg b m (o.map (· + r)):=by
 walk_at "a"
 cases o with
 | none =>
  obtain ⟨σ',o,e1,e2⟩:=ih
  exact ⟨σ',o,(dK skip_c1 hb).trans e1,e2⟩
 | some k =>
  obtain ⟨d',sg',e1⟩:=ih
  have e5:m+x+cnt ((l.drop (b+r)).take k)=m+cnt ((l.drop b).take (k+r)):=by
   rw [hx,Nat.add_comm k,List.take_add,show cnt ((l.drop b).take r++((l.drop b).drop r).take k)=cnt ((l.drop b).take r)+cnt (((l.drop b).drop r).take k) from List.count_append,List.drop_drop,Nat.add_assoc]
  rw [e5,Nat.add_assoc,Nat.add_comm r] at e1
  exact ⟨d',sg',(dK skip_c1 hb).trans e1⟩
 walk_at "z"
theorem SG.out {n d:Nat}{sg:Option V}{o:Option Nat}{σ':St}(hb:aL (F.K P) Γ (gW i (d+1) sg (st1 H i C l rest b m))=some (none,σ')){u:aE}(e:σ'.H=H.set i u)(ho:o=none):SG P Γ i C l rest H (n+1) (d+1) sg b m o:=by
 walk_at "a"
 subst ho
 exact ⟨σ',u,by rw [while_step skip_c1,M.bind_raise hb],e⟩
 walk_at "z"
end
theorem skip_in {n d k c:Nat}{s:List Nat}{sg:Option V}(hs:l.drop b=c::s)(hb':aL (F.K P) Γ (gW i (d+1) sg (st1 H i C l rest b m))=some (some .next,gW i (d+1) (some (.str (S [c]))) (st1 H i C l rest (b+1+k) (m+nl [c]+cnt (s.take k)))))
  (ih:SG P Γ i C l rest H n (d+1) (some (.str (S [c]))) (b+(1+k)) (m+(nl [c]+cnt (s.take k))) (bJ (l.drop (b+(1+k))) (d+1))):SG P Γ i C l rest H (n+1) (d+1) sg b m ((bJ (s.drop k) (d+1)).map (· + (1+k))):=by
 walk_at "a"
 rw [← List.drop_drop,hs,Nat.add_comm 1 k] at ih
 rw [Nat.add_comm 1 k]
 refine SG.go (x:=nl [c]+cnt (s.take k)) (r:=k+1) ?_ (by rw [hs,List.take_succ_cons,cnt_cons]) ih
 rw [hb',Nat.add_right_comm b,Nat.add_assoc b,Nat.add_assoc m]
 walk_at "z"
theorem skip_t {N n d c:Nat}{s:List Nat}{sg:Option V}(hE:E_parts Γ N)(hs:l.drop b=c::s)(hN:(l.drop b).length≤N)(hn:1≤n)
  (ih:∀ r x d sg,1≤r→r≤s.length+1→SG P Γ i C l rest H n (d+1) sg (b+r) (m+x) (bJ (l.drop (b+r)) (d+1))):SG P Γ i C l rest H (n+1) (d+1) sg b m (bJ (c::s) (d+1)):=by
 walk_at "a"
 have hll:=h0.hl
 have hs1:l.drop (b+1)=s:=(drop_cons hs).2.1
 have hlt:=(drop_cons hs).2.2
 have hb100:b≤100:=by lia
 have hsl:(l.drop b).length=s.length+1:=by rw [hs];rfl
 have h1:Sc (st1 H i C l rest (b+1) (m+nl [c])) i C l (b+1) (m+nl [c]) rest:=h0.put (by lia)
 have hx1:nl [c]=cnt ((l.drop b).take 1):=by rw [hs,show (c::s).take 1=[c] from rfl,cnt_cons];rfl
 have i1:=fun d=>ih 1 (nl [c]) d (some (.str (S [c]))) (Nat.le_refl _) (Nat.succ_le_succ (Nat.zero_le _))
 rw [hs1] at i1
 rw [bJ]
 split
 ·
  rename_i hq
  have e1:=cG (f:=f_plain) (more:=[]) h1
  have e2:f_plain i C l (b+1) (m+nl [c]) rest [] (st1 H i C l rest (b+1) (m+nl [c]))=(match cO s with
    | some (t,k)=>some (some (.str (S t)),H.set i (aP C l (b+1+k) (m+nl [c]+cnt (s.take k)) rest))
    | none=>some (none,H.set i .dT)):=by
   unfold f_plain pN
   simp only [hs1]
   rw [if_pos (show b+1≤l.length from hlt)]
   split<;>simp only [*,st1_i]
  cases hsp:cO s with
  | none =>
   rw [hsp] at e2
   exact SG.out (skip_single (P:=P) (d:=d+1) (sg:=sg) h0 hT kS kT kF hs hb100 hq (kP _ _ _ (e1.trans e2))) (u:=.dT) rfl rfl
  | some p =>
   obtain ⟨t,k⟩:=p
   rw [hsp] at e2
   exact skip_in h0 hT kS kT kF kP hs (skip_single (P:=P) (d:=d+1) (sg:=sg) h0 hT kS kT kF hs hb100 hq (kP _ _ _ (e1.trans e2))) (ih _ _ d _ (by lia) (by have:=(fR s hsp).2.1;lia))
 split
 ·rename_i hq3 hq
  obtain ⟨E1,E2⟩:=hE (st1 H i C l rest (b+1) (m+nl [c])) i C l (b+1) (m+nl [c]) rest h1 hT hlt (by rw [hs1];lia)
  rw [hs1] at E1 E2
  cases hsp:eN s with
  | none =>
   have hp:=E2 hsp
   rw [st1_i] at hp
   exact SG.out (skip_double (P:=P) (d:=d+1) (sg:=sg) h0 hT kS kT kF hs hb100 hq hp) (u:=.dT) rfl rfl
  | some k =>
   obtain ⟨v,hp⟩:=E1 k hsp
   rw [st1_i] at hp
   exact skip_in h0 hT kS kT kF kP hs (skip_double (P:=P) (d:=d+1) (sg:=sg) h0 hT kS kT kF hs hb100 hq hp) (ih _ _ d _ (by lia) (by have:=((iQ (s.length+1) s (Nat.lt_succ_self _)).2 k hsp).2;lia))
 split
 ·rename_i hq
  exact SG.go (skip_open (P:=P) (d:=d+1) (sg:=sg) h0 hT kS kT kF hs hb100 hq) hx1 (i1 (d+1))
 split
 ·rename_i hq
  have hb':=skip_close (P:=P) (m:=m) (d:=d) (sg:=sg) h0 hT kS kT kF hs hb100 hq
  cases d with
  | zero =>
   rw [if_pos rfl]
   obtain ⟨n,rfl⟩:∃ n',n=n'+1:=⟨n-1,by lia⟩
   refine ⟨0,some (.str (S [c])),?_⟩
   rw [dK skip_c1 hb',dX (skip_c (P:=P) (Γ:=Γ) (i:=i) (d:=0)),← hx1]
  | succ d =>
   rw [if_neg (by lia)]
   exact SG.go hb' hx1 (i1 d)
 ·rename_i g3 g4 g1 g2
  exact SG.go (skip_other (P:=P) (d:=d+1) (sg:=sg) h0 hT kS kT kF hs hb100 g1 g2 g3 g4) hx1 (i1 d)
 walk_at "z"
theorem skip_loop {N:Nat}(hE:E_parts Γ N):∀ (n b m d:Nat) (sg:Option V),(l.drop b).length+1<n→b≤l.length→(l.drop b).length≤N→SG P Γ i C l rest H n (d+1) sg b m (bJ (l.drop b) (d+1)):=by
 walk_at "a"
 intro n
 induction n with
 | zero=>intro b m d sg hn;exact absurd hn (Nat.not_lt_zero _)
 | succ n ih =>
  intro b m d sg hn hb hN
  cases hs:l.drop b with
  | nil =>
   obtain ⟨σ',e1,e2⟩:=skip_fail (P:=P) (m:=m) (d:=d+1) (sg:=sg) h0 hT kS kT kF hs (by have:=h0.hl;lia)
   exact SG.out e1 e2 (by rw [bJ])
  | cons c s =>
   have hsl:(l.drop b).length=s.length+1:=by rw [hs];rfl
   have hll:(l.drop b).length=l.length-b:=List.length_drop
   exact skip_t h0 hT kS kT kF kP hE hs hN (by lia) fun r x d sg h1 h2=>ih (b+r) (m+x) d sg (by rw [List.length_drop];lia) (by lia) (by rw [List.length_drop];lia)
 walk_at "z"
end
theorem lost_close {o:aE}(h:i<H.length):cX H (H.set i o) (H.set i .dT):=close_at (by simp) (fun j _ hj=>fW hj) (.inl rfl)
section
variable {prog:Program}{w:World}{sl:Addr}{sn:List Int}{n:Nat}
theorem skip_ok (N:Nat)(G:GOK prog w (KK w) (.ref 59) sl sn Γ n)(kS:aH Γ F.at_Scanner_sign eJ)(kT:aH Γ F.at_Scanner_step gN)(kF:aH Γ 182 (failP (KK w)))(kP:aH Γ F.at_TextScanner_plain_text p_plain)(hE:E_parts Γ N) :
  GOK prog w (KK w) (.ref 59) sl sn (ov F.at_TextScanner_skip_code (p_skip (N+1)) Γ) (n+1):=by
 walk_at "a"
 refine ok_TextScanner_skip_code G fun vs H r h0=>?_
 refine fD h0 fun i more C l a ln rest e hS h1x=>pN_e h1x fun e2 h2x=>fL h2x fun ha h=>?_
 subst e2 e
 have hl:=hS.hl
 have LL:=skip_loop (P:=w.params) (Γ:=Γ) hS ha.1 kS kT kF kP hE 100 a ln 0 none (by rw [List.length_drop];lia) ha.2.1 (by lia)
 have e0:st1 H i C l rest a ln=H:=by
  refine List.ext_getElem? fun x=>?_
  rw [List.getElem?_set]
  split
  ·rename_i q;subst q;rw [if_pos hS.lt,hS.at_]
  ·rfl
 split at h
 ·rename_i k hk
  cases h
  rw [hk] at LL
  obtain ⟨d',sg',L⟩:=LL
  rw [e0] at L
  have hk1:=(iQ ((l.drop a).length+1) _ (by lia)).1 _ _ hk
  have q1:cW 100 (bS (KK w) Γ) (aL (KK w) Γ) ⟨[some (.obj i),some (.int 1),none],H⟩=_:=L
  refine .of (by simp) [.obj i] rfl rfl (some .next) (gW i d' sg' (st1 H i C l rest (a+k) (ln+cnt ((l.drop a).take k)))) ?_ (ends_next hS.close)
  show cJ (KK w) Γ ⟨[some (.obj i),none,none],H⟩=_
  unfold cJ
  repeat walk_at "s"
 ·rename_i hk
  cases h
  rw [hk] at LL
  obtain ⟨σ',o,L,e2⟩:=LL
  rw [e0] at L
  have q1:cW 100 (bS (KK w) Γ) (aL (KK w) Γ) ⟨[some (.obj i),some (.int 1),none],H⟩=_:=L
  refine .of (by simp) [.obj i] rfl rfl none σ' ?_ (iO (by rw [e2];exact lost_close hS.lt))
  show cJ (KK w) Γ ⟨[some (.obj i),none,none],H⟩=_
  unfold cJ
  repeat walk_at "s"
 walk_at "z"
end
noncomputable def f_code (N:Nat):FC:=fun i C l a ln rest=>pN fun H=>if okT C∧a+2≤l.length∧(l.drop a).length<N then (match bJ (l.drop (a+2)) 1 with
  | some k=>some (some (.tup [.str (S ((l.drop (a+2)).take (k-1))),.int ln]),H.set i (aP C l (a+2+k) (ln+cnt ((l.drop (a+2)).take k)) rest))
  | none=>some (none,H.set i .dT)) else none
noncomputable abbrev p_code (N:Nat):=dW (f_code N)
section
variable {prog:Program}{w:World}{sl:Addr}{sn:List Int}{n:Nat}
theorem code_ok (N:Nat)(G:GOK prog w (KK w) (.ref 59) sl sn Γ n)(kK:aH Γ F.at_TextScanner_skip_code (p_skip N)) :
  GOK prog w (KK w) (.ref 59) sl sn (ov F.at_TextScanner_code (p_code N) Γ) (n+1):=by
 walk_at "a"
 refine ok_TextScanner_code G fun vs H r h0=>?_
 refine fD h0 fun i more C l a ln rest e hS h1x=>pN_e h1x fun e2 h2x=>fL h2x fun ha h=>?_
 subst e2 e
 have hl:=hS.hl
 have h1:Sc (st1 H i C l rest (a+2) ln) i C l (a+2) ln rest:=hS.put (by lia)
 have hlt:(l.drop (a+2)).length<N:=by have:=ha.2.2;rw [List.length_drop] at this ⊢;lia
 have e1:=cG (f:=f_skip N) (more:=[]) h1
 have e2:f_skip N i C l (a+2) ln rest [] (st1 H i C l rest (a+2) ln)=(match bJ (l.drop (a+2)) 1 with
   | some k=>some (some .none,H.set i (aP C l (a+2+k) (ln+cnt ((l.drop (a+2)).take k)) rest))
   | none=>some (none,H.set i .dT)):=by
  unfold f_skip pN
  simp only
  rw [if_pos ⟨ha.1,ha.2.1,hlt⟩]
  split<;>simp only [*,st1_i]
 have q0:=fun ρ=>bZ (ρ:=ρ) (P:=w.params) hS.ok hS.at_
 have q1:=fun ρ=>place2 (ρ:=ρ) (P:=w.params) hS
 have q2:=fun ρ=>bZ (ρ:=ρ) (P:=w.params) h1.ok h1.at_
 have q3:=fun ρ=>get_line (ρ:=ρ) (P:=w.params) h1.ok h1.at_
 have q4:=fun ρ=>aT (ρ:=ρ) h1 (m_skip ha.1 w.params) (by decide)
 split at h
 ·rename_i k hk
  cases h
  rw [hk] at e2
  have q5:=kK _ _ _ (e1.trans e2)
  have hk1:=(iQ ((l.drop (a+2)).length+1) _ (by lia)).1 _ _ hk
  have hkl:a+2+k≤l.length:=by have:=hk1.2;rw [List.length_drop] at this;lia
  have h2:Sc (st1 H i C l rest (a+2+k) (ln+cnt ((l.drop (a+2)).take k))) i C l (a+2+k) (ln+cnt ((l.drop (a+2)).take k)) rest:=hS.put (by lia)
  have q6:=fun ρ=>get_source (ρ:=ρ) (P:=w.params) h2.ok h2.at_
  have q7:=fun ρ=>bZ (ρ:=ρ) (P:=w.params) h2.ok h2.at_
  have hl2:l.length≤1000:=by lia
  have ei:(((a+2+k:Nat):Int)-1)=((a+2+(k-1):Nat):Int):=by lia
  have es:(l.take (a+2+(k-1))).drop (a+2)=(l.drop (a+2)).take (k-1):=by rw [List.drop_take,Nat.add_sub_cancel_left]
  have q8:∀ σ,bM (.str (S l)) (.int ((a+2:Nat):Int)) (.int (((a+2+k:Nat):Int)-1)) σ=some (some (.str (S ((l.drop (a+2)).take (k-1)))),σ):=fun σ=>by
   rw [ei,sl_ss hl2,es]
  refine .of (by simp) [.obj i] rfl rfl (some (.ret (.tup [.str (S ((l.drop (a+2)).take (k-1))),.int ln]))) (⟨[some (.obj i),some (.int ((a+2:Nat):Int)),some (.int ln)],st1 H i C l rest (a+2+k) (ln+cnt ((l.drop (a+2)).take k))⟩) ?_ (cE hS.close (.same rfl))
  show dE (KK w) Γ ⟨[some (.obj i),none,none],H⟩=_
  unfold dE
  repeat walk_at "s"
 ·rename_i hk
  cases h
  rw [hk] at e2
  have q5:=kK _ _ _ (e1.trans e2)
  refine .of (by simp) [.obj i] rfl rfl none (⟨[some (.obj i),some (.int ((a+2:Nat):Int)),some (.int ln)],H.set i .dT⟩) ?_ (iO (lost_close hS.lt))
  show dE (KK w) Γ ⟨[some (.obj i),none,none],H⟩=_
  unfold dE
  repeat walk_at "s"
 walk_at "z"
end
end
end Mine
end
section
namespace Mine
noncomputable def iD (c:Nat):List Nat:=if c=110 then [10] else if c=116 then [9] else if c=115 then [32] else if c=101 then [27] else if c=48 then [0] else if c=114 then [13] else if c=10 then [] else [c]
noncomputable def escT:List (Str×V):=[(S [110],.str (S [10])),(S [116],.str (S [9])),(S [115],.str (S [32])),(S [101],.str (S [27])),(S [48],.str (S [0])),(S [114],.str (S [13])),(S [10],.str (S []))]
theorem esc_tab (P:Params):tabK (F.K P) 79=some escT:=by kernel_rfl
theorem dat_S {V':Type}{c d:Nat}{x:V'}{D:List (Str×V')}:datumAt (S [c]) ((S [d],x)::D)=if c=d then some x else datumAt (S [c]) D:=by
 walk_at "a"
 show (if decide (S [c]=S [d])=true then _ else _)=_
 by_cases h:c=d
 ·subst h;simp
 ·have:¬ S [c]=S [d]:=fun e=>h (by simpa using S_inj e)
  rw [if_neg (by simpa using this),if_neg h]
 walk_at "z"
theorem dat_N {V':Type}{k:Str}:datumAt k ([]:List (Str×V'))=none:=rfl
theorem get_esc {P:Params}{c:Nat}{σ:St}:bG (F.K P) "dict.get" [.const 79,.str (S [c]),.str (S [c])] σ=some (some (.str (S (iD c))),σ):=by
 walk_at "a"
 have e0:bG (F.K P) "dict.get" [.const 79,.str (S [c]),.str (S [c])]=bGet (F.K P) [.const 79,.str (S [c]),.str (S [c])]:=by unfold bG;rfl
 have e1:fN (F.K P) (.const 79)=some escT:=esc_tab P
 rw [e0]
 rw [bGet3 e1]
 have:(datumAt (S [c]) escT).getD (.str (S [c]))=.str (S (iD c)):=by
  unfold escT iD
  simp only [dat_S,dat_N]
  repeat' split
  all_goals rfl
 rw [this,bF]
 walk_at "z"
theorem getM_get {P:Params}{σ:St}:getM (F.K P) (Str.ofString "get") (.const 79) σ=some (some (.bi "dict.get",[.const 79]),σ):=by
 have e1:fN (F.K P) (.const 79)=some escT:=esc_tab P
 exact getM_tab e1 rfl rfl
section
variable {P:Params}{C:Addr}{l:List Nat}{a b m ln:Nat}{rest:List (Str×V)}{H X:List aE}{ρ:List (Option V)}{i j:Nat}{Γ:CT}{vs:List V}
noncomputable def f_esc:FC:=fun i C l a ln rest=>pN fun H=>if okT C∧a+1≤l.length then (match l.drop (a+1) with
  | c::_=>some (some (.str (S (iD c))),H.set i (aP C l (a+2) (ln+nl [c]) rest))
  | []=>some (none,H.set i .dT)) else none
noncomputable abbrev p_esc:=dW f_esc
section
variable {prog:Program}{w:World}{sl:Addr}{sn:List Int}{n:Nat}
theorem esc_ok (G:GOK prog w (KK w) (.ref 59) sl sn Γ n)(kT:aH Γ F.at_Scanner_step gN)(kF:aH Γ 182 (failP (KK w))) :
  GOK prog w (KK w) (.ref 59) sl sn (ov F.at_TextScanner_escaped p_esc Γ) (n+1):=by
 walk_at "a"
 refine ok_TextScanner_escaped G fun vs H r h0=>?_
 refine fD h0 fun i more C l a ln rest e hS h1x=>pN_e h1x fun e2 h2x=>fL h2x fun ha h=>?_
 subst e2 e
 have hl:=hS.hl
 have h1:Sc (st1 H i C l rest (a+1) ln) i C l (a+1) ln rest:=hS.put (by lia)
 have q0:=fun ρ=>bZ (ρ:=ρ) (P:=w.params) hS.ok hS.at_
 have q1:=fun ρ=>place1 (ρ:=ρ) (P:=w.params) hS
 have q2:=fun ρ=>aT (ρ:=ρ) h1 (m_step h1.ok w.params) (by decide)
 have q3:=step0 h1 (by lia) kT
 rw [st1_i] at q3
 split at h
 ·rename_i c s hs
  cases h
  have tk:(c::s).take 1=[c]:=rfl
  rw [hs,tk] at q3
  have f0:(S [c]==S [])=false:=cN (by simp)
  have q4:=fun σ=>get_esc (P:=w.params) (c:=c) (σ:=σ)
  have q5:=fun σ=>getM_get (P:=w.params) (σ:=σ)
  refine .of (by simp) [.obj i] rfl rfl (some (.ret (.str (S (iD c))))) (⟨[some (.obj i),some (.str (S [c]))],st1 H i C l rest (a+2) (ln+nl [c])⟩) ?_ (cE hS.close (.same rfl))
  show cQ (KK w) Γ ⟨[some (.obj i),none],H⟩=_
  unfold cQ
  rw [w_e]
  repeat walk_at "s"
 ·rename_i hs
  cases h
  rw [hs] at q3
  have f0:(S (([]:List Nat).take 1)==S [])=true:=eQ rfl
  have h2:Sc (st1 H i C l rest (a+1+1) (ln+nl (([]:List Nat).take 1))) i C l (a+1+1) (ln+nl (([]:List Nat).take 1)) rest:=hS.put (by lia)
  have q4:=fun ρ=>aT (ρ:=ρ) h2 (m_fail h2.ok w.params) (by decide)
  have q5:=fun x=>fail1 h2 kF x
  refine .of (by simp) [.obj i] rfl rfl none (⟨[some (.obj i),some (.str (S (([]:List Nat).take 1)))],st1 H i C l rest (a+1+1) (ln+nl (([]:List Nat).take 1))⟩) ?_ (iO (lost_close hS.lt))
  show cQ (KK w) Γ ⟨[some (.obj i),none],H⟩=_
  unfold cQ
  rw [w_e]
  repeat walk_at "s"
 walk_at "z"
end
end
end Mine
end
section
namespace Mine
inductive Pt | txt (t:List Nat) | cod (t:List Nat)(n:Nat)
noncomputable def vPt:Pt→V
 | .txt t=>.str (S t)
 | .cod t n=>.tup [.str (S t),.int n]
noncomputable def glue (t:List Nat)(ps:List Pt):List Pt:=match ps with
 | .txt u::r=>.txt (t++u)::r
 | ps=>if t=[] then ps else .txt t::ps
noncomputable def bA:Nat→List Nat→Option (List Pt×Nat)
 | _,[]=>none
 | _,[c]=>if c=34 then some ([],1) else none
 | ln,c::d::s =>
  if c=34 then some ([],1)
  else if c=35∧d=123 then (match bJ s 1 with
   | some k=>(bA (ln+cnt (s.take k)) (s.drop k)).map fun p=>(.cod (s.take (k-1)) ln::p.1,p.2+(2+k))
   | none=>none)
  else if c=92 then (bA (ln+nl [d]) s).map fun p=>(glue (iD d) p.1,p.2+2)
  else (bA (ln+nl [c]) (d::s)).map fun p=>(glue [c] p.1,p.2+1)
termination_by _ s=>s.length
decreasing_by all_goals simp_wf;all_goals first | lia | (simp only [List.length_drop,List.length_cons];lia)
theorem glue_glue (t u:List Nat)(ps:List Pt):glue t (glue u ps)=glue (t++u) ps:=by
 walk_at "a"
 rcases ps with _ | ⟨_ | _,r⟩
 ·unfold glue
  by_cases hu:u=[]
  ·subst hu;simp
  ·simp [hu]
 ·simp [glue,List.append_assoc]
 ·unfold glue
  by_cases hu:u=[]
  ·subst hu;simp
  ·simp [hu]
 walk_at "z"
theorem glue_nil (ps:List Pt):glue [] ps=ps:=by
 rcases ps with _ | ⟨_ | _,r⟩<;>simp [glue]
theorem double_end:∀ (n:Nat) (ln:Nat) (s:List Nat),s.length<n→(bA ln s).map (·.2)=eN s
 | 0,ln,s,h=>by lia
 | n+1,ln,s,h=>by
  have ih:=double_end n
  match s,h with
  | [],h=>rw [bA,eN];rfl
  | [c],h=>rw [bA,eN];split<;>rfl
  | c::d::s,h =>
   simp only [List.length_cons] at h
   rw [bA,eN]
   split
   ·rfl
   ·split
    ·cases hk:bJ s 1 with
     | none=>rfl
     | some k=>simp only [Option.map_map];rw [← ih (ln+cnt (s.take k)) (s.drop k) (by simp;lia),Option.map_map];rfl
    ·split
     ·rw [Option.map_map,← ih (ln+nl [d]) s (by lia),Option.map_map];rfl
     ·rw [Option.map_map,← ih (ln+nl [c]) (d::s) (by simp;lia),Option.map_map];rfl
noncomputable def outP (acc ps:List Pt):List Pt:=if acc++ps=[] then [.txt []] else acc++ps
noncomputable def finP (acc:List Pt)(t:List Nat):List Pt:=if t≠[]∨acc=[] then acc++[.txt t] else acc
theorem fin_out (acc:List Pt)(t:List Nat):finP acc t=outP acc (glue t []):=by
 unfold finP outP glue
 by_cases ht:t=[]
 ·subst ht
  by_cases ha:acc=[]
  ·subst ha;simp
  ·simp [ha]
 ·simp [ht]
theorem out_cod (acc:List Pt)(t:List Nat)(u:List Nat)(n:Nat)(ps:List Pt):outP ((if t=[] then acc else acc++[Pt.txt t])++[.cod u n]) (glue [] ps)=outP acc (glue t (.cod u n::ps)):=by
 walk_at "a"
 rw [glue_nil]
 unfold outP glue
 by_cases ht:t=[]
 ·subst ht;simp
 ·simp [ht]
 walk_at "z"
section
variable {P:Params}{C:Addr}{l:List Nat}{a b m ln:Nat}{rest:List (Str×V)}{H X:List aE}{ρ:List (Option V)}{i j:Nat}{Γ:CT}{vs:List V}
theorem begins2 (h:Sc X i C l b m rest)(k:aH Γ F.at_Scanner_begins p_begins):Γ F.at_Scanner_begins [.obj i,.str (S [35,123])] X=some (some (.bool ((l.drop b).take 2==[35,123])),X):=by
 walk_at "a"
 exact k _ _ _ (by
  show dW f_begins _ X=_
  rw [cG (f:=f_begins) h]
  show (if (S [35,123]).length≤100 then some (some (V.bool ((l.drop b).take (S [35,123]).length==(S [35,123]).cps.toList)),X) else none)=_
  rw [if_pos (by rw [cD];decide),cD]
  rfl)
 walk_at "z"
noncomputable abbrev iB (i j:Nat)(t:List Nat)(X:List aE):St:=⟨[some (.obj i),some (.obj j),some (.str (S t))],X⟩
theorem c_eqO {σH:List aE}(hX:σH[j]? = some (.list vs)):aY .Eq (.obj j) (.lst []) ⟨ρ,σH⟩=some (some (.bool vs.isEmpty),⟨ρ,σH⟩):=by
 walk_at "a"
 have:aY .Eq (.obj j) (.lst [])=fun σ=>(match σ.H[j]? with | some (.list vs)=>some (some (.bool vs.isEmpty),σ) | _=>none):=rfl
 rw [this]
 simp only [hX]
 walk_at "z"
section
variable (h:Sc X i C l b m rest)(kS:aH Γ F.at_Scanner_sign eJ)
include h kS
theorem parts_c {t:List Nat}:bK (F.K P) Γ (iB i j t X)=some (some (S ((l.drop b).take 1) != S [34]),iB i j t X):=by
 walk_at "a"
 have q0:=fun ρ=>aT (ρ:=ρ) h (dP h.ok P) (by decide)
 have q1:=gC h kS
 unfold bK
 rw [w_d]
 repeat walk_at "s"
 walk_at "z"
theorem parts_fail (kF:aH Γ 182 (failP (F.K P))){t:List Nat}(hs:l.drop b=[]):aN (F.K P) Γ (iB i j t X)=some (none,iB i j t X):=by
 walk_at "a"
 have q0:=fun ρ=>aT (ρ:=ρ) h (dP h.ok P) (by decide)
 have q1:=gC h kS
 have q2:=fun ρ=>aT (ρ:=ρ) h (m_fail h.ok P) (by decide)
 have q3:=fun x=>fail1 h kF x
 have f1:(S ((l.drop b).take 1)==S [])=true:=eQ (by rw [hs];rfl)
 unfold aN
 rw [w_e,w_b,w_h]
 repeat walk_at "s"
 walk_at "z"
end
section
variable (h0:Sc H i C l a ln rest)(hT:okT C)(hij:i≠j)(hj:j<H.length)(kS:aH Γ F.at_Scanner_sign eJ)(kT:aH Γ F.at_Scanner_step gN)(kB:aH Γ F.at_Scanner_begins p_begins)
include h0 hT hij hj kS kT kB
theorem parts_one {c:Nat}{s t:List Nat}(hs:l.drop b=c::s)(hb:b≤100)(ht:t.length≤1000)(g1:c≠92)(g2:(c::s).take 2≠[35,123]) :
  aN (F.K P) Γ (iB i j t (st2 H i C l rest j b m vs))=some (some .next,iB i j (t++[c]) (st2 H i C l rest j (b+1) (m+nl [c]) vs)):=by
 walk_at "a"
 have h:Sc (st2 H i C l rest j b m vs) i C l b m rest:=fP h0 hij (by lia)
 have tk:(c::s).take 1=[c]:=rfl
 have hs1:l.drop (b+1)=s:=(drop_cons hs).2.1
 have q0:=fun ρ=>aT (ρ:=ρ) h (dP h.ok P) (by decide)
 have q1:=gC h kS
 rw [hs,tk] at q1
 have f0:(S [c]==S [])=false:=cN (by simp)
 have f1:(S [c]==S [92])=false:=cN (by simpa using g1)
 have q2:=fun ρ=>aT (ρ:=ρ) h (m_begins h.ok P) (by decide)
 have q3:=begins2 h kB
 rw [hs,beq_eq_false_iff_ne.mpr g2] at q3
 have q4:=fun ρ=>aT (ρ:=ρ) h (m_step h.ok P) (by decide)
 have q5:=step0 h (by lia) kT
 rw [hs,tk,st2_i hij] at q5
 have hadd:(S t).length+(S [c]).length≤100000:=by rw [cD,cD];simp;lia
 have q6:∀ σ,iopV .Add (.str (S t)) (.str (S [c])) σ=some (some (.str (S (t++[c]))),σ):=fun σ=>by rw [i_addS hadd,S_app]
 unfold aN
 rw [w_e,w_b,w_h]
 repeat walk_at "s"
 walk_at "z"
theorem parts_esc {c:Nat}{s t:List Nat}(hs:l.drop b=c::s)(hb:b≤100)(ht:t.length≤1000)(hc:c=92){d:Nat}{b' m':Nat}
  (hp:Γ F.at_TextScanner_escaped [.obj i] (st2 H i C l rest j b m vs)=some (some (.str (S (iD d))),st2 H i C l rest j b' m' vs)) :
  aN (F.K P) Γ (iB i j t (st2 H i C l rest j b m vs))=some (some .next,iB i j (t++iD d) (st2 H i C l rest j b' m' vs)):=by
 walk_at "a"
 have h:Sc (st2 H i C l rest j b m vs) i C l b m rest:=fP h0 hij (by lia)
 have tk:(c::s).take 1=[c]:=rfl
 have hs1:l.drop (b+1)=s:=(drop_cons hs).2.1
 have q0:=fun ρ=>aT (ρ:=ρ) h (dP h.ok P) (by decide)
 have q1:=gC h kS
 rw [hs,tk] at q1
 have f0:(S [c]==S [])=false:=cN (by simp)
 have f1:(S [c]==S [92])=true:=eQ (by rw [hc])
 have q2:=fun ρ=>aT (ρ:=ρ) h (m_esc hT P) (by decide)
 have q3:=hp
 have hle:(iD d).length≤1:=by
  unfold iD
  repeat' split
  all_goals simp
 have hadd:(S t).length+(S (iD d)).length≤100000:=by rw [cD,cD];lia
 have q6:∀ σ,iopV .Add (.str (S t)) (.str (S (iD d))) σ=some (some (.str (S (t++iD d))),σ):=fun σ=>by rw [i_addS hadd,S_app]
 unfold aN
 rw [w_e,w_b,w_h]
 repeat walk_at "s"
 walk_at "z"
theorem parts_escx {c:Nat}{s t:List Nat}(hs:l.drop b=c::s)(hb:b≤100)(hc:c=92){Y:List aE}
  (hp:Γ F.at_TextScanner_escaped [.obj i] (st2 H i C l rest j b m vs)=some (none,Y)) :
  aN (F.K P) Γ (iB i j t (st2 H i C l rest j b m vs))=some (none,iB i j t Y):=by
 walk_at "a"
 have h:Sc (st2 H i C l rest j b m vs) i C l b m rest:=fP h0 hij (by lia)
 have tk:(c::s).take 1=[c]:=rfl
 have hs1:l.drop (b+1)=s:=(drop_cons hs).2.1
 have q0:=fun ρ=>aT (ρ:=ρ) h (dP h.ok P) (by decide)
 have q1:=gC h kS
 rw [hs,tk] at q1
 have f0:(S [c]==S [])=false:=cN (by simp)
 have f1:(S [c]==S [92])=true:=eQ (by rw [hc])
 have q2:=fun ρ=>aT (ρ:=ρ) h (m_esc hT P) (by decide)
 have q3:=hp
 unfold aN
 rw [w_e,w_b,w_h]
 repeat walk_at "s"
 walk_at "z"
theorem parts_code {c:Nat}{s t:List Nat}(hs:l.drop b=c::s)(hb:b≤100)(hv:vs.length≤1000)(g1:c≠92)(g2:(c::s).take 2=[35,123]){v:V}{b' m':Nat}
  (hp:∀ us,Γ F.at_TextScanner_code [.obj i] (st2 H i C l rest j b m us)=some (some v,st2 H i C l rest j b' m' us)) :
  aN (F.K P) Γ (iB i j t (st2 H i C l rest j b m vs))=some (some .next,iB i j [] (st2 H i C l rest j b' m' ((if t=[] then vs else vs++[.str (S t)])++[v]))):=by
 walk_at "a"
 have h:Sc (st2 H i C l rest j b m vs) i C l b m rest:=fP h0 hij (by lia)
 have tk:(c::s).take 1=[c]:=rfl
 have hs1:l.drop (b+1)=s:=(drop_cons hs).2.1
 have q0:=fun ρ=>aT (ρ:=ρ) h (dP h.ok P) (by decide)
 have q1:=gC h kS
 rw [hs,tk] at q1
 have f0:(S [c]==S [])=false:=cN (by simp)
 have f1:(S [c]==S [92])=false:=cN (by simpa using g1)
 have q2:=fun ρ=>aT (ρ:=ρ) h (m_begins h.ok P) (by decide)
 have q3:=begins2 h kB
 rw [hs,g2,beq_self_eq_true] at q3
 have q5:=hp
 have q6:=fun ρ=>getM_app (K:=F.K P) (ρ:=ρ) (X:=st2 H i C l rest j b m vs) (j:=j) (vs:=vs) (gM hj)
 by_cases ht:t=[]
 ·have f2:(S t != S [])=false:=bne_q ht
  rw [if_pos ht]
  have q4:=fun ρ=>aT (ρ:=ρ) h (m_code hT P) (by decide)
  have q7:=fun ρ=>app1 (K:=F.K P) (ρ:=ρ) (v:=v) (X:=st2 H i C l rest j b' m' vs) (gM hj) (by lia)
  rw [st2_j] at q7
  subst ht
  unfold aN
  rw [w_e,w_b,w_h]
  repeat walk_at "s"
 ·have f2:(S t != S [])=true:=bne_n ht
  rw [if_neg ht]
  have h2:Sc (st2 H i C l rest j b m (vs++[.str (S t)])) i C l b m rest:=fP h0 hij (by lia)
  have q4:=fun ρ=>aT (ρ:=ρ) h2 (m_code hT P) (by decide)
  have q7:=fun ρ=>app1 (K:=F.K P) (ρ:=ρ) (v:=.str (S t)) (X:=st2 H i C l rest j b m vs) (gM hj) (by lia)
  rw [st2_j] at q7
  have q8:=fun ρ=>getM_app (K:=F.K P) (ρ:=ρ) (X:=st2 H i C l rest j b m (vs++[.str (S t)])) (j:=j) (vs:=vs++[.str (S t)]) (gM hj)
  have q9:=fun ρ=>app1 (K:=F.K P) (ρ:=ρ) (v:=v) (X:=st2 H i C l rest j b' m' (vs++[.str (S t)])) (gM hj) (by simp;lia)
  rw [st2_j] at q9
  unfold aN
  rw [w_e,w_b,w_h]
  repeat walk_at "s"
 walk_at "z"
theorem parts_codex {c:Nat}{s t:List Nat}(hs:l.drop b=c::s)(hb:b≤100)(hv:vs.length≤1000)(g1:c≠92)(g2:(c::s).take 2=[35,123]){Y:List V→List aE}
  (hp:∀ us,Γ F.at_TextScanner_code [.obj i] (st2 H i C l rest j b m us)=some (none,Y us)) :
  ∃ t' us,aN (F.K P) Γ (iB i j t (st2 H i C l rest j b m vs))=some (none,iB i j t' (Y us)):=by
 walk_at "a"
 have h:Sc (st2 H i C l rest j b m vs) i C l b m rest:=fP h0 hij (by lia)
 have tk:(c::s).take 1=[c]:=rfl
 have hs1:l.drop (b+1)=s:=(drop_cons hs).2.1
 have q0:=fun ρ=>aT (ρ:=ρ) h (dP h.ok P) (by decide)
 have q1:=gC h kS
 rw [hs,tk] at q1
 have f0:(S [c]==S [])=false:=cN (by simp)
 have f1:(S [c]==S [92])=false:=cN (by simpa using g1)
 have q2:=fun ρ=>aT (ρ:=ρ) h (m_begins h.ok P) (by decide)
 have q3:=begins2 h kB
 rw [hs,g2,beq_self_eq_true] at q3
 have q5:=hp
 have q6:=fun ρ=>getM_app (K:=F.K P) (ρ:=ρ) (X:=st2 H i C l rest j b m vs) (j:=j) (vs:=vs) (gM hj)
 by_cases ht:t=[]
 ·have f2:(S t != S [])=false:=bne_q ht
  have q4:=fun ρ=>aT (ρ:=ρ) h (m_code hT P) (by decide)
  refine ⟨t,vs,?_⟩
  unfold aN
  rw [w_e,w_b,w_h]
  repeat walk_at "s"
 ·have f2:(S t != S [])=true:=bne_n ht
  have h2:Sc (st2 H i C l rest j b m (vs++[.str (S t)])) i C l b m rest:=fP h0 hij (by lia)
  have q4:=fun ρ=>aT (ρ:=ρ) h2 (m_code hT P) (by decide)
  have q7:=fun ρ=>app1 (K:=F.K P) (ρ:=ρ) (v:=.str (S t)) (X:=st2 H i C l rest j b m vs) (gM hj) (by lia)
  rw [st2_j] at q7
  have q8:=fun ρ=>getM_app (K:=F.K P) (ρ:=ρ) (X:=st2 H i C l rest j b m (vs++[.str (S t)])) (j:=j) (vs:=vs++[.str (S t)]) (gM hj)
  refine ⟨[],vs++[.str (S t)],?_⟩
  unfold aN
  rw [w_e,w_b,w_h]
  repeat walk_at "s"
 walk_at "z"
variable (kF:aH Γ 182 (failP (F.K P)))(kE:aH Γ F.at_TextScanner_escaped p_esc)
include kF kE
noncomputable def PG (P:Params)(Γ:CT)(i j:Nat)(C:Addr)(l:List Nat)(rest:List (Str×V))(H:List aE)(n:Nat)(t:List Nat)(b m:Nat)(acc:List Pt)(o:Option (List Pt×Nat)):Prop:=match o with
 | some p=>∃ acc' t',cW n (bK (F.K P) Γ) (aN (F.K P) Γ) (iB i j t (st2 H i C l rest j b m (acc.map vPt)))=some (some .next,iB i j t' (st2 H i C l rest j (b+p.2-1) (m+cnt ((l.drop b).take p.2)) (acc'.map vPt)))∧finP acc' t'=outP acc (glue t p.1)∧acc'.length≤900
 | none=>∃ σ' o us,cW n (bK (F.K P) Γ) (aN (F.K P) Γ) (iB i j t (st2 H i C l rest j b m (acc.map vPt)))=some (none,σ')∧σ'.H=(H.set i o).set j (.list us)
structure PB (l:List Nat)(N n b:Nat)(t:List Nat)(acc:List Pt):Prop where
 hn:(l.drop b).length<n
 hb:b≤l.length
 hN:(l.drop b).length<N
 ht:t.length+(l.drop b).length≤900
 hv:acc.length+2*(l.drop b).length≤900
omit h0 hT hij hj kS kT kB kF kE in
theorem PB.next {N n r:Nat}{t t2:List Nat}{acc acc2:List Pt}(p:PB l N (n+1) b t acc)(h1:1≤r)(h2:r≤(l.drop b).length)(ht:t2.length≤t.length+r)(ha:acc2.length≤acc.length+2):PB l N n (b+r) t2 acc2:=by
 walk_at "a"
 obtain ⟨p1,p2,p3,p4,p5⟩:=p
 have e:(l.drop (b+r)).length=(l.drop b).length-r:=by rw [← List.drop_drop,List.length_drop]
 have e2:(l.drop b).length=l.length-b:=List.length_drop
 refine ⟨?_,?_,?_,?_,?_⟩<;>lia
 walk_at "z"
omit h0 hT hij hj kS kT kB kF kE in
theorem PG.go {n r x:Nat}{t t2:List Nat}{acc acc2:List Pt}{f:List Pt→List Pt}{o:Option (List Pt×Nat)}(hc:bK (F.K P) Γ (iB i j t (st2 H i C l rest j b m (acc.map vPt)))=some (some true,iB i j t (st2 H i C l rest j b m (acc.map vPt))))
  (hb:aN (F.K P) Γ (iB i j t (st2 H i C l rest j b m (acc.map vPt)))=some (some .next,iB i j t2 (st2 H i C l rest j (b+r) (m+x) (acc2.map vPt)))) (hx:x=cnt ((l.drop b).take r))
  (hf:∀ ps,outP acc2 (glue t2 ps)=outP acc (glue t (f ps))) (ih:PG P Γ i j C l rest H n t2 (b+r) (m+x) acc2 o):PG P Γ i j C l rest H (n+1) t b m acc (o.map fun p=>(f p.1,p.2+r)):=by
 walk_at "a"
 cases o with
 | none =>
  obtain ⟨σ',o,us,e1,e2⟩:=ih
  exact ⟨σ',o,us,(dK hc hb).trans e1,e2⟩
 | some p =>
  obtain ⟨acc',t',e1,e2,e3⟩:=ih
  have e5:m+x+cnt ((l.drop (b+r)).take p.2)=m+cnt ((l.drop b).take (p.2+r)):=by
   rw [hx,Nat.add_comm p.2,List.take_add,show cnt ((l.drop b).take r++((l.drop b).drop r).take p.2)=cnt ((l.drop b).take r)+cnt (((l.drop b).drop r).take p.2) from List.count_append,List.drop_drop,Nat.add_assoc]
  rw [e5,show b+r+p.2-1=b+(p.2+r)-1 by rw [Nat.add_assoc,Nat.add_comm r]] at e1
  exact ⟨acc',t',(dK hc hb).trans e1,e2.trans (hf p.1),e3⟩
 walk_at "z"
omit h0 hT hij hj kS kT kB kF kE in
theorem PG.out {n:Nat}{t:List Nat}{acc:List Pt}{o:Option (List Pt×Nat)}(hc:bK (F.K P) Γ (iB i j t (st2 H i C l rest j b m (acc.map vPt)))=some (some true,iB i j t (st2 H i C l rest j b m (acc.map vPt))))
  {σ':St} (hb:aN (F.K P) Γ (iB i j t (st2 H i C l rest j b m (acc.map vPt)))=some (none,σ')) {u:aE} {us:List V} (e:σ'.H=(H.set i u).set j (.list us)) (ho:o=none):PG P Γ i j C l rest H (n+1) t b m acc o:=by
 walk_at "a"
 subst ho
 exact ⟨σ',u,us,by rw [while_step hc,M.bind_raise hb],e⟩
 walk_at "z"
omit h0 hT hj kS kT kB kF kE in
theorem st2_lo:(st2 H i C l rest j b m vs).set i .dT=(H.set i .dT).set j (.list vs):=by
 walk_at "a"
 unfold st2
 rw [List.set_comm _ _ (Ne.symm hij),List.set_set]
 walk_at "z"
theorem parts_t_esc {N n d:Nat}{s t:List Nat}{acc:List Pt}(p:PB l N (n+1) b t acc)(hs:l.drop b=92::d::s)(hc:bK (F.K P) Γ (iB i j t (st2 H i C l rest j b m (acc.map vPt)))=some (some true,iB i j t (st2 H i C l rest j b m (acc.map vPt))))
  (ih:∀ b m t acc,PB l N n b t acc→PG P Γ i j C l rest H n t b m acc (bA m (l.drop b))):PG P Γ i j C l rest H (n+1) t b m acc (bA m (92::d::s)):=by
 walk_at "a"
 have hll:=h0.hl
 have hb100:=p.hb
 have ht9:=p.ht
 have hsl:(l.drop b).length=s.length+2:=by rw [hs];rfl
 have h:=fP (m:=m) (vs:=acc.map vPt) h0 hij (show b≤1000 by lia)
 have e1:=cG (f:=f_esc) (more:=[]) h
 have hs1:l.drop (b+1)=d::s:=(drop_cons hs).2.1
 have e2:f_esc i C l b m rest [] (st2 H i C l rest j b m (acc.map vPt))=some (some (.str (S (iD d))),st2 H i C l rest j (b+2) (m+nl [d]) (acc.map vPt)):=by
  unfold f_esc pN
  simp only [hs1]
  rw [if_pos ⟨hT,(drop_cons hs).2.2⟩,st2_i hij]
 have hb':=parts_esc (P:=P) (t:=t) h0 hT hij hj kS kT kB hs (by lia) (by lia) rfl (kE _ _ _ (e1.trans e2))
 have hle:(iD d).length≤1:=by
  unfold iD
  repeat' split
  all_goals simp
 have i2:=ih (b+2) (m+nl [d]) (t++iD d) acc (p.next (by decide) (by lia) (by rw [List.length_append];lia) (Nat.le_add_right _ _))
 have hx:nl [d]=cnt ((l.drop b).take 2):=by rw [hs,show (92::d::s).take 2=[92,d] from rfl,cnt_cons,cnt_cons,nl_one 92 (by decide)];simp [cnt]
 rw [show l.drop (b+2)=s from (drop_cons hs1).2.1] at i2
 rw [bA,if_neg (by decide),if_neg (fun h=>absurd h.1 (by decide)),if_pos rfl]
 exact PG.go hc hb' hx (fun ps=>by rw [glue_glue]) i2
 walk_at "z"
theorem parts_t_code {N n:Nat}(kC:aH Γ F.at_TextScanner_code (p_code N)){s t:List Nat}{acc:List Pt}(p:PB l N (n+1) b t acc)(hs:l.drop b=35::123::s)(hc:bK (F.K P) Γ (iB i j t (st2 H i C l rest j b m (acc.map vPt)))=some (some true,iB i j t (st2 H i C l rest j b m (acc.map vPt))))
  (ih:∀ b m t acc,PB l N n b t acc→PG P Γ i j C l rest H n t b m acc (bA m (l.drop b))):PG P Γ i j C l rest H (n+1) t b m acc (bA m (35::123::s)):=by
 walk_at "a"
 have hll:=h0.hl
 have hb100:=p.hb
 have hv:=p.hv
 have hN:=p.hN
 have hsl:(l.drop b).length=s.length+2:=by rw [hs];rfl
 have hsl':l.length-b=s.length+2:=by rw [← List.length_drop];exact hsl
 have hs2:l.drop (b+2)=s:=(drop_cons (drop_cons hs).2.1).2.1
 have e1:=fun us=>cG (f:=f_code N) (more:=[]) (fP (vs:=us) (m:=m) h0 hij (show b≤1000 by lia))
 have hvl:(acc.map vPt).length≤1000:=by rw [List.length_map];lia
 have hq:okT C∧b+2≤l.length∧(l.drop b).length<N:=⟨hT,by lia,hN⟩
 rw [bA,if_neg (by decide),if_pos ⟨rfl,rfl⟩]
 cases hk:bJ s 1 with
 | none =>
  have e2:∀ us,f_code N i C l b m rest [] (st2 H i C l rest j b m us)=some (none,(st2 H i C l rest j b m us).set i .dT):=fun us=>by
   unfold f_code pN
   simp only [hs2,hk]
   rw [if_pos hq]
  obtain ⟨t',us,hb'⟩:=parts_codex (P:=P) (t:=t) (vs:=acc.map vPt) h0 hT hij hj kS kT kB hs (by lia) hvl (by decide) rfl (fun us=>kC _ _ _ ((e1 us).trans (e2 us)))
  exact PG.out hc hb' (st2_lo hij) rfl
 | some k =>
  have hk1:=(iQ (s.length+1) s (Nat.lt_succ_self _)).1 _ _ hk
  have e2:∀ us,f_code N i C l b m rest [] (st2 H i C l rest j b m us)=some (some (vPt (.cod (s.take (k-1)) m)),st2 H i C l rest j (b+(2+k)) (m+cnt (s.take k)) us):=fun us=>by
   unfold f_code pN
   simp only [hs2,hk]
   rw [if_pos hq,st2_i hij,Nat.add_assoc]
   rfl
  have hb':=parts_code (P:=P) (t:=t) (vs:=acc.map vPt) h0 hT hij hj kS kT kB hs (by lia) hvl (by decide) rfl (fun us=>kC _ _ _ ((e1 us).trans (e2 us)))
  have e3:((if t=[] then acc.map vPt else acc.map vPt++[.str (S t)])++[vPt (.cod (s.take (k-1)) m)])=(((if t=[] then acc else acc++[Pt.txt t])++[Pt.cod (s.take (k-1)) m])).map vPt:=by
   by_cases ht:t=[]<;>simp [ht,vPt]
  rw [e3] at hb'
  have hx:cnt (s.take k)=cnt ((l.drop b).take (2+k)):=by rw [hs,show (35::123::s).take (2+k)=35::123::s.take k by rw [show 2+k=k+1+1 by lia];rfl,cnt_cons,cnt_cons,nl_one 35 (by decide),nl_one 123 (by decide)];lia
  have i2:=ih (b+(2+k)) (m+cnt (s.take k)) [] ((if t=[] then acc else acc++[Pt.txt t])++[Pt.cod (s.take (k-1)) m]) (p.next (by lia) (by lia) (Nat.zero_le _) (by by_cases ht:t=[]<;>simp [ht]))
  rw [show l.drop (b+(2+k))=s.drop k by rw [← List.drop_drop,hs,show 2+k=k+1+1 by lia];rfl] at i2
  exact PG.go (f:=fun ps=>.cod (s.take (k-1)) m::ps) hc hb' hx (fun ps=>out_cod acc t _ _ ps) i2
 walk_at "z"
theorem parts_loop {N:Nat}(kC:aH Γ F.at_TextScanner_code (p_code N)):∀ (n b m:Nat) (t:List Nat) (acc:List Pt),PB l N n b t acc→PG P Γ i j C l rest H n t b m acc (bA m (l.drop b)):=by
 walk_at "a"
 intro n
 induction n with
 | zero=>intro b m t acc p;exact absurd p.hn (Nat.not_lt_zero _)
 | succ n ih =>
  intro b m t acc p
  have hll:=h0.hl
  have hb100:=p.hb
  have h:Sc (st2 H i C l rest j b m (acc.map vPt)) i C l b m rest:=fP h0 hij (by lia)
  have hc:=parts_c (P:=P) (j:=j) (t:=t) h kS
  cases hs:l.drop b with
  | nil =>
   rw [show (S ((l.drop b).take 1) != S [34])=true by rw [hs];exact bne_n (by simp)] at hc
   exact PG.out hc (parts_fail (P:=P) h kS kF hs) (u:=aP C l b m rest) (us:=acc.map vPt) rfl (by rw [bA])
  | cons c s =>
   have tk:(c::s).take 1=[c]:=rfl
   rw [hs,tk] at hc
   by_cases h34:c=34
   ·subst h34
    rw [bne_q rfl] at hc
    have e0:bA m (34::s)=some ([],1):=by cases s<;>(rw [bA];rfl)
    rw [e0]
    refine ⟨acc,t,?_,fin_out acc t,Nat.le_trans (Nat.le_add_right _ _) p.hv⟩
    rw [dX hc,hs]
    simp [cnt]
   rw [bne_n (by simpa using h34)] at hc
   by_cases h92:c=92
   ·subst h92
    cases s with
    | nil =>
     have e2:f_esc i C l b m rest [] (st2 H i C l rest j b m (acc.map vPt))=some (none,(st2 H i C l rest j b m (acc.map vPt)).set i .dT):=by
      unfold f_esc pN
      simp only [(drop_cons hs).2.1]
      rw [if_pos ⟨hT,(drop_cons hs).2.2⟩]
     exact PG.out hc (parts_escx (P:=P) (t:=t) h0 hT hij hj kS kT kB hs (by lia) rfl (kE _ _ _ ((cG (f:=f_esc) (more:=[]) h).trans e2))) (st2_lo hij) (by rw [bA];rfl)
    | cons d s=>exact parts_t_esc h0 hT hij hj kS kT kB kF kE p hs hc ih
   by_cases hcode:(c::s).take 2=[35,123]
   ·obtain ⟨s,rfl,rfl⟩:∃ s',s=123::s'∧c=35:=by
     cases s with
     | nil=>cases hcode
     | cons d s=>cases hcode;exact ⟨s,rfl,rfl⟩
    exact parts_t_code h0 hT hij hj kS kT kB kF kE kC p hs hc ih
   have ht9:=p.ht
   have hb':=parts_one (P:=P) (m:=m) (t:=t) (vs:=acc.map vPt) h0 hT hij hj kS kT kB hs (by lia) (by lia) h92 hcode
   have e0:bA m (c::s)=(bA (m+nl [c]) s).map fun p=>(glue [c] p.1,p.2+1):=by
    cases s with
    | nil=>rw [bA,bA,if_neg h34];rfl
    | cons d s =>
     rw [bA,if_neg h34,if_neg (fun e=>hcode (by rw [e.1,e.2];rfl)),if_neg h92]
   have i2:=ih (b+1) (m+nl [c]) (t++[c]) acc (p.next (Nat.le_refl _) (by rw [hs];exact Nat.succ_le_succ (Nat.zero_le _)) (by rw [List.length_append];exact Nat.le_refl _) (Nat.le_add_right _ _))
   rw [(drop_cons hs).2.1] at i2
   rw [e0]
   exact PG.go hc hb' (by rw [hs,tk,cnt_cons];rfl) (fun ps=>by rw [glue_glue]) i2
 walk_at "z"
end
theorem fits_pt (k:Nat):∀ (ps:List Pt),V.fits k (ps.map vPt)=true
 | []=>rfl
 | .txt t::ps=>by simp only [List.map_cons,V.fits,vPt,V.fit,Bool.true_and];exact fits_pt k ps
 | .cod t n::ps=>by simp only [List.map_cons,V.fits,vPt,V.fit,Bool.true_and,Bool.and_true];exact fits_pt k ps
noncomputable def f_parts (N:Nat):FC:=fun i C l a ln rest=>pN fun H=>if okT C∧a≤l.length∧(l.drop a).length<N then (match bA ln (l.drop a) with
  | some (ps,k)=>some (some (.lst ((outP [] ps).map vPt)),H.set i (aP C l (a+k) (ln+cnt ((l.drop a).take k)) rest))
  | none=>some (none,H.set i .dT)) else none
noncomputable abbrev p_parts (N:Nat):=dW (f_parts N)
theorem parts_E {N:Nat}(k:aH Γ F.at_TextScanner_text_parts (p_parts N)):E_parts Γ N:=by
 walk_at "a"
 intro H i C l a ln rest hS hT ha hN
 have e1:=cG (f:=f_parts N) (more:=[]) hS
 have e2:=double_end ((l.drop a).length+1) ln (l.drop a) (Nat.lt_succ_self _)
 refine ⟨fun k' hk=>?_,fun hk=>?_⟩
 ·rw [hk] at e2
  obtain ⟨⟨ps,k2⟩,h1,h2⟩:=Option.map_eq_some_iff.mp e2
  cases h2
  refine ⟨.lst ((outP [] ps).map vPt),k _ _ _ (e1.trans ?_)⟩
  unfold f_parts pN
  simp only [h1]
  rw [if_pos ⟨hT,ha,hN⟩]
 ·rw [hk] at e2
  have h1:bA ln (l.drop a)=none:=by simpa using e2
  refine k _ _ _ (e1.trans ?_)
  unfold f_parts pN
  simp only [h1]
  rw [if_pos ⟨hT,ha,hN⟩]
 walk_at "z"
theorem set_same (h:Sc H i C l a ln rest):H.set i (aP C l a ln rest)=H:=by
 walk_at "a"
 refine List.ext_getElem? fun x=>?_
 rw [List.getElem?_set]
 split
 ·rename_i q;subst q;rw [if_pos h.lt,h.at_]
 ·rfl
 walk_at "z"
section
variable {prog:Program}{w:World}{sl:Addr}{sn:List Int}{n:Nat}
theorem parts_ok (N:Nat)(G:GOK prog w (KK w) (.ref 59) sl sn Γ n)(kS:aH Γ F.at_Scanner_sign eJ)(kT:aH Γ F.at_Scanner_step gN)(kB:aH Γ F.at_Scanner_begins p_begins)(kF:aH Γ 182 (failP (KK w)))(kE:aH Γ F.at_TextScanner_escaped p_esc)(kC:aH Γ F.at_TextScanner_code (p_code N)) :
  GOK prog w (KK w) (.ref 59) sl sn (ov F.at_TextScanner_text_parts (p_parts N) Γ) (n+1):=by
 walk_at "a"
 refine ok_TextScanner_text_parts G fun vs H r h0=>?_
 refine fD h0 fun i more C l a ln rest e hS h1x=>pN_e h1x fun e2 h2x=>fL h2x fun ha h=>?_
 subst e2 e
 have hij:i≠H.length:=by have:=hS.lt;lia
 have hS':=hS.grow [aE.list []]
 have hl:=hS.hl
 have e0:H++[aE.list []]=st2 (H++[.list []]) i C l rest H.length a ln []:=by
  unfold st2
  rw [set_same hS'];simp
 have hjl:H.length<(H++[aE.list []]).length:=by simp
 have LL:=parts_loop (P:=w.params) (Γ:=Γ) hS' ha.1 hij hjl kS kT kB kF kE kC 100 a ln [] [] ⟨by rw [List.length_drop];lia,ha.2.1,ha.2.2,by rw [List.length_drop];simp;lia,by rw [List.length_drop];simp;lia⟩
 have q0:∀ ρ,newOwn (.list []) ⟨ρ,H⟩=some (some (.obj H.length),⟨ρ,st2 (H++[.list []]) i C l rest H.length a ln []⟩):=fun ρ=>by rw [own_app];exact congrArg (fun Y=>some (some (V.obj H.length),(⟨ρ,Y⟩:St))) e0
 split at h
 ·rename_i ps k hk
  cases h
  have hk1:=(iQ ((l.drop a).length+1) (l.drop a) (by lia)).2 k (by rw [← double_end _ ln _ (Nat.lt_succ_self _),hk];rfl)
  have hkb:a+k≤60:=by have:=hk1.2;rw [List.length_drop] at this;lia
  rw [hk] at LL
  obtain ⟨acc,t,L,hfin,hacc⟩:=LL
  rw [List.map_nil] at L
  rw [glue_nil] at hfin
  rw [← hfin]
  have hX:Sc (st2 (H++[.list []]) i C l rest H.length (a+k-1) (ln+cnt ((l.drop a).take k)) (acc.map vPt)) i C l (a+k-1) (ln+cnt ((l.drop a).take k)) rest:=fP hS' hij (by lia)
  have q1:=L
  have q2:=fun ρ=>bZ (ρ:=ρ) (P:=w.params) hX.ok hX.at_
  have q3:=fun ρ=>place1 (ρ:=ρ) (P:=w.params) hX
  rw [st2_i hij,show a+k-1+1=a+k by lia] at q3
  have hat:(st2 (H++[aE.list []]) i C l rest H.length (a+k) (ln+cnt ((l.drop a).take k)) (acc.map vPt))[H.length]? = some (.list (acc.map vPt)):=gM hjl
  have q4:=fun ρ=>c_eqO (ρ:=ρ) hat
  have q5:=fun ρ=>getM_app (K:=KK w) (ρ:=ρ) hat
  have q6:=fun ρ=>app1 (K:=KK w) (ρ:=ρ) (v:=.str (S t)) hat (by simp;lia)
  rw [st2_j] at q6
  have e6:acc.map vPt++[.str (S t)]=(acc++[Pt.txt t]).map vPt:=by simp [vPt]
  rw [e6] at q6
  have e7:(acc.map vPt).isEmpty=decide (acc=[]):=by cases acc<;>simp
  have fz:Fz (st2 (H++[aE.list []]) i C l rest H.length (a+k) (ln+cnt ((l.drop a).take k)) ((finP acc t).map vPt)) (H.set i (aP C l (a+k) (ln+cnt ((l.drop a).take k)) rest)).length (.obj H.length) (.lst ((finP acc t).map vPt)) :=
   .frz (by simp) (gM hjl) (fits_pt _ _)
  refine .of (by simp) [.obj i] rfl rfl (some (.ret (.obj H.length))) (⟨[some (.obj i),some (.obj H.length),some (.str (S t))],st2 (H++[.list []]) i C l rest H.length (a+k) (ln+cnt ((l.drop a).take k)) ((finP acc t).map vPt)⟩) ?_ (cE (st2_close hS _ (by lia)) fz)
  show cH (KK w) Γ ⟨[some (.obj i),none,none],H⟩=_
  unfold cH
  rw [w_e]
  by_cases ht:t=[]
  ·have f1:(S t != S [])=false:=bne_q ht
   by_cases hac:acc=[]
   ·have f2:(acc.map vPt).isEmpty=true:=by rw [e7];simp [hac]
    rw [show finP acc t=acc++[.txt t] from if_pos (.inr hac)]
    repeat walk_at "s"
   ·have f2:(acc.map vPt).isEmpty=false:=by rw [e7];simp [hac]
    rw [show finP acc t=acc from if_neg (fun h=>h.elim (fun h=>h ht) hac)]
    repeat walk_at "s"
  ·have f1:(S t != S [])=true:=bne_n ht
   rw [show finP acc t=acc++[.txt t] from if_pos (.inl ht)]
   repeat walk_at "s"
 ·rename_i hk
  cases h
  rw [hk] at LL
  obtain ⟨σ',o,us,L,e2⟩:=LL
  rw [List.map_nil] at L
  have q1:=L
  refine .of (by simp) [.obj i] rfl rfl none σ' ?_ (iO (by
   rw [e2]
   exact close_at (by simp) (fun x hx hxi=>by rw [List.getElem?_set_ne (by lia),List.getElem?_set_ne (by lia),List.getElem?_append_left hx]) (.inl rfl)))
  show cH (KK w) Γ ⟨[some (.obj i),none,none],H⟩=_
  unfold cH
  rw [w_e]
  repeat walk_at "s"
 walk_at "z"
end
end
end Mine
end
section
namespace Mine
section
variable {K:Frag}{σ:St}
theorem chr_of {n:Nat}(h:n<1000):bG K "chr" [.int (n:Int)] σ=some (some (.str (S [n])),σ):=by
 walk_at "a"
 have e0:bG K "chr" [.int (n:Int)]=bChr [.int (n:Int)]:=by unfold bG;rfl
 rw [e0]
 show ((if 0≤(n:Int)∧(n:Int)<1000 then M.ret (.str ⟨#[(n:Int).toNat]⟩) else M.stuck:M V) σ)=_
 rw [if_pos (by lia),bF]
 rfl
 walk_at "z"
theorem chr92:bG K "chr" [.int 92] σ=some (some (.str (S [92])),σ):=chr_of (n:=92) (by lia)
theorem chr34:bG K "chr" [.int 34] σ=some (some (.str (S [34])),σ):=chr_of (n:=34) (by lia)
theorem chr10:bG K "chr" [.int 10] σ=some (some (.str (S [10])),σ):=chr_of (n:=10) (by lia)
theorem in_lst2 {x y z:Str}:cmpD K .In (.str x) (.lst [.str y,.str z]) σ=some (some (.bool ([y,z].contains x)),σ):=by
 walk_at "a"
 cases σ;rfl
 walk_at "z"
theorem it0 {x:V}{r:List V}:cU (.tup (x::r)) (.int 0) σ=some (some x,σ):=by cases σ;rfl
theorem it1 {x y:V}{r:List V}:cU (.tup (x::y::r)) (.int 1) σ=some (some y,σ):=by
 walk_at "a"
 cases σ;rfl
 walk_at "z"
theorem in_T {x:V}{vs:List V}:aY .Is (.tup vs) .none σ=some (some (.bool false),σ):=c_isNT
theorem int_b {b:Bool}:callT "int" [.bool b] σ=some (some (.int (if b then 1 else 0)),σ):=by
 walk_at "a"
 cases σ;rfl
 walk_at "z"
end
section
variable {P:Params}{l:List Nat}{a:Nat}{H:List aE}{ρ:List (Option V)}{Γ:CT}
noncomputable def lt (t:Str):List Nat:=t.cps.toList
theorem S_lt (t:Str):S (lt t)=t:=by simp [lt]
theorem lt_S (l:List Nat):lt (S l)=l:=by simp [lt]
noncomputable def vSingle (a:Nat):Option (List Nat×Nat)→V
 | none=>.none
 | some (t,k)=>.tup [.str (S t),.int ((a+k:Nat):Int)]
noncomputable def eC (N:Nat):PC:=pSI fun t x H=>if 0≤x∧x≤200∧t.length≤60∧((lt t).drop x.toNat).length<N then some (some (vSingle x.toNat (cO ((lt t).drop x.toNat))),H) else none
theorem lsingle_at {N:Nat}(k:aH Γ F.at_law_single (eC N))(hl:l.length≤60){x:Int}(hx:x=(a:Int))(ha:a≤200)(hN:(l.drop a).length<N):Γ F.at_law_single [.str (S l),.int x] H=some (some (vSingle a (cO (l.drop a))),H):=by
 walk_at "a"
 exact k _ _ _ (by
  subst hx
  show (if _ then _ else _)=_
  rw [lt_S]
  rw [if_pos ⟨by lia,by lia,by rw [cD];exact hl,hN⟩]
  rfl)
 walk_at "z"
noncomputable abbrev sgSt (l:List Nat)(a:Nat)(x y z:Option V)(H:List aE):St:=⟨[some (.str (S l)),some (.int a),x,y,z],H⟩
theorem run_lsingle {N:Nat}(k:aH Γ F.at_law_single (eC N))(hl:l.length≤60)(ha:a≤200)(hN:(l.drop a).length<N+1) :
  ∃ x y z,dF (F.K P) Γ (sgSt l a none none none H)=some (some (.ret (vSingle a (cO (l.drop a)))),sgSt l a x y z H):=by
 walk_at "a"
 have hl2:l.length≤1000:=by lia
 have q0:=fun σ=>len_S (K:=F.K P) (l:=l) (σ:=σ) hl2
 cases hs:l.drop a with
 | nil =>
  have f1:decide ((a:Int)≥(l.length:Int))=true:=by have:=drop_nil hs;simp;lia
  refine ⟨none,none,none,?_⟩
  show _=some (some (Fl.ret .none),_)
  unfold dF
  repeat walk_at "s"
 | cons c s =>
  obtain ⟨hc,hs1,hlt⟩:=drop_cons hs
  have f1:decide ((a:Int)≥(l.length:Int))=false:=by simp;lia
  have q1:=fun σ=>item_S (σ:=σ) hc (by lia)
  by_cases h39:c=39
  ·subst h39
   have f2:(S [39]==S [39])=true:=eQ rfl
   refine ⟨none,none,none,?_⟩
   rw [single_q]
   show _=some (some (Fl.ret (.tup [.str (S []),.int ((a:Int)+1)])),_)
   unfold dF
   rw [w_q,w_e]
   repeat walk_at "s"
  ·have f2:(S [c]==S [39])=false:=cN (by simpa using h39)
   have hsl':l.length-a=s.length+1:=by rw [← List.length_drop,hs];rfl
   have q2:∀ σ,bM (.str (S l)) (.int (a:Int)) (.int ((a:Int)+2)) σ=some (some (.str (S ((c::s).take 2))),σ):=fun σ=>by
    have:=sl_ss (l:=l) (a:=a) (b:=a+2) (σ:=σ) hl2
    rw [List.drop_take,Nat.add_sub_cancel_left,hs] at this
    exact this
   have q3:∀ σ,bO .Add (.str (S [92])) (.str (S [92])) σ=some (some (.str (S [92,92])),σ):=fun σ=>by rw [b_addS (by rw [cD];decide),S_app];rfl
   have q4:∀ σ,bO .Add (.str (S [92])) (.str (S [39])) σ=some (some (.str (S [92,39])),σ):=fun σ=>by rw [b_addS (by rw [cD,cD];decide),S_app];rfl
   by_cases he:c=92∧([S [92],S [39]].contains (S (s.take 1))=true)
   ·obtain ⟨rfl,he⟩:=he
    obtain ⟨d,s',rfl,hd⟩:=(has2 s).mp he
    have f3:[S [92,92],S [92,39]].contains (S ((92::d::s').take 2))=true:=by
     show [S [92,92],S [92,39]].contains (S [92,d])=true
     rcases hd with rfl | rfl<;>decide
    have hs2:l.drop (a+2)=s':=(drop_cons hs1).2.1
    have q5:=lsingle_at (H:=H) (a:=a+2) (x:=(a:Int)+2) k hl (by lia) (by lia) (by rw [hs2];simp at hsl';rw [List.length_drop] at hN;lia)
    rw [hs2] at q5
    have q6:∀ σ,cU (.str (S ((92::d::s').take 2))) (.int ((2:Int)-1)) σ=some (some (.str (S [d])),σ):=fun σ=>item_S (l:=[92,d]) (a:=1) rfl (by lia)
    rw [single_esc hd]
    cases hr:cO s' with
    | none =>
     rw [hr] at q5
     have q7:Γ F.at_law_single [.str (S l),.int ((a:Int)+2)] H=some (some .none,H):=q5
     refine ⟨some (.str (S ((92::d::s').take 2))),some (.int 2),some .none,?_⟩
     ·show _=some (some (Fl.ret .none),sgSt l a (some (.str (S ((92::d::s').take 2)))) (some (.int 2)) (some .none) H)
      clear q5
      unfold dF
      rw [w_q,w_e]
      repeat walk_at "s"
    | some p =>
     obtain ⟨t,k2⟩:=p
     rw [hr] at q5
     have hk:=fR _ hr
     have q7:Γ F.at_law_single [.str (S l),.int ((a:Int)+2)] H=some (some (.tup [.str (S t),.int ((a+2+k2:Nat):Int)]),H):=q5
     have q8:∀ σ,bO .Add (.str (S [d])) (.str (S t)) σ=some (some (.str (S (d::t))),σ):=fun σ=>by rw [b_addS (by rw [cD,cD];simp at hsl' ⊢;lia),S_app];rfl
     refine ⟨some (.str (S ((92::d::s').take 2))),some (.int 2),some (.tup [.str (S t),.int ((a+2+k2:Nat):Int)]),?_⟩
     ·show _=some (some (Fl.ret (.tup [.str (S (d::t)),.int ((a+(k2+2):Nat):Int)])),sgSt l a (some (.str (S ((92::d::s').take 2)))) (some (.int 2)) (some (.tup [.str (S t),.int ((a+2+k2:Nat):Int)])) H)
      rw [show a+(k2+2)=a+2+k2 by lia]
      clear q5
      unfold dF
      rw [w_q,w_e]
      repeat walk_at "s"
   ·have f3:[S [92,92],S [92,39]].contains (S ((c::s).take 2))=false:=by
     rw [Bool.eq_false_iff]
     intro h
     refine he ?_
     simp only [List.contains_cons,List.contains_nil,Bool.or_false,Bool.or_eq_true,S_beq] at h
     cases s with
     | nil=>simp at h
     | cons d s' =>
      simp [List.take] at h
      rcases h with ⟨rfl,rfl⟩ | ⟨rfl,rfl⟩
      ·exact ⟨rfl,(has2 _).mpr ⟨92,s',rfl,.inl rfl⟩⟩
      ·exact ⟨rfl,(has2 _).mpr ⟨39,s',rfl,.inr rfl⟩⟩
    have q5:=lsingle_at (H:=H) (a:=a+1) (x:=(a:Int)+1) k hl (by lia) (by lia) (by rw [List.length_drop] at hN ⊢;lia)
    rw [hs1] at q5
    have q6:∀ σ,cU (.str (S ((c::s).take 2))) (.int ((1:Int)-1)) σ=some (some (.str (S [c])),σ):=fun σ=>item_S (l:=(c::s).take 2) (a:=0) rfl (by lia)
    rw [single_one h39 he]
    cases hr:cO s with
    | none =>
     rw [hr] at q5
     have q7:Γ F.at_law_single [.str (S l),.int ((a:Int)+1)] H=some (some .none,H):=q5
     refine ⟨some (.str (S ((c::s).take 2))),some (.int 1),some .none,?_⟩
     ·show _=some (some (Fl.ret .none),sgSt l a (some (.str (S ((c::s).take 2)))) (some (.int 1)) (some .none) H)
      clear q5
      unfold dF
      rw [w_q,w_e]
      repeat walk_at "s"
    | some p =>
     obtain ⟨t,k2⟩:=p
     rw [hr] at q5
     have hk:=fR _ hr
     have q7:Γ F.at_law_single [.str (S l),.int ((a:Int)+1)] H=some (some (.tup [.str (S t),.int ((a+1+k2:Nat):Int)]),H):=q5
     have q8:∀ σ,bO .Add (.str (S [c])) (.str (S t)) σ=some (some (.str (S (c::t))),σ):=fun σ=>by rw [b_addS (by rw [cD,cD];simp at hsl' ⊢;lia),S_app];rfl
     refine ⟨some (.str (S ((c::s).take 2))),some (.int 1),some (.tup [.str (S t),.int ((a+1+k2:Nat):Int)]),?_⟩
     ·show _=some (some (Fl.ret (.tup [.str (S (c::t)),.int ((a+(k2+1):Nat):Int)])),sgSt l a (some (.str (S ((c::s).take 2)))) (some (.int 1)) (some (.tup [.str (S t),.int ((a+1+k2:Nat):Int)])) H)
      rw [show a+(k2+1)=a+1+k2 by lia]
      clear q5
      unfold dF
      rw [w_q,w_e]
      repeat walk_at "s"
 walk_at "z"
theorem lsingle_ok {prog:Program}{w:World}{sl:Addr}{sn:List Int}{n:Nat}(N:Nat)(G:GOK prog w (KK w) (.ref 59) sl sn Γ n)(k:aH Γ F.at_law_single (eC N)) :
  GOK prog w (KK w) (.ref 59) sl sn (ov F.at_law_single (eC (N+1)) Γ) (n+1):=by
 walk_at "a"
 refine ok_law_single G fun vs H r h0=>pSI_e h0 fun t x e0 h1x=>fL h1x fun hq h2x=>?_
 subst e0
 obtain rfl:=Option.some.inj h2x
 obtain ⟨u1,u2,u3,e⟩:=run_lsingle (P:=w.params) (Γ:=Γ) (H:=H) (l:=lt t) (a:=x.toNat) k (by have:=hq.2.2.1;simpa [lt,Str.length] using this) (by lia) hq.2.2.2
 have e2:((x.toNat:Nat):Int)=x:=by lia
 have e':dF (KK w) Γ ⟨[some (.str (S (lt t))),some (.int (x.toNat:Int)),none,none,none],H⟩=_:=e
 rw [S_lt,e2] at e'
 exact .of (Nat.le_refl _) [.str t,.int x] rfl rfl _ _ e' (cE cX.same (.same (by cases cO ((lt t).drop x.toNat)<;>rfl)))
 walk_at "z"
end
end Mine
end
section
namespace Mine
theorem calm_val {α β:Type}{x:M α}{f:α→M β}{σ σ1:St}{y:α}(h:x σ=some (some y,σ1)):gY x f σ=f y σ1:=by unfold gY;rw [h]
theorem comp_run {L:List V}{xt:V→M Bool}{xe:V→M V}{f:V→Bool}{g:V→V}{σ:St}(ht:∀ u∈L,xt u σ=some (some (f u),σ))(he:∀ u∈L,xe u σ=some (some (g u),σ)) :
  ∀ (n i:Nat) (acc:List V),i≤L.length→L.length-i<n→iG (fun i _=>if i≤L.length then some L[i]? else none) xt xe n i acc σ=some (some (.lst (acc++((L.drop i).filter f).map g)),σ):=by
 walk_at "a"
 intro n
 induction n with
 | zero=>intro i acc _ h;lia
 | succ n ih =>
  intro i acc hi hn
  rw [iG]
  simp only [hi,if_true]
  by_cases hlt:i<L.length
  ·have hu:L[i]∈L:=List.getElem_mem hlt
   have hd:L.drop i=L[i]::L.drop (i+1):=List.drop_eq_getElem_cons hlt
   rw [List.getElem?_eq_getElem hlt]
   simp only
   rw [calm_val (ht _ hu)]
   cases hf:f L[i] with
   | true =>
    rw [if_pos rfl,calm_val (he _ hu),ih (i+1) _ (by lia) (by lia),hd]
    simp only [List.filter_cons,hf,if_true,List.map_cons,List.append_assoc,List.cons_append,List.nil_append]
   | false =>
    rw [if_neg (by decide),ih (i+1) _ (by lia) (by lia),hd]
    simp only [List.filter_cons,hf,Bool.false_eq_true,if_false]
  ·rw [List.getElem?_eq_none (by lia),List.drop_of_length_le (by lia)]
   simp
 walk_at "z"
theorem lc_run {L:List V}{its:St→V→Option (List V)}{xi:M V}{v:V}{xt:V→M Bool}{xe:V→M V}{f:V→Bool}{g:V→V}{σ σ1:St}(hi:xi σ=some (some v,σ1))(hL:its σ1 v=some L)(hlen:L.length<1000)(ht:∀ u∈L,xt u σ1=some (some (f u),σ1))(he:∀ u∈L,xe u σ1=some (some (g u),σ1)) :
  lcM xi (nxsOf its) xt xe σ=some (some (.lst ((L.filter f).map g)),σ1):=by
 unfold lcM
 rw [M.bind_val hi]
 simp only [nxsOf,hL]
 rw [comp_run ht he 1000 0 [] (by lia) (by lia)]
 simp
theorem len_L {K:Frag}{vs:List V}{σ:St}(h:vs.length≤100000):bG K "len" [.lst vs] σ=some (some (.int vs.length),σ):=by
 walk_at "a"
 have:bG K "len" [.lst vs]=bLen [.lst vs]:=by unfold bG;rw [if_pos rfl]
 rw [this]
 show (if vs.length≤100000 then _ else _)=_
 rw [if_pos h]
 walk_at "z"
section
variable {P:Params}{l:List Nat}{a:Nat}{H:List aE}{ρ:List (Option V)}{Γ:CT}
noncomputable def hJ:PC:=pSI fun t x H=>if 0≤x∧x≤200∧t.length≤60 then some (some (.int ((1+cnt ((lt t).take x.toNat):Nat):Int)),H) else none
theorem lline_at (k:aH Γ F.at_law_line hJ)(hl:l.length≤60){x:Int}(hx:x=(a:Int))(ha:a≤200):Γ F.at_law_line [.str (S l),.int x] H=some (some (.int ((1+cnt (l.take a):Nat):Int)),H):=by
 walk_at "a"
 exact k _ _ _ (by
  subst hx
  show (if 0≤(a:Int)∧(a:Int)≤200∧(S l).length≤60 then some (some (V.int ((1+cnt ((lt (S l)).take (a:Int).toNat):Nat):Int)),H) else none)=_
  rw [lt_S,if_pos ⟨by lia,by lia,by rw [cD];exact hl⟩]
  rfl)
 walk_at "z"
noncomputable def isNL (v:V):Bool:=match v with | .str x=>x==S [10] | _=>false
theorem filt_nl:∀ (s:List Nat),((s.map fun c=>V.str (S [c])).filter isNL).length=cnt s
 | []=>rfl
 | c::s=>by
  rw [List.map_cons,List.filter_cons,cnt_cons,← filt_nl s]
  have:isNL (.str (S [c]))=decide (c=10):=by
   show (S [c]==S [10])=_
   rw [S_beq]
   by_cases h:c=10<;>simp [h]
  rw [this]
  by_cases h:c=10
  ·simp [h,nl];lia
  ·simp [h,nl]
theorem run_lline (hl:l.length≤60)(ha:a≤200):x_law_line (F.K P) Γ ⟨[some (.str (S l)),some (.int a)],H⟩=some (some (.ret (.int ((1+cnt (l.take a):Nat):Int))),⟨[some (.str (S l)),some (.int a)],H⟩):=by
 walk_at "a"
 have hl2:l.length≤1000:=by lia
 have q0:∀ Z,lcM ((getVar 0).bind fun o1=>(M.ret .none).bind fun l2=>(getVar 1).bind fun u3=>bM o1 l2 u3) (nxsOf itsStr) (fun v=>((M.ret v).bind fun x7=>((M.ret (.bi "chr")).bind fun f6=>aC (F.K P) Γ f6 [] ((M.ret (.int 10)).bind fun v4=>(M.ret []).bind fun w5=>M.ret (v4::w5))).bind fun y8=>(aY .Eq x7 y8).bind bI)) (fun v=>(M.ret v)) ⟨[some (.str (S l)),some (.int a)],H⟩=some (some (.lst ((((l.take a).map fun c=>V.str (S [c])).filter isNL).map fun v=>v)),⟨[some (.str (S l)),some (.int a)],H⟩):=fun (Z:Unit)=>by
  refine lc_run (v:=.str (S (l.take a))) ?_ (by simp [itsStr]) (by simp;lia) (fun u hu=>?_) (fun u _=>bF)
  ·repeat walk_at "s"
  ·obtain ⟨c,_,rfl⟩:=List.mem_map.mp hu
   show _=some (some (S [c]==S [10]),_)
   repeat walk_at "s"
 have hll:((((l.take a).map fun c=>V.str (S [c])).filter isNL).map fun v=>v).length=cnt (l.take a):=by rw [List.length_map];exact filt_nl _
 have q1:∀ σ,bG (F.K P) "len" [.lst ((((l.take a).map fun c=>V.str (S [c])).filter isNL).map fun v=>v)] σ=some (some (.int (cnt (l.take a):Int)),σ):=fun σ=>by
  have hc:cnt (l.take a)≤100:=by unfold cnt;have:=List.count_le_length (a:=10) (l:=l.take a);simp at this;lia
  rw [len_L (by rw [hll];lia),hll]
 have q2:=q0 ()
 rw [show (((1+cnt (l.take a):Nat):Int))=1+(cnt (l.take a):Int) by lia]
 unfold x_law_line
 repeat walk_at "s"
 walk_at "z"
theorem lline_ok {prog:Program}{w:World}{sl:Addr}{sn:List Int}{n:Nat}(G:GOK prog w (KK w) (.ref 59) sl sn Γ n):GOK prog w (KK w) (.ref 59) sl sn (ov F.at_law_line hJ Γ) (n+1):=by
 walk_at "a"
 refine ok_law_line G fun vs H r h0=>pSI_e h0 fun t x e0 h1x=>fL h1x fun hq h2x=>?_
 subst e0
 obtain rfl:=Option.some.inj h2x
 have e:=run_lline (P:=w.params) (Γ:=Γ) (H:=H) (l:=lt t) (a:=x.toNat) (by have:=hq.2.2;simpa [lt,Str.length] using this) (by lia)
 have e2:((x.toNat:Nat):Int)=x:=by lia
 rw [S_lt,e2] at e
 exact .of (Nat.le_refl _) [.str t,.int x] rfl rfl _ _ e (cE cX.same (.same rfl))
 walk_at "z"
end
end Mine
end
section
namespace Mine
noncomputable def okL (l:List Nat):Bool:=l.all fun c=>c != 116&&c != 115&&c != 101&&c != 114
section
variable {P:Params}{l:List Nat}{a d:Nat}{H:List aE}{ρ:List (Option V)}{Γ:CT}
noncomputable def vEnd (a:Nat):Option Nat→V
 | none=>.none
 | some k=>.int ((a+k:Nat):Int)
noncomputable def vDbl (a:Nat):Option (List Pt×Nat)→V
 | none=>.none
 | some (ps,k)=>.tup [.lst (ps.map vPt),.int ((a+k:Nat):Int)]
noncomputable def eY (N:Nat):PC:=pSII fun t x y H=>if 0≤x∧x≤200∧t.length≤60∧1≤y∧okL (lt t)=true∧((lt t).drop x.toNat).length<N then some (some (vEnd x.toNat (bJ ((lt t).drop x.toNat) y.toNat)),H) else none
noncomputable def eD (N:Nat):PC:=pSI fun t x H=>if 0≤x∧x≤100∧t.length≤60∧okL (lt t)=true∧((lt t).drop x.toNat).length<N then some (some (vDbl x.toNat (bA (1+cnt ((lt t).take x.toNat)) ((lt t).drop x.toNat))),H) else none
theorem lcode_at {N:Nat}(k:aH Γ F.at_law_code_end (eY N))(hl:l.length≤60)(ho:okL l=true){x y:Int}(hx:x=(a:Int))(hy:y=(d:Int))(ha:a≤200)(hd:1≤d)(hN:(l.drop a).length<N):Γ F.at_law_code_end [.str (S l),.int x,.int y] H=some (some (vEnd a (bJ (l.drop a) d)),H):=by
 walk_at "a"
 exact k _ _ _ (by
  subst hx hy
  show (if 0≤(a:Int)∧(a:Int)≤200∧(S l).length≤60∧1≤(d:Int)∧okL (lt (S l))=true∧((lt (S l)).drop (a:Int).toNat).length<N then some (some (vEnd (a:Int).toNat (bJ ((lt (S l)).drop (a:Int).toNat) (d:Int).toNat)),H) else none)=_
  rw [lt_S,if_pos ⟨by lia,by lia,by rw [cD];exact hl,by lia,ho,hN⟩]
  rfl)
 walk_at "z"
theorem ldouble_at {N:Nat}(k:aH Γ F.at_law_double (eD N))(hl:l.length≤60)(ho:okL l=true){x:Int}(hx:x=(a:Int))(ha:a≤100)(hN:(l.drop a).length<N):Γ F.at_law_double [.str (S l),.int x] H=some (some (vDbl a (bA (1+cnt (l.take a)) (l.drop a))),H):=by
 walk_at "a"
 exact k _ _ _ (by
  subst hx
  show (if 0≤(a:Int)∧(a:Int)≤100∧(S l).length≤60∧okL (lt (S l))=true∧((lt (S l)).drop (a:Int).toNat).length<N then some (some (vDbl (a:Int).toNat (bA (1+cnt ((lt (S l)).take (a:Int).toNat)) ((lt (S l)).drop (a:Int).toNat))),H) else none)=_
  rw [lt_S,if_pos ⟨by lia,by lia,by rw [cD];exact hl,ho,hN⟩]
  rfl)
 walk_at "z"
noncomputable abbrev ceSt (l:List Nat)(a d:Nat)(y z:Option V)(H:List aE):St:=⟨[some (.str (S l)),some (.int a),some (.int d),y,z],H⟩
theorem run_lcode {N:Nat}(kS:aH Γ F.at_law_single (eC 61))(kD:aH Γ F.at_law_double (eD N))(kC:aH Γ F.at_law_code_end (eY N))(hl:l.length≤60)(ho:okL l=true)(ha:a≤200)(hd:1≤d)(hN:(l.drop a).length<N+1) :
  ∃ σ',cF (F.K P) Γ (ceSt l a d none none H)=some (some (.ret (vEnd a (bJ (l.drop a) d))),σ')∧σ'.H=H:=by
 walk_at "a"
 have hl2:l.length≤1000:=by lia
 have q0:=fun σ=>len_S (K:=F.K P) (l:=l) (σ:=σ) hl2
 cases hs:l.drop a with
 | nil =>
  have f1:decide ((a:Int)≥(l.length:Int))=true:=by have:=drop_nil hs;simp;lia
  refine ⟨ceSt l a d none none H,?_,rfl⟩
  rw [bJ]
  show _=some (some (Fl.ret .none),_)
  unfold cF
  repeat walk_at "s"
 | cons c s =>
  obtain ⟨hc,hs1,hlt⟩:=drop_cons hs
  have hsl:l.length-a=s.length+1:=by rw [← List.length_drop,hs];rfl
  have hsN:s.length<N:=by rw [hs] at hN;simp at hN;lia
  have f1:decide ((a:Int)≥(l.length:Int))=false:=by simp;lia
  have q1:=fun σ=>item_S (σ:=σ) hc (by lia)
  rw [bJ]
  by_cases h39:c=39
  ·subst h39
   rw [if_pos rfl]
   have f2:(S [39]==S [39])=true:=eQ rfl
   have e1:=lsingle_at (H:=H) (a:=a+1) (x:=(a:Int)+1) kS hl (by lia) (by lia) (by rw [hs1];lia)
   rw [hs1] at e1
   cases hr:cO s with
   | none =>
    rw [hr] at e1
    have q2:Γ F.at_law_single [.str (S l),.int ((a:Int)+1)] H=some (some .none,H):=e1
    refine ⟨ceSt l a d (some (.str (S [39]))) (some .none) H,?_,rfl⟩
    show _=some (some (Fl.ret .none),_)
    unfold cF
    rw [w_q,w_o,w_c]
    repeat walk_at "s"
   | some p =>
    obtain ⟨t,k2⟩:=p
    have hk:=fR _ hr
    rw [hr] at e1
    have q2:Γ F.at_law_single [.str (S l),.int ((a:Int)+1)] H=some (some (.tup [.str (S t),.int ((a+1+k2:Nat):Int)]),H):=e1
    have hdr:l.drop (a+1+k2)=s.drop k2:=by rw [← List.drop_drop,hs1]
    have q3:=lcode_at (H:=H) (a:=a+1+k2) (d:=d) kC hl ho (x:=((a+1+k2:Nat):Int)) (y:=(d:Int)) rfl rfl (by lia) hd (by rw [hdr,List.length_drop];lia)
    rw [hdr] at q3
    have e5:vEnd a ((bJ (s.drop k2) d).map (· + (1+k2)))=vEnd (a+1+k2) (bJ (s.drop k2) d):=by
     cases bJ (s.drop k2) d with
     | none=>rfl
     | some k3=>show V.int ((a+(k3+(1+k2)):Nat):Int)=V.int ((a+1+k2+k3:Nat):Int);rw [show a+(k3+(1+k2))=a+1+k2+k3 by lia]
    refine ⟨ceSt l a d (some (.str (S [39]))) (some (.tup [.str (S t),.int ((a+1+k2:Nat):Int)])) H,?_,rfl⟩
    show _=some (some (Fl.ret (vEnd a ((bJ (s.drop k2) d).map (· + (1+k2))))),_)
    rw [e5]
    unfold cF
    rw [w_q,w_o,w_c]
    repeat walk_at "s"
  ·have f2:(S [c]==S [39])=false:=cN (by simpa using h39)
   rw [if_neg h39]
   by_cases h34:c=34
   ·subst h34
    rw [if_pos rfl]
    have f3:(S [34]==S [34])=true:=eQ rfl
    have e1:=ldouble_at (H:=H) (a:=a+1) (x:=(a:Int)+1) kD hl ho (by lia) (by lia) (by rw [hs1];lia)
    rw [hs1] at e1
    have e2:=double_end (s.length+1) (1+cnt (l.take (a+1))) s (by lia)
    cases hr:bA (1+cnt (l.take (a+1))) s with
    | none =>
     rw [hr] at e1 e2
     rw [← e2]
     have q2:Γ F.at_law_double [.str (S l),.int ((a:Int)+1)] H=some (some .none,H):=e1
     refine ⟨ceSt l a d (some (.str (S [34]))) (some .none) H,?_,rfl⟩
     show _=some (some (Fl.ret .none),_)
     unfold cF
     rw [w_q,w_o,w_c]
     repeat walk_at "s"
    | some p =>
     obtain ⟨ps,k2⟩:=p
     rw [hr] at e1 e2
     rw [← e2]
     have hk:=(iQ (s.length+1) s (by lia)).2 k2 e2.symm
     have q2:Γ F.at_law_double [.str (S l),.int ((a:Int)+1)] H=some (some (.tup [.lst (ps.map vPt),.int ((a+1+k2:Nat):Int)]),H):=e1
     have hdr:l.drop (a+1+k2)=s.drop k2:=by rw [← List.drop_drop,hs1]
     have q3:=lcode_at (H:=H) (a:=a+1+k2) (d:=d) kC hl ho (x:=((a+1+k2:Nat):Int)) (y:=(d:Int)) rfl rfl (by lia) hd (by rw [hdr,List.length_drop];lia)
     rw [hdr] at q3
     have e5:vEnd a ((bJ (s.drop k2) d).map (· + (1+k2)))=vEnd (a+1+k2) (bJ (s.drop k2) d):=by
      cases bJ (s.drop k2) d with
      | none=>rfl
      | some k3=>show V.int ((a+(k3+(1+k2)):Nat):Int)=V.int ((a+1+k2+k3:Nat):Int);rw [show a+(k3+(1+k2))=a+1+k2+k3 by lia]
     refine ⟨ceSt l a d (some (.str (S [34]))) (some (.tup [.lst (ps.map vPt),.int ((a+1+k2:Nat):Int)])) H,?_,rfl⟩
     show _=some (some (Fl.ret (vEnd a ((bJ (s.drop k2) d).map (· + (1+k2))))),_)
     rw [e5]
     unfold cF
     rw [w_q,w_o,w_c]
     repeat walk_at "s"
   ·have f3:(S [c]==S [34])=false:=cN (by simpa using h34)
    rw [if_neg h34]
    have go:∀ (y1 y2:Int) (d2:Nat),callT "int" [.bool (S [c]==S [123])]=M.ret (.int y1)→callT "int" [.bool (S [c]==S [125])]=M.ret (.int y2)→(d:Int)+y1-y2=(d2:Int)→1≤d2 →
      ∃ σ',cF (F.K P) Γ (ceSt l a d none none H)=some (some (.ret (vEnd a ((bJ s d2).map (· + 1)))),σ')∧σ'.H=H:=fun y1 y2 d2 g1 g2 g3 g4=>by
     have q2:∀ σ,callT "int" [.bool (S [c]==S [123])] σ=some (some (.int y1),σ):=fun σ=>by rw [g1,bF]
     have q3:∀ σ,callT "int" [.bool (S [c]==S [125])] σ=some (some (.int y2),σ):=fun σ=>by rw [g2,bF]
     have q4:=lcode_at (H:=H) (a:=a+1) (d:=d2) kC hl ho (x:=(a:Int)+1) (y:=(d:Int)+y1-y2) (by lia) g3 (by lia) g4 (by rw [hs1];lia)
     rw [hs1] at q4
     have f4:((d:Int)+y1-y2==0)=false:=by rw [beq_eq_false_iff_ne];lia
     have e5:vEnd a ((bJ s d2).map (· + 1))=vEnd (a+1) (bJ s d2):=by
      cases bJ s d2 with
      | none=>rfl
      | some k3=>show V.int ((a+(k3+1):Nat):Int)=V.int ((a+1+k3:Nat):Int);rw [show a+(k3+1)=a+1+k3 by lia]
     refine ⟨⟨[some (.str (S l)),some (.int a),some (.int ((d:Int)+y1-y2)),some (.str (S [c])),none],H⟩,?_,rfl⟩
     rw [e5]
     unfold cF
     rw [w_q,w_o,w_c]
     repeat walk_at "s"
    have i0:∀ {b:Bool},b=false→callT "int" [.bool b]=M.ret (.int 0):=fun h=>by subst h;rfl
    have i1:∀ {b:Bool},b=true→callT "int" [.bool b]=M.ret (.int 1):=fun h=>by subst h;rfl
    by_cases h123:c=123
    ·rw [if_pos h123]
     exact go 1 0 (d+1) (i1 (eQ (by rw [h123]))) (i0 (cN (by simp [h123]))) (by lia) (by lia)
    ·rw [if_neg h123]
     by_cases h125:c=125
     ·rw [if_pos h125]
      by_cases hd1:d=1
      ·rw [if_pos hd1]
       have q2:∀ σ,callT "int" [.bool (S [c]==S [123])] σ=some (some (.int 0),σ):=fun σ=>by rw [i0 (cN (by simp [h125])),bF]
       have q3:∀ σ,callT "int" [.bool (S [c]==S [125])] σ=some (some (.int 1),σ):=fun σ=>by rw [i1 (eQ (by rw [h125])),bF]
       have f4:((d:Int)+0-1==0)=true:=by rw [beq_iff_eq];lia
       refine ⟨⟨[some (.str (S l)),some (.int a),some (.int ((d:Int)+0-1)),some (.str (S [c])),none],H⟩,?_,rfl⟩
       show _=some (some (Fl.ret (.int ((a:Int)+1))),_)
       unfold cF
       rw [w_q,w_o,w_c]
       repeat walk_at "s"
      ·rw [if_neg hd1]
       exact go 0 1 (d-1) (i0 (cN (by simp [h125]))) (i1 (eQ (by rw [h125]))) (by lia) (by lia)
     ·rw [if_neg h125]
      exact go 0 0 d (i0 (cN (by simpa using h123))) (i0 (cN (by simpa using h125))) (by lia) hd
 walk_at "z"
theorem lcode_ok {prog:Program}{w:World}{sl:Addr}{sn:List Int}{n:Nat}(N:Nat)(G:GOK prog w (KK w) (.ref 59) sl sn Γ n)(kS:aH Γ F.at_law_single (eC 61))(kD:aH Γ F.at_law_double (eD N))(kC:aH Γ F.at_law_code_end (eY N)) :
  GOK prog w (KK w) (.ref 59) sl sn (ov F.at_law_code_end (eY (N+1)) Γ) (n+1):=by
 walk_at "a"
 refine ok_law_code_end G fun vs H r h0=>pSII_e h0 fun t x y e0 h1x=>fL h1x fun hq h2x=>?_
 subst e0
 obtain rfl:=Option.some.inj h2x
 obtain ⟨σ',e,eH⟩:=run_lcode (P:=w.params) (Γ:=Γ) (H:=H) (l:=lt t) (a:=x.toNat) (d:=y.toNat) kS kD kC (by have:=hq.2.2.1;simpa [lt,Str.length] using this) hq.2.2.2.2.1 (by lia) (by lia) hq.2.2.2.2.2
 have e2:((x.toNat:Nat):Int)=x:=by lia
 have e3:((y.toNat:Nat):Int)=y:=by lia
 have e':cF (KK w) Γ ⟨[some (.str (S (lt t))),some (.int (x.toNat:Int)),some (.int (y.toNat:Int)),none,none],H⟩=_:=e
 rw [S_lt,e2,e3] at e'
 exact .of (Nat.le_refl _) [.str t,.int x,.int y] rfl rfl _ _ e' (cE (by rw [eH];exact cX.same) (.same (by cases bJ ((lt t).drop x.toNat) y.toNat<;>rfl)))
 walk_at "z"
end
end Mine
end
section
namespace Mine
section
variable {K:Frag}{σ:St}
theorem isi_S {x:Str}:bG K "isinstance" [.str x,.ty "str"] σ=some (some (.bool true),σ):=by
 walk_at "a"
 have e0:bG K "isinstance" [.str x,.ty "str"]=bIsi [.str x,.ty "str"]:=by unfold bG;rfl
 rw [e0];exact bF
 walk_at "z"
theorem isi_T {vs:List V}:bG K "isinstance" [.tup vs,.ty "str"] σ=some (some (.bool false),σ):=by
 walk_at "a"
 have e0:bG K "isinstance" [.tup vs,.ty "str"]=bIsi [.tup vs,.ty "str"]:=by unfold bG;rfl
 rw [e0];exact bF
 walk_at "z"
theorem itl0 {x:V}{r:List V}:cU (.lst (x::r)) (.int 0) σ=some (some x,σ):=by
 walk_at "a"
 cases σ;rfl
 walk_at "z"
theorem c_neL0:aY .NotEq (.lst []) (.lst []) σ=some (some (.bool false),σ):=by cases σ;rfl
theorem c_neL1 {x:V}{r:List V}:aY .NotEq (.lst (x::r)) (.lst []) σ=some (some (.bool true),σ):=by cases σ;rfl
theorem c_neTS {vs:List V}{x:Str}:aY .NotEq (.tup vs) (.str x) σ=some (some (.bool true),σ):=by
 walk_at "a"
 cases σ;rfl
 walk_at "z"
theorem pick_rangeV {α:Type}(vs:List α)(i:Nat):∀ m,i+m≤vs.length→((List.range m).map fun (k:Nat)=>((i:Int)+1*(k:Int)).toNat).filterMap (vs[·]?)=(vs.drop i).take m
 | 0,_=>by simp
 | m+1,h=>by
  walk_at "a"
  have ih:=pick_rangeV vs i m (by lia)
  rw [List.range_succ,List.map_append,List.filterMap_append,ih,List.take_add_one]
  congr 1
  have e:((i:Int)+1*(m:Int)).toNat=i+m:=by lia
  have h1:i+m<vs.length:=by lia
  rw [List.map_cons,List.map_nil,e]
  simp [List.getElem?_drop,List.getElem?_eq_getElem h1]
  walk_at "z"
theorem pick_tail (x:V)(r:List V):pickV (x::r) (some 1) none=r:=by
 walk_at "a"
 unfold pickV
 have e:sliceBounds (some 1) none none (x::r).length=(((1:Nat):Int),(((x::r).length:Nat):Int),1):=by
  unfold sliceBounds
  simp only [Option.getD_none,show (1:Int)>0 by decide,if_true]
  have:¬ ((1:Int)<0):=by decide
  simp only [this,if_false,List.length_cons]
  refine Prod.ext ?_ rfl
  show max 0 (min (1:Int) _)=_
  lia
 rw [e,idx_nat (x::r).length 1 (x::r).length (by simp) (Nat.le_refl _),pick_rangeV _ _ _ (by simp;lia)]
 simp
 walk_at "z"
theorem sl_tail {x:V}{r:List V}(h:r.length≤1000):bM (.lst (x::r)) (.int 1) .none σ=some (some (.lst r),σ):=by
 walk_at "a"
 show ((if (x::r).length≤100000 then M.ret (.lst (pickV (x::r) (some 1) none)) else M.stuck:M V) σ)=_
 rw [if_pos (by simp;lia),pick_tail,bF]
 walk_at "z"
theorem addL {xs ys:List V}(h:xs.length+ys.length≤100000):binL .Add (.lst xs) (.lst ys) σ=some (some (.lst (xs++ys)),σ):=by
 walk_at "a"
 show ((if xs.length+ys.length≤100000 then M.ret (.lst (xs++ys)) else M.stuck:M V) σ)=_
 rw [if_pos h,bF]
 walk_at "z"
end
theorem glue_len (u:List Nat)(ps:List Pt):(glue u ps).length≤ps.length+1:=by
 walk_at "a"
 rcases ps with _ | ⟨_ | ⟨t,n⟩,r⟩
 ·show (if u=[] then [] else [Pt.txt u]).length≤_
  split<;>simp
 ·simp [glue]
 ·show (if u=[] then Pt.cod t n::r else Pt.txt u::Pt.cod t n::r).length≤_
  split<;>simp
 walk_at "z"
theorem double_len:∀ (n ln:Nat) (s:List Nat) {ps:List Pt} {k:Nat},s.length<n→bA ln s=some (ps,k)→ps.length≤s.length
 | 0,ln,s,ps,k,h,e=>by lia
 | n+1,ln,s,ps,k,h,e=>by
  walk_at "a"
  have ih:=@double_len n
  match s,h,e with
  | [],h,e=>rw [bA] at e;cases e
  | [c],h,e =>
   rw [bA] at e
   split at e
   ·cases e;simp
   ·cases e
  | c::d::s,h,e =>
   simp only [List.length_cons] at h ⊢
   rw [bA] at e
   split at e
   ·cases e;simp
   ·split at e
    ·split at e
     ·rename_i k2 hk
      obtain ⟨⟨p,k3⟩,e1,e2⟩:=Option.map_eq_some_iff.mp e
      cases e2
      have:=ih _ (s.drop k2) (by simp;lia) e1
      simp only [List.length_cons,List.length_drop] at this ⊢;lia
     ·cases e
    ·split at e
     ·obtain ⟨⟨p,k3⟩,e1,e2⟩:=Option.map_eq_some_iff.mp e
      cases e2
      have:=ih _ s (by lia) e1
      have:=glue_len (iD d) p
      simp only at *;lia
     ·obtain ⟨⟨p,k3⟩,e1,e2⟩:=Option.map_eq_some_iff.mp e
      cases e2
      have:=ih _ (d::s) (by simp;lia) e1
      have:=glue_len [c] p
      simp only [List.length_cons] at *;lia
  walk_at "z"
section
variable {P:Params}{l:List Nat}{a d:Nat}{H:List aE}{ρ:List (Option V)}{Γ:CT}
theorem tail_none {pv:V}{x4 x5:Option V}:∃ σ',bW (F.K P) Γ ⟨[some (.str (S l)),some (.int a),some .none,some pv,x4,x5,none,none],H⟩=some (some (.ret .none),σ')∧σ'.H=H:=by
 refine ⟨⟨[some (.str (S l)),some (.int a),some .none,some pv,x4,x5,some .none,none],H⟩,?_,rfl⟩
 unfold bW
 repeat walk_at "s"
section
variable {e:Int}{e':Nat}{x4 x5:Option V}
theorem tail_stop {pv:V}(h:Γ F.at_law_double [.str (S l),.int e] H=some (some .none,H)):∃ σ',bW (F.K P) Γ ⟨[some (.str (S l)),some (.int a),some (.int e),some pv,x4,x5,none,none],H⟩=some (some (.ret .none),σ')∧σ'.H=H:=by
 refine ⟨⟨[some (.str (S l)),some (.int a),some (.int e),some pv,x4,x5,some .none,none],H⟩,?_,rfl⟩
 have q0:=h
 unfold bW
 repeat walk_at "s"
theorem tail_txt {u:List Nat}{ps:List Pt}{k:Int}(hu:u.length≤1000)(hps:ps.length≤900)(ht:∀ t r,ps=.txt t::r→t.length≤1000)(h:Γ F.at_law_double [.str (S l),.int e] H=some (some (.tup [.lst (ps.map vPt),.int k]),H)) :
  ∃ σ',bW (F.K P) Γ ⟨[some (.str (S l)),some (.int a),some (.int e),some (.str (S u)),x4,x5,none,none],H⟩=some (some (.ret (.tup [.lst ((glue u ps).map vPt),.int k])),σ')∧σ'.H=H:=by
 walk_at "a"
 refine ⟨⟨[some (.str (S l)),some (.int a),some (.int e),some (.str (S u)),x4,x5,some (.tup [.lst (ps.map vPt),.int k]),some (.lst (ps.map vPt))],H⟩,?_,rfl⟩
 have q0:=h
 rcases ps with _ | ⟨t | ⟨t,m⟩,r⟩
 ·have q5:Γ F.at_law_double [.str (S l),.int e] H=some (some (.tup [.lst [],.int k]),H):=h
  show bW (F.K P) Γ _=some (some (.ret (.tup [.lst ((glue u []).map vPt),.int k])),⟨[some (.str (S l)),some (.int a),some (.int e),some (.str (S u)),x4,x5,some (.tup [.lst [],.int k]),some (.lst [])],H⟩)
  clear q0
  unfold bW
  rw [w_e]
  by_cases hu0:u=[]
  ·have f1:(S u != S [])=false:=bne_q hu0
   have q1:∀ σ,binL .Add (.lst []) (.lst []) σ=some (some (.lst ((glue u []).map vPt)),σ):=fun σ=>by rw [addL (by simp),hu0];rfl
   repeat walk_at "s"
  ·have f1:(S u != S [])=true:=bne_n hu0
   have q1:∀ σ,binL .Add (.lst [.str (S u)]) (.lst []) σ=some (some (.lst ((glue u []).map vPt)),σ):=fun σ=>by rw [addL (by simp)];simp [glue,hu0,vPt]
   repeat walk_at "s"
 ·have q1:∀ σ,bO .Add (.str (S u)) (.str (S t)) σ=some (some (.str (S (u++t))),σ):=fun σ=>by rw [b_addS (by have:=ht t r rfl;rw [cD,cD];lia),S_app]
  have q2:∀ σ,bM (.lst (vPt (.txt t)::r.map vPt)) (.int 1) .none σ=some (some (.lst (r.map vPt)),σ):=fun σ=>sl_tail (by simp at hps ⊢;lia)
  have q3:∀ σ,binL .Add (.lst [.str (S (u++t))]) (.lst (r.map vPt)) σ=some (some (.lst ((glue u (.txt t::r)).map vPt)),σ):=fun σ=>by rw [addL (by simp at hps ⊢;lia)];rfl
  have q4:∀ σ,cU (.lst (vPt (.txt t)::r.map vPt)) (.int 0) σ=some (some (.str (S t)),σ):=fun σ=>itl0
  show bW (F.K P) Γ _=some (some (.ret (.tup [.lst ((glue u (.txt t::r)).map vPt),.int k])),⟨[some (.str (S l)),some (.int a),some (.int e),some (.str (S u)),x4,x5,some (.tup [.lst (vPt (.txt t)::r.map vPt),.int k]),some (.lst (vPt (.txt t)::r.map vPt))],H⟩)
  have q5:Γ F.at_law_double [.str (S l),.int e] H=some (some (.tup [.lst (vPt (.txt t)::r.map vPt),.int k]),H):=h
  clear q0
  unfold bW
  rw [w_e]
  repeat walk_at "s"
 ·have q4:∀ σ,cU (.lst (vPt (.cod t m)::r.map vPt)) (.int 0) σ=some (some (.tup [.str (S t),.int m]),σ):=fun σ=>itl0
  have q5:Γ F.at_law_double [.str (S l),.int e] H=some (some (.tup [.lst (vPt (.cod t m)::r.map vPt),.int k]),H):=h
  show bW (F.K P) Γ _=some (some (.ret (.tup [.lst ((glue u (.cod t m::r)).map vPt),.int k])),⟨[some (.str (S l)),some (.int a),some (.int e),some (.str (S u)),x4,x5,some (.tup [.lst (vPt (.cod t m)::r.map vPt),.int k]),some (.lst (vPt (.cod t m)::r.map vPt))],H⟩)
  clear q0
  unfold bW
  rw [w_e]
  by_cases hu0:u=[]
  ·have f1:(S u != S [])=false:=bne_q hu0
   have q1:∀ σ,binL .Add (.lst []) (.lst (vPt (.cod t m)::r.map vPt)) σ=some (some (.lst ((glue u (.cod t m::r)).map vPt)),σ):=fun σ=>by rw [addL (by simp at hps ⊢;lia),hu0];rfl
   repeat walk_at "s"
  ·have f1:(S u != S [])=true:=bne_n hu0
   have q1:∀ σ,binL .Add (.lst [.str (S u)]) (.lst (vPt (.cod t m)::r.map vPt)) σ=some (some (.lst ((glue u (.cod t m::r)).map vPt)),σ):=fun σ=>by rw [addL (by simp at hps ⊢;lia)];simp [glue,hu0,vPt]
   repeat walk_at "s"
 walk_at "z"
theorem tail_cod {u:List Nat}{n:Int}{ps:List Pt}{k:Int}(hps:ps.length≤900)(h:Γ F.at_law_double [.str (S l),.int e] H=some (some (.tup [.lst (ps.map vPt),.int k]),H)) :
  ∃ σ',bW (F.K P) Γ ⟨[some (.str (S l)),some (.int a),some (.int e),some (.tup [.str (S u),.int n]),x4,x5,none,none],H⟩=some (some (.ret (.tup [.lst (.tup [.str (S u),.int n]::ps.map vPt),.int k])),σ')∧σ'.H=H:=by
 walk_at "a"
 refine ⟨⟨[some (.str (S l)),some (.int a),some (.int e),some (.tup [.str (S u),.int n]),x4,x5,some (.tup [.lst (ps.map vPt),.int k]),some (.lst (ps.map vPt))],H⟩,?_,rfl⟩
 have q0:=h
 have q1:∀ σ,binL .Add (.lst [.tup [.str (S u),.int n]]) (.lst (ps.map vPt)) σ=some (some (.lst (.tup [.str (S u),.int n]::ps.map vPt)),σ):=fun σ=>by rw [addL (by simp;lia)];rfl
 unfold bW
 rw [w_e]
 repeat walk_at "s"
 walk_at "z"
end
end
end Mine
end
section
namespace Mine
theorem glue_head (u:List Nat)(ps:List Pt){n:Nat}(h:∀ t r,ps=.txt t::r→t.length≤n):∀ t r,glue u ps=.txt t::r→t.length≤u.length+n:=by
 walk_at "a"
 intro t r e
 rcases ps with _ | ⟨v | ⟨v,m⟩,q⟩
 ·have e:(if u=[] then [] else [Pt.txt u])=.txt t::r:=e
  split at e
  ·cases e
  ·cases e;lia
 ·have e:Pt.txt (u++v)::q=.txt t::r:=e
  have h2:=h v q rfl
  cases e
  rw [List.length_append];lia
 ·have e:(if u=[] then Pt.cod v m::q else Pt.txt u::Pt.cod v m::q)=.txt t::r:=e
  split at e
  ·cases e
  ·cases e;lia
 walk_at "z"
theorem double_head:∀ (n ln:Nat) (s:List Nat) {ps:List Pt} {k:Nat},s.length<n→bA ln s=some (ps,k)→∀ t r,ps=.txt t::r→t.length≤s.length
 | 0,ln,s,ps,k,h,e=>by lia
 | n+1,ln,s,ps,k,h,e=>by
  walk_at "a"
  have ih:=@double_head n
  match s,h,e with
  | [],h,e=>rw [bA] at e;cases e
  | [c],h,e =>
   rw [bA] at e
   split at e
   ·cases e;intro t r q;cases q
   ·cases e
  | c::d::s,h,e =>
   simp only [List.length_cons] at h ⊢
   rw [bA] at e
   split at e
   ·cases e;intro t r q;cases q
   ·split at e
    ·split at e
     ·rename_i k2 hk
      obtain ⟨⟨p,k3⟩,e1,e2⟩:=Option.map_eq_some_iff.mp e
      cases e2
      intro t r q;cases q
     ·cases e
    ·split at e
     ·obtain ⟨⟨p,k3⟩,e1,e2⟩:=Option.map_eq_some_iff.mp e
      cases e2
      intro t r q
      have:=glue_head (iD d) p (ih _ s (by lia) e1) t r q
      have hle:(iD d).length≤1:=by
       unfold iD
       repeat' split
       all_goals simp
      lia
     ·obtain ⟨⟨p,k3⟩,e1,e2⟩:=Option.map_eq_some_iff.mp e
      cases e2
      intro t r q
      have:=glue_head [c] p (ih _ (d::s) (by simp;lia) e1) t r q
      simp at this ⊢;lia
  walk_at "z"
noncomputable abbrev iH:List (Str×V):=[((Str.ofString "n"),.str ⟨#[(10:Int).toNat]⟩),((Str.ofString "0"),.str ⟨#[(0:Int).toNat]⟩),(⟨#[(10:Int).toNat]⟩,.str (Str.ofString ""))]
theorem known_eq:iH=[(S [110],.str (S [10])),(S [48],.str (S [0])),(S [10],.str (S []))]:=by
 walk_at "a"
 have e1:Str.ofString "n"=S [110]:=by decide
 have e2:Str.ofString "0"=S [48]:=by decide
 have e3:Str.ofString ""=S []:=by decide
 unfold iH
 rw [e1,e2,e3]
 rfl
 walk_at "z"
theorem getM_known {K:Frag}{σ:St}:getM K (Str.ofString "get") (.dct iH) σ=some (some (.bi "dict.get",[.dct iH]),σ):=by
 have e1:fN K (.dct iH)=some iH:=rfl
 exact getM_tab e1 rfl rfl
theorem get_known {K:Frag}{c:Nat}{σ:St}(h:c≠116∧c≠115∧c≠101∧c≠114):bG K "dict.get" [.dct iH,.str (S [c]),.str (S [c])] σ=some (some (.str (S (iD c))),σ):=by
 walk_at "a"
 have e0:bG K "dict.get" [.dct iH,.str (S [c]),.str (S [c])]=bGet K [.dct iH,.str (S [c]),.str (S [c])]:=by unfold bG;rfl
 have e1:fN K (.dct iH)=some iH:=rfl
 rw [e0]
 rw [bGet3 e1]
 have:(datumAt (S [c]) iH).getD (.str (S [c]))=.str (S (iD c)):=by
  rw [known_eq]
  unfold iD
  simp only [dat_S,dat_N]
  rw [if_neg h.1 (α:=List Nat),if_neg h.2.1 (α:=List Nat),if_neg h.2.2.1 (α:=List Nat),if_neg h.2.2.2 (α:=List Nat)]
  repeat' split
  all_goals rfl
 rw [this,bF]
 walk_at "z"
theorem okL_at {l:List Nat}(h:okL l=true){c:Nat}(hc:c∈l):c≠116∧c≠115∧c≠101∧c≠114:=by
 unfold okL at h
 have:=List.all_eq_true.mp h c hc
 simp only [Bool.and_eq_true,bne_iff_ne,ne_eq] at this
 exact ⟨this.1.1.1,this.1.1.2,this.1.2,this.2⟩
section
variable {P:Params}{l:List Nat}{a d:Nat}{H:List aE}{ρ:List (Option V)}{Γ:CT}
noncomputable abbrev ldSt (l:List Nat)(a:Nat)(H:List aE):St:=⟨[some (.str (S l)),some (.int a),none,none,none,none,none,none],H⟩
theorem run_ldouble {N:Nat}(kL:aH Γ F.at_law_line hJ)(kD:aH Γ F.at_law_double (eD N))(kC:aH Γ F.at_law_code_end (eY N))(hl:l.length≤60)(ho:okL l=true)(ha:a≤100)(hN:(l.drop a).length<N+1) :
  ∃ σ',cL (F.K P) Γ (ldSt l a H)=some (some (.ret (vDbl a (bA (1+cnt (l.take a)) (l.drop a)))),σ')∧σ'.H=H:=by
 walk_at "a"
 have hl2:l.length≤1000:=by lia
 have q0:=fun σ=>len_S (K:=F.K P) (l:=l) (σ:=σ) hl2
 have hcnt:∀ (x y:List Nat),cnt (x++y)=cnt x+cnt y:=fun x y=>List.count_append
 have htk:∀ r,1+cnt (l.take (a+r))=1+cnt (l.take a)+cnt ((l.drop a).take r):=fun r=>by rw [List.take_add,hcnt];lia
 have dbl:=fun (r:Nat) (x:Int) (hx:x=((a+r:Nat):Int)) (h1:1≤r) (h2:a+r≤l.length)=>ldouble_at (H:=H) (a:=a+r) (x:=x) kD hl ho hx (by lia) (by rw [List.length_drop] at hN ⊢;lia)
 cases hs:l.drop a with
 | nil =>
  have f1:decide ((a:Int)≥(l.length:Int))=true:=by have:=drop_nil hs;simp;lia
  refine ⟨ldSt l a H,?_,rfl⟩
  rw [bA]
  show _=some (some (Fl.ret .none),_)
  unfold cL
  repeat walk_at "s"
 | cons c s =>
  obtain ⟨hc,hs1,hlt⟩:=drop_cons hs
  have hsl:l.length-a=s.length+1:=by rw [← List.length_drop,hs];rfl
  have f1:decide ((a:Int)≥(l.length:Int))=false:=by simp;lia
  have q1:=fun σ=>item_S (σ:=σ) hc (by lia)
  by_cases h34:c=34
  ·subst h34
   have f2:(S [34]==S [34])=true:=eQ rfl
   have e0:∀ m,bA m (34::s)=some ([],1):=fun m=>by cases s<;>(rw [bA];rfl)
   rw [e0]
   refine ⟨ldSt l a H,?_,rfl⟩
   show _=some (some (Fl.ret (.tup [.lst [],.int ((a:Int)+1)])),_)
   unfold cL
   repeat walk_at "s"
  ·have f2:(S [c]==S [34])=false:=cN (by simpa using h34)
   have q2:∀ σ,bM (.str (S l)) (.int (a:Int)) (.int ((a:Int)+2)) σ=some (some (.str (S ((c::s).take 2))),σ):=fun σ=>by
    have:=sl_ss (l:=l) (a:=a) (b:=a+2) (σ:=σ) hl2
    rw [List.drop_take,Nat.add_sub_cancel_left,hs] at this
    exact this
   by_cases hcode:(c::s).take 2=[35,123]
   ·obtain ⟨s,rfl,rfl⟩:∃ s',s=123::s'∧c=35:=by
     cases s with
     | nil=>cases hcode
     | cons d s=>cases hcode;exact ⟨s,rfl,rfl⟩
    have f3:(S ((35::123::s).take 2)==S [35,123])=true:=eQ rfl
    have hs2:l.drop (a+2)=s:=(drop_cons hs1).2.1
    simp only [List.length_cons] at hsl
    have e1:=lcode_at (H:=H) (a:=a+2) (d:=1) kC hl ho (x:=(a:Int)+2) (y:=1) (by lia) rfl (by lia) (by lia) (by rw [hs2];rw [List.length_drop] at hN;lia)
    rw [hs2] at e1
    rw [bA,if_neg (by decide),if_pos ⟨rfl,rfl⟩]
    cases hk:bJ s 1 with
    | none =>
     rw [hk] at e1
     have q3:Γ F.at_law_code_end [.str (S l),.int ((a:Int)+2),.int 1] H=some (some .none,H):=e1
     obtain ⟨σ',t1,t2⟩:=tail_none (P:=P) (Γ:=Γ) (l:=l) (a:=a) (H:=H) (pv:=.none) (x4:=none) (x5:=none)
     have q4:=t1
     refine ⟨σ',?_,t2⟩
     show _=some (some (Fl.ret .none),_)
     unfold cL
     rw [w_h]
     repeat walk_at "s"
    | some k =>
     have hk1:=(iQ (s.length+1) s (by lia)).1 _ _ hk
     rw [hk] at e1
     have q3:Γ F.at_law_code_end [.str (S l),.int ((a:Int)+2),.int 1] H=some (some (.int ((a+2+k:Nat):Int)),H):=e1
     have q4:=lline_at (H:=H) (a:=a+2) (x:=(a:Int)+2) kL hl (by lia) (by lia)
     have hline:1+cnt (l.take (a+2))=1+cnt (l.take a):=by rw [htk 2,hs];simp [cnt]
     rw [hline] at q4
     have q5:∀ σ,bM (.str (S l)) (.int ((a:Int)+2)) (.int (((a+2+k:Nat):Int)-1)) σ=some (some (.str (S (s.take (k-1)))),σ):=fun σ=>by
      have:=sl_ss (l:=l) (a:=a+2) (b:=a+2+(k-1)) (σ:=σ) hl2
      rw [List.drop_take,Nat.add_sub_cancel_left,hs2] at this
      rw [show ((a:Int)+2)=((a+2:Nat):Int) by lia,show (((a+2+k:Nat):Int)-1)=((a+2+(k-1):Nat):Int) by lia]
      exact this
     have e2:=dbl (2+k) ((a+2+k:Nat):Int) (by lia) (by lia) (by lia)
     have hdr:l.drop (a+(2+k))=s.drop k:=by rw [← Nat.add_assoc,← List.drop_drop,hs2]
     have hln:1+cnt (l.take (a+(2+k)))=1+cnt (l.take a)+cnt (s.take k):=by
      rw [htk (2+k),hs,show (35::123::s).take (2+k)=35::123::s.take k by rw [show 2+k=k+1+1 by lia];rfl,cnt_cons,cnt_cons,nl_one 35 (by decide),nl_one 123 (by decide)];lia
     rw [hdr,hln] at e2
     simp only
     cases hr:bA (1+cnt (l.take a)+cnt (s.take k)) (s.drop k) with
     | none =>
      rw [hr] at e2
      obtain ⟨σ',t1,t2⟩:=tail_stop (P:=P) (Γ:=Γ) (l:=l) (a:=a) (H:=H) (pv:=.tup [.str (S (s.take (k-1))),.int ((1+cnt (l.take a):Nat):Int)]) (e:=((a+2+k:Nat):Int)) (x4:=none) (x5:=none) e2
      have q6:=t1
      refine ⟨σ',?_,t2⟩
      show _=some (some (Fl.ret .none),_)
      unfold cL
      rw [w_h]
      repeat walk_at "s"
     | some p =>
      obtain ⟨ps,k2⟩:=p
      rw [hr] at e2
      have hps:=double_len _ _ _ (Nat.lt_succ_self _) hr
      rw [List.length_drop] at hps
      obtain ⟨σ',t1,t2⟩:=tail_cod (P:=P) (Γ:=Γ) (l:=l) (a:=a) (H:=H) (u:=s.take (k-1)) (n:=((1+cnt (l.take a):Nat):Int)) (e:=((a+2+k:Nat):Int)) (x4:=none) (x5:=none) (ps:=ps) (k:=((a+(2+k)+k2:Nat):Int)) (by lia) e2
      have q6:=t1
      refine ⟨σ',?_,t2⟩
      show _=some (some (Fl.ret (.tup [.lst (.tup [.str (S (s.take (k-1))),.int ((1+cnt (l.take a):Nat):Int)]::ps.map vPt),.int ((a+(k2+(2+k)):Nat):Int)])),_)
      rw [show a+(k2+(2+k))=a+(2+k)+k2 by lia]
      unfold cL
      rw [w_h]
      repeat walk_at "s"
   ·have f3:(S ((c::s).take 2)==S [35,123])=false:=cN hcode
    have fin:∀ (r:Nat) (u:List Nat) (x:Int) (m:Nat) (x4 x5:Option V),x=((a+r:Nat):Int)→1≤r→a+r≤l.length→u.length≤1→m=1+cnt (l.take (a+r)) →
      ∃ σ',bW (F.K P) Γ ⟨[some (.str (S l)),some (.int a),some (.int x),some (.str (S u)),x4,x5,none,none],H⟩=some (some (.ret (vDbl a ((bA m (l.drop (a+r))).map fun p=>(glue u p.1,p.2+r)))),σ')∧σ'.H=H:=fun r u x m x4 x5 hx h1 h2 hu hm=>by
     have e2:=dbl r x hx h1 h2
     rw [← hm] at e2
     cases hr:bA m (l.drop (a+r)) with
     | none =>
      rw [hr] at e2
      exact tail_stop (P:=P) e2
     | some p =>
      obtain ⟨ps,k2⟩:=p
      rw [hr] at e2
      have hps:=double_len _ _ _ (Nat.lt_succ_self _) hr
      have hhd:=double_head _ _ _ (Nat.lt_succ_self _) hr
      rw [List.length_drop] at hps
      obtain ⟨σ',t1,t2⟩:=tail_txt (P:=P) (Γ:=Γ) (l:=l) (a:=a) (H:=H) (u:=u) (e:=x) (x4:=x4) (x5:=x5) (ps:=ps) (k:=((a+r+k2:Nat):Int)) (by lia) (by lia) (fun t r' q=>by have:=hhd t r' q;rw [List.length_drop] at this;lia) e2
      refine ⟨σ',?_,t2⟩
      rw [t1]
      show _=some (some (Fl.ret (.tup [.lst ((glue u ps).map vPt),.int ((a+(k2+r):Nat):Int)])),_)
      rw [show a+(k2+r)=a+r+k2 by lia]
    by_cases h92:c=92
    ·subst h92
     have f4:(S [92]==S [92])=true:=eQ rfl
     cases s with
     | nil =>
      have f5:decide ((a:Int)+1≥(l.length:Int))=true:=by simp at hsl;simp;lia
      refine ⟨ldSt l a H,?_,rfl⟩
      rw [bA,if_neg (by decide)]
      show _=some (some (Fl.ret .none),_)
      unfold cL
      rw [w_h]
      repeat walk_at "s"
     | cons d s =>
      simp only [List.length_cons] at hsl
      have f5:decide ((a:Int)+1≥(l.length:Int))=false:=by simp;lia
      obtain ⟨hd,hs2,_⟩:=drop_cons hs1
      have q3:∀ σ,cU (.str (S l)) (.int ((a:Int)+1)) σ=some (some (.str (S [d])),σ):=fun σ=>item_S (a:=a+1) hd (by lia)
      have hmem:d∈l:=List.mem_of_getElem? hd
      have q4:=fun σ=>get_known (K:=F.K P) (σ:=σ) (okL_at ho hmem)
      have q5:=fun σ=>getM_known (K:=F.K P) (σ:=σ)
      have hle:(iD d).length≤1:=by
       unfold iD
       repeat' split
       all_goals simp
      obtain ⟨σ',t1,t2⟩:=fin 2 (iD d) ((a:Int)+2) (1+cnt (l.take a)+nl [d]) (some (.str (S [d]))) (some (.dct iH)) (by lia) (by lia) (by lia) hle (by rw [htk 2,hs,show (92::d::s).take 2=[92,d] from rfl,cnt_cons,cnt_cons,nl_one 92 (by decide)];simp [cnt])
      have q6:=t1
      refine ⟨σ',?_,t2⟩
      rw [bA,if_neg (by decide),if_neg (fun h=>absurd h.1 (by decide)),if_pos rfl]
      rw [show l.drop (a+2)=s from hs2] at q6
      show cL (F.K P) Γ _=some (some (Fl.ret (vDbl a ((bA (1+cnt (l.take a)+nl [d]) s).map fun p=>(glue (iD d) p.1,p.2+2)))),σ')
      unfold cL
      rw [w_h]
      repeat walk_at "s"
    ·have f4:(S [c]==S [92])=false:=cN (by simpa using h92)
     obtain ⟨σ',t1,t2⟩:=fin 1 [c] ((a:Int)+1) (1+cnt (l.take a)+nl [c]) none none (by lia) (by lia) (by lia) (by simp) (by rw [htk 1,hs,show (c::s).take 1=[c] from rfl,cnt_cons];rfl)
     have q6:=t1
     refine ⟨σ',?_,t2⟩
     have e0:∀ m,bA m (c::s)=(bA (m+nl [c]) s).map fun p=>(glue [c] p.1,p.2+1):=fun m=>by
      cases s with
      | nil=>rw [bA,bA,if_neg h34];rfl
      | cons d s=>rw [bA,if_neg h34,if_neg (fun e=>hcode (by rw [e.1,e.2];rfl)),if_neg h92]
     rw [e0]
     rw [hs1] at q6
     unfold cL
     rw [w_h]
     repeat walk_at "s"
 walk_at "z"
theorem ldouble_ok {prog:Program}{w:World}{sl:Addr}{sn:List Int}{n:Nat}(N:Nat)(G:GOK prog w (KK w) (.ref 59) sl sn Γ n)(kL:aH Γ F.at_law_line hJ)(kD:aH Γ F.at_law_double (eD N))(kC:aH Γ F.at_law_code_end (eY N)) :
  GOK prog w (KK w) (.ref 59) sl sn (ov F.at_law_double (eD (N+1)) Γ) (n+1):=by
 walk_at "a"
 refine ok_law_double G fun vs H r h0=>pSI_e h0 fun t x e0 h1x=>fL h1x fun hq h2x=>?_
 subst e0
 obtain rfl:=Option.some.inj h2x
 obtain ⟨σ',e,eH⟩:=run_ldouble (P:=w.params) (Γ:=Γ) (H:=H) (l:=lt t) (a:=x.toNat) kL kD kC (by have:=hq.2.2.1;simpa [lt,Str.length] using this) hq.2.2.2.1 (by lia) hq.2.2.2.2
 have e2:((x.toNat:Nat):Int)=x:=by lia
 have e':cL (KK w) Γ ⟨[some (.str (S (lt t))),some (.int (x.toNat:Int)),none,none,none,none,none,none],H⟩=_:=e
 rw [S_lt,e2] at e'
 refine .of (Nat.le_refl _) [.str t,.int x] rfl rfl _ _ e' (cE (by rw [eH];exact cX.same) (.same ?_))
 cases bA (1+cnt ((lt t).take x.toNat)) ((lt t).drop x.toNat) with
 | none=>rfl
 | some p=>simp only [vDbl,V.fit,V.fits,fits_pt,Bool.and_true]
 walk_at "z"
end
end Mine
end
section
namespace Mine
noncomputable def cY:List Nat:=[39,34,92,35,123,125,97,110,48,49,95,120,46,32,10,102,98,61,60,45]
noncomputable def okM (l:List Nat):Bool:=l.all cY.contains
theorem okM_okL {l:List Nat}(h:okM l=true):okL l=true:=by
 walk_at "a"
 have hm:∀ c∈cY,(c != 116&&c != 115&&c != 101&&c != 114)=true:=by decide
 unfold okL
 refine List.all_eq_true.mpr fun c hc=>hm c ?_
 have:=List.all_eq_true.mp h c hc
 simpa using this
 walk_at "z"
theorem okM_at {l:List Nat}(h:okM l=true){c:Nat}(hc:c∈l):c∈cY:=by
 walk_at "a"
 simpa using List.all_eq_true.mp h c hc
 walk_at "z"
noncomputable abbrev alpha:Str:=Str.ofString "abcdefghijklmnopqrstuvwxyzABCDEFGHIJKLMNOPQRSTUVWXYZ_0123456789"
theorem alpha_in:∀ c∈cY,Txt.contains alpha (S [c])=aG c:=by
 have:(cY.all fun c=>Txt.contains alpha (S [c])==aG c)=true:=by kernel_rfl
 exact fun c hc=>by simpa using List.all_eq_true.mp this c hc
section
variable {P:Params}{l:List Nat}{a d:Nat}{H:List aE}{ρ:List (Option V)}{Γ:CT}
noncomputable def p_lat:PC:=pSI fun t x H=>if 0≤x∧x≤100∧t.length≤60 then some (some (.obj H.length),H++[aP 248 (lt t) x.toNat (1+cnt ((lt t).take x.toNat)) []]) else none
theorem new_at {C:Addr}(k:aH Γ C (p_new C))(hl:l.length≤60){m:Nat}{x:Int}(hx:x=(m:Int)):Γ C [.str (S l),.int x] H=some (some (.obj H.length),H++[aP C l 0 m []]):=by
 walk_at "a"
 exact k _ _ _ (by
  subst hx
  show (if (S l).length≤60∧0≤(m:Int) then some (some (V.obj H.length),H++[aP C (lt (S l)) 0 (m:Int).toNat []]) else none)=_
  rw [lt_S,if_pos ⟨by rw [cD];exact hl,by lia⟩]
  rfl)
 walk_at "z"
theorem new_sc {C:Addr}(hC:okC C)(hl:l.length≤60)(m:Nat):Sc (H++[aP C l 0 m []]) H.length C l 0 m [] :=
 ⟨by simp,hC,hl,by lia,by simp,.inl rfl,rfl⟩
theorem run_lat (kN:aH Γ 248 (p_new 248))(kL:aH Γ F.at_law_line hJ)(hl:l.length≤60)(ha:a≤100) :
  x_law_at (F.K P) Γ ⟨[some (.str (S l)),some (.int a),none],H⟩=some (some (.ret (.obj H.length)),⟨[some (.str (S l)),some (.int a),some (.obj H.length)],H++[aP 248 l a (1+cnt (l.take a)) []]⟩):=by
 walk_at "a"
 have q0:=new_at (H:=H) (m:=1) (x:=1) kN hl rfl
 have q1:=lline_at (H:=H++[aP 248 l 0 1 []]) (a:=a) (x:=(a:Int)) kL hl rfl (by lia)
 have h:=new_sc (H:=H) (C:=248) (.inr (.inl rfl)) hl 1
 have q2:=fun ρ=>fV (ρ:=ρ) (P:=P) h.ok (by simp) h.at_ a
 have h':=h.put (b:=a) (m:=1) (by lia)
 have q3:=fun ρ=>set_line (ρ:=ρ) (P:=P) h.ok (by simp) h'.at_ (1+cnt (l.take a))
 have e1:(H++[aP 248 l 0 1 []]).set H.length (aP 248 l a 1 [])=H++[aP 248 l a 1 []]:=by simp
 have e2:(H++[aP 248 l a 1 []]).set H.length (aP 248 l a (1+cnt (l.take a)) [])=H++[aP 248 l a (1+cnt (l.take a)) []]:=by simp
 rw [e1] at q2 q3
 rw [e2] at q3
 unfold x_law_at
 repeat walk_at "s"
 walk_at "z"
theorem lat_ok {prog:Program}{w:World}{sl:Addr}{sn:List Int}{n:Nat}(G:GOK prog w (KK w) (.ref 59) sl sn Γ n)(kN:aH Γ 248 (p_new 248))(kL:aH Γ F.at_law_line hJ):GOK prog w (KK w) (.ref 59) sl sn (ov F.at_law_at p_lat Γ) (n+1):=by
 walk_at "a"
 refine ok_law_at G fun vs H r h0=>pSI_e h0 fun t x e0 h1x=>fL h1x fun hq h2x=>?_
 subst e0
 obtain rfl:=Option.some.inj h2x
 have e:=run_lat (P:=w.params) (Γ:=Γ) (H:=H) (l:=lt t) (a:=x.toNat) kN kL (by have:=hq.2.2;simpa [lt,Str.length] using this) (by lia)
 have e2:((x.toNat:Nat):Int)=x:=by lia
 rw [S_lt,e2] at e
 refine .of (by simp) [.str t,.int x] rfl rfl _ _ e (cE ⟨Nat.le_refl _,fun i o h=>.inr ⟨h,?_⟩⟩ (.same (by simp [V.fit])))
 by_cases hi:i<H.length
 ·left
  rwa [List.getElem?_append_left hi] at h
 ·right
  have:i=H.length:=by have:=(List.getElem?_eq_some_iff.mp h).1;simp at this;lia
  subst this
  simp at h
  subst h
  simp [cB,aE.fit,V.gR,V.fit]
 walk_at "z"
noncomputable def p_lword:PC:=pSI fun t x H=>if 0≤x∧x≤t.length∧t.length≤60∧okM (lt t)=true then some (some (.str (S (((lt t).drop x.toNat).takeWhile aG))),H) else none
noncomputable abbrev wdSt (l:List Nat)(a z:Nat)(H:List aE):St:=⟨[some (.str (S l)),some (.int a),some (.int z)],H⟩
theorem in_alpha {K:Frag}{c:Nat}(hc:c∈cY){σ:St}:cmpD K .In (.str (S [c])) (.str alpha) σ=some (some (.bool (aG c)),σ):=by
 walk_at "a"
 rw [← alpha_in c hc]
 cases σ;rfl
 walk_at "z"
theorem word_loop (hl:l.length≤60)(ho:okM l=true):∀ (s:List Nat) (z n:Nat),l.drop (a+z)=s→a+z≤l.length→s.length<n →
  cW n (gV (F.K P) Γ) (b2_law_word (F.K P) Γ) (wdSt l a z H)=some (some .next,wdSt l a (z+aW s) H):=by
 walk_at "a"
 intro s
 have hl2:l.length≤1000:=by lia
 have q0:=fun σ=>len_S (K:=F.K P) (l:=l) (σ:=σ) hl2
 induction s with
 | nil =>
  intro z n hs hb hn
  obtain ⟨n,rfl⟩:∃ m,n=m+1:=⟨n-1,by rw [List.length_nil] at hn;lia⟩
  have:=drop_nil hs
  have f1:decide ((a:Int)+(z:Int)<(l.length:Int))=false:=by simp;lia
  rw [show z+aW []=z from rfl]
  refine dX ?_
  unfold gV
  repeat walk_at "s"
 | cons c s ih =>
  intro z n hs hb hn
  rw [List.length_cons] at hn
  obtain ⟨n,rfl⟩:∃ m,n=m+1:=⟨n-1,by lia⟩
  obtain ⟨h1,h2,h3⟩:=drop_cons hs
  have f1:decide ((a:Int)+(z:Int)<(l.length:Int))=true:=by simp;lia
  have hmem:c∈cY:=okM_at ho (List.mem_of_getElem? h1)
  have q1:∀ σ,cU (.str (S l)) (.int ((a:Int)+(z:Int))) σ=some (some (.str (S [c])),σ):=fun σ=>item_S (a:=a+z) h1 (by lia)
  have q2:=fun σ=>in_alpha (K:=F.K P) (σ:=σ) hmem
  have hc1:gV (F.K P) Γ (wdSt l a z H)=some (some (aG c),wdSt l a z H):=by
   unfold gV
   repeat walk_at "s"
  have hb1:b2_law_word (F.K P) Γ (wdSt l a z H)=some (some .next,wdSt l a (z+1) H):=by
   show _=some (some Fl.next,(⟨[some (.str (S l)),some (.int a),some (.int ((z:Int)+1))],H⟩:St))
   unfold b2_law_word
   repeat walk_at "s"
  cases hc:aG c with
  | true =>
   rw [hc] at hc1
   rw [dK hc1 hb1,ih (z+1) n h2 (by lia) (by lia),word_next hc]
  | false =>
   rw [hc] at hc1
   rw [word_stop hc]
   exact dX hc1
 walk_at "z"
theorem run_lword (hl:l.length≤60)(ha:a≤l.length)(ho:okM l=true):x_law_word (F.K P) Γ ⟨[some (.str (S l)),some (.int a),none],H⟩=some (some (.ret (.str (S ((l.drop a).takeWhile aG)))),wdSt l a (aW (l.drop a)) H):=by
 walk_at "a"
 have hL:=word_loop (P:=P) (Γ:=Γ) (H:=H) (a:=a) hl ho (l.drop a) 0 100 rfl ha (by rw [List.length_drop];lia)
 have q0:cW 100 (gV (F.K P) Γ) (b2_law_word (F.K P) Γ) ⟨[some (.str (S l)),some (.int a),some (.int 0)],H⟩=some (some .next,wdSt l a (aW (l.drop a)) H):=by
  rw [Nat.zero_add] at hL;exact hL
 have q1:∀ σ,bM (.str (S l)) (.int (a:Int)) (.int ((a:Int)+(aW (l.drop a):Int))) σ=some (some (.str (S ((l.drop a).takeWhile aG))),σ):=fun σ=>by
  have:=sl_ss (l:=l) (a:=a) (b:=a+aW (l.drop a)) (σ:=σ) (by lia)
  rw [take_word] at this
  exact this
 unfold x_law_word
 repeat walk_at "s"
 walk_at "z"
theorem lword_ok {prog:Program}{w:World}{sl:Addr}{sn:List Int}{n:Nat}(G:GOK prog w (KK w) (.ref 59) sl sn Γ n):GOK prog w (KK w) (.ref 59) sl sn (ov F.at_law_word p_lword Γ) (n+1):=by
 walk_at "a"
 refine ok_law_word G fun vs H r h0=>pSI_e h0 fun t x e0 h1x=>fL h1x fun hq h2x=>?_
 subst e0
 obtain rfl:=Option.some.inj h2x
 have e:=run_lword (P:=w.params) (Γ:=Γ) (H:=H) (l:=lt t) (a:=x.toNat) (by have:=hq.2.2.1;simpa [lt,Str.length] using this) (by have:=hq.2.1;have:(lt t).length=t.length:=(by simp [lt,Str.length]);lia) hq.2.2.2
 have e2:((x.toNat:Nat):Int)=x:=by lia
 have e':x_law_word (KK w) Γ ⟨[some (.str (S (lt t))),some (.int (x.toNat:Int)),none],H⟩=_:=e
 rw [S_lt,e2] at e'
 exact .of (Nat.le_refl _) [.str t,.int x] rfl rfl _ _ e' (cE cX.same (.same rfl))
 walk_at "z"
end
end Mine
end
section
namespace Mine
theorem try_ok {x y:M Fl}{σ σ1:St}{f:Fl}(h:x σ=some (some f,σ1)):tryM x y σ=some (some f,σ1):=by
 walk_at "a"
 unfold tryM;rw [h]
 walk_at "z"
theorem try_ex {x y:M Fl}{σ σ1:St}{r:Option (Option Fl×St)}(h:x σ=some (none,σ1))(k:y σ1=r):tryM x y σ=r:=by
 walk_at "a"
 unfold tryM;rw [h];exact k
 walk_at "z"
theorem veq_pts:∀ (ps:List Pt),vall (veq 2) (ps.map vPt) (ps.map vPt)=some true
 | []=>rfl
 | .txt t::ps=>by
  have:veq 2 (vPt (.txt t)) (vPt (.txt t))=some true:=by show some (S t==S t)=_;rw [beq_self_eq_true]
  simp only [List.map_cons,vall,this,veq_pts ps]
  rfl
 | .cod t n::ps=>by
  have:veq 2 (vPt (.cod t n)) (vPt (.cod t n))=some true:=by
   have e1:veq 1 (.str (S t)) (.str (S t))=some true:=by show some (S t==S t)=_;rw [beq_self_eq_true]
   have e2:veq 1 (.int (n:Int)) (.int (n:Int))=some true:=by show some ((n:Int)==n)=_;rw [beq_self_eq_true]
   show vall (veq 1) [.str (S t),.int n] [.str (S t),.int n]=_
   simp only [vall,e1,e2]
   rfl
  simp only [List.map_cons,vall,this,veq_pts ps]
  rfl
section
variable {σ:St}
theorem ne_pts {ps:List Pt}:aY .NotEq (.lst (ps.map vPt)) (.lst (ps.map vPt)) σ=some (some (.bool false),σ):=by
 walk_at "a"
 have e:veq 3 (.lst (ps.map vPt)) (.lst (ps.map vPt))=some true:=veq_pts ps
 have e2:aY .NotEq (.lst (ps.map vPt)) (.lst (ps.map vPt))=(match veq 3 (.lst (ps.map vPt)) (.lst (ps.map vPt)) with | some b=>M.ret (.bool (!b)) | none=>M.stuck):=rfl
 rw [e2,e]
 exact bF
 walk_at "z"
theorem ne_nn:aY .NotEq .none .none σ=some (some (.bool false),σ):=by cases σ;rfl
theorem ne_ii {i j:Int}:aY .NotEq (.tup [.int i,.int j]) (.tup [.int i,.int j]) σ=some (some (.bool false),σ):=by
 walk_at "a"
 have e1:∀ i:Int,veq 2 (.int i) (.int i)=some true:=fun i=>by show some (i==i)=_;rw [beq_self_eq_true]
 have e:veq 3 (.tup [.int i,.int j]) (.tup [.int i,.int j])=some true:=by
  show vall (veq 2) [.int i,.int j] [.int i,.int j]=_
  simp only [vall,e1]
  rfl
 have e2:aY .NotEq (.tup [.int i,.int j]) (.tup [.int i,.int j])=(match veq 3 (.tup [.int i,.int j]) (.tup [.int i,.int j]) with | some b=>M.ret (.bool (!b)) | none=>M.stuck):=rfl
 rw [e2,e]
 exact bF
 walk_at "z"
theorem eq_si {t:List Nat}{j:Int}:aY .Eq (.tup [.str (S t),.int j]) (.tup [.str (S t),.int j]) σ=some (some (.bool true),σ):=by
 walk_at "a"
 have e1:∀ i:Int,veq 2 (.int i) (.int i)=some true:=fun i=>by show some (i==i)=_;rw [beq_self_eq_true]
 have e3:veq 2 (.str (S t)) (.str (S t))=some true:=by show some (S t==S t)=_;rw [beq_self_eq_true]
 have e:veq 3 (.tup [.str (S t),.int j]) (.tup [.str (S t),.int j])=some true:=by
  show vall (veq 2) [.str (S t),.int j] [.str (S t),.int j]=_
  simp only [vall,e1,e3]
  rfl
 have e2:aY .Eq (.tup [.str (S t),.int j]) (.tup [.str (S t),.int j])=(match veq 3 (.tup [.str (S t),.int j]) (.tup [.str (S t),.int j]) with | some b=>M.ret (.bool b) | none=>M.stuck):=rfl
 rw [e2,e]
 exact bF
 walk_at "z"
theorem c_inNT' {vs:List V}:aY .IsNot (.tup vs) .none σ=some (some (.bool true),σ):=c_inNT
end
section
variable {P:Params}{l:List Nat}{a d:Nat}{H:List aE}{ρ:List (Option V)}{Γ:CT}
theorem lat_at (k:aH Γ F.at_law_at p_lat)(hl:l.length≤60)(ha:a≤100):Γ F.at_law_at [.str (S l),.int a] H=some (some (.obj H.length),H++[aP 248 l a (1+cnt (l.take a)) []]):=by
 walk_at "a"
 exact k _ _ _ (by
  show (if 0≤(a:Int)∧(a:Int)≤100∧(S l).length≤60 then some (some (V.obj H.length),H++[aP 248 (lt (S l)) (a:Int).toNat (1+cnt ((lt (S l)).take (a:Int).toNat)) []]) else none)=_
  rw [lt_S,if_pos ⟨by lia,by lia,by rw [cD];exact hl⟩]
  rfl)
 walk_at "z"
theorem at_sc (hl:l.length≤60)(ha:a≤100)(m:Nat):Sc (H++[aP 248 l a m []]) H.length 248 l a m [] :=
 ⟨by simp,.inr (.inl rfl),hl,by lia,by simp,.inl rfl,rfl⟩
theorem set_last {o o':aE}:(H++[o]).set H.length o'=H++[o']:=by simp
theorem lineq (k:Nat):1+cnt (l.take a)+cnt ((l.drop a).take k)=1+cnt (l.take (a+k)):=by
 have:cnt (l.take (a+k))=cnt (l.take a)+cnt ((l.drop a).take k):=by rw [List.take_add];exact List.count_append
 lia
noncomputable abbrev hZ (l:List Nat)(a w:Nat)(x3 x4 x5 x6:Option V)(H:List aE):St:=⟨[some (.str (S l)),some (.int a),some (.int w),x3,x4,x5,x6],H⟩
section
variable (hl:l.length≤60)(ha:a≤l.length)(ho:okM l=true)(kA:aH Γ F.at_law_at p_lat)(kL:aH Γ F.at_law_line hJ)
include hl ha ho kA kL
theorem turn0 (kS:aH Γ F.at_law_single (eC 61))(kP:aH Γ F.at_TextScanner_plain_text p_plain)(x3 x4 x5 x6:Option V) :
  ∃ fl y3 y4 y5 y6 o,bQ (F.K P) Γ (hZ l a 0 x3 x4 x5 x6 H)=some (some fl,hZ l a 0 y3 y4 y5 y6 (H++[o]))∧(fl=.next∨fl=.cont):=by
 walk_at "a"
 have q0:=lat_at (H:=H) kA hl (show a≤100 by lia)
 have h:=at_sc (H:=H) hl (show a≤100 by lia) (1+cnt (l.take a))
 have e1:=lsingle_at (H:=H++[aP 248 l a (1+cnt (l.take a)) []]) (a:=a) (x:=(a:Int)) kS hl rfl (by lia) (by rw [List.length_drop];lia)
 have q1:=fun ρ=>aT (ρ:=ρ) h (m_plain (.inl rfl) P) (by decide)
 have e2:=cG (f:=f_plain) (more:=[]) h
 have f0:(((0:Nat):Int)==0)=true:=rfl
 cases hr:cO (l.drop a) with
 | none =>
  rw [hr] at e1
  have e3:f_plain H.length 248 l a (1+cnt (l.take a)) [] [] (H++[aP 248 l a (1+cnt (l.take a)) []])=some (none,H++[.dT]):=by
   unfold f_plain pN
   simp only [hr]
   rw [if_pos ha,set_last]
  have q2:Γ F.at_law_single [.str (S l),.int a] (H++[aP 248 l a (1+cnt (l.take a)) []])=some (some .none,H++[aP 248 l a (1+cnt (l.take a)) []]):=e1
  have q3:=kP _ _ _ (e2.trans e3)
  have q4:tryM (bL (F.K P) Γ) (bX (F.K P) Γ) (hZ l a 0 (some (.obj H.length)) (some .none) x5 x6 (H++[aP 248 l a (1+cnt (l.take a)) []]))=some (some .cont,hZ l a 0 (some (.obj H.length)) (some .none) x5 x6 (H++[.dT])):=by
   refine try_ex (σ1:=hZ l a 0 (some (.obj H.length)) (some .none) x5 x6 (H++[.dT])) ?_ ?_
   ·unfold bL
    repeat walk_at "s"
   ·unfold bX
    repeat walk_at "s"
  refine ⟨.cont,some (.obj H.length),some .none,x5,x6,.dT,?_,.inr rfl⟩
  unfold bQ
  repeat walk_at "s"
 | some p =>
  obtain ⟨t,k⟩:=p
  have hk:=fR _ hr
  rw [List.length_drop] at hk
  rw [hr] at e1
  have e3:f_plain H.length 248 l a (1+cnt (l.take a)) [] [] (H++[aP 248 l a (1+cnt (l.take a)) []])=some (some (.str (S t)),H++[aP 248 l (a+k) (1+cnt (l.take (a+k))) []]):=by
   unfold f_plain pN
   simp only [hr]
   rw [if_pos ha,set_last,lineq]
  have q2:Γ F.at_law_single [.str (S l),.int a] (H++[aP 248 l a (1+cnt (l.take a)) []])=some (some (.tup [.str (S t),.int ((a+k:Nat):Int)]),H++[aP 248 l a (1+cnt (l.take a)) []]):=e1
  have q3:=kP _ _ _ (e2.trans e3)
  have h2:=at_sc (H:=H) hl (show a+k≤100 by lia) (1+cnt (l.take (a+k)))
  have q4:tryM (bL (F.K P) Γ) (bX (F.K P) Γ) (hZ l a 0 (some (.obj H.length)) (some (.tup [.str (S t),.int ((a+k:Nat):Int)])) x5 x6 (H++[aP 248 l a (1+cnt (l.take a)) []]))=some (some .next,hZ l a 0 (some (.obj H.length)) (some (.tup [.str (S t),.int ((a+k:Nat):Int)])) x5 (some (.str (S t))) (H++[aP 248 l (a+k) (1+cnt (l.take (a+k))) []])):=by
   refine try_ok ?_
   unfold bL
   repeat walk_at "s"
  have q5:=fun ρ=>bZ (ρ:=ρ) (P:=P) h2.ok h2.at_
  have q6:=fun ρ=>get_line (ρ:=ρ) (P:=P) h2.ok h2.at_
  have q7:=lline_at (H:=H++[aP 248 l (a+k) (1+cnt (l.take (a+k))) []]) (a:=a+k) (x:=((a+k:Nat):Int)) kL hl rfl (by lia)
  have f1:(S t != S t)=false:=bne_q rfl
  have q8:=fun σ=>ne_ii (σ:=σ) (i:=((a+k:Nat):Int)) (j:=((1+cnt (l.take (a+k)):Nat):Int))
  refine ⟨.next,some (.obj H.length),some (.tup [.str (S t),.int ((a+k:Nat):Int)]),x5,some (.str (S t)),aP 248 l (a+k) (1+cnt (l.take (a+k))) [],?_,.inl rfl⟩
  unfold bQ
  repeat walk_at "s"
 walk_at "z"
theorem turn1 {N M:Nat}(hN:l.length<N)(hM:l.length<M)(kD:aH Γ F.at_law_double (eD M))(kP:aH Γ F.at_TextScanner_text_parts (p_parts N))(x3 x4 x5 x6:Option V) :
  ∃ fl y3 y4 y5 y6 o,bQ (F.K P) Γ (hZ l a 1 x3 x4 x5 x6 H)=some (some fl,hZ l a 1 y3 y4 y5 y6 (H++[o]))∧(fl=.next∨fl=.cont):=by
 walk_at "a"
 have q0:=lat_at (H:=H) kA hl (show a≤100 by lia)
 have h:=at_sc (H:=H) hl (show a≤100 by lia) (1+cnt (l.take a))
 have e1:=ldouble_at (H:=H++[aP 248 l a (1+cnt (l.take a)) []]) (a:=a) (x:=(a:Int)) kD hl (okM_okL ho) rfl (by lia) (by rw [List.length_drop];lia)
 have q1:=fun ρ=>aT (ρ:=ρ) h (m_parts (.inl rfl) P) (by decide)
 have e2:=cG (f:=f_parts N) (more:=[]) h
 have f0:(((1:Nat):Int)==0)=false:=rfl
 have f1:(((1:Nat):Int)==1)=true:=rfl
 cases hr:bA (1+cnt (l.take a)) (l.drop a) with
 | none =>
  rw [hr] at e1
  have e3:f_parts N H.length 248 l a (1+cnt (l.take a)) [] [] (H++[aP 248 l a (1+cnt (l.take a)) []])=some (none,H++[.dT]):=by
   unfold f_parts pN
   simp only [hr]
   rw [if_pos ⟨.inl rfl,ha,by rw [List.length_drop];lia⟩,set_last]
  have q2:Γ F.at_law_double [.str (S l),.int a] (H++[aP 248 l a (1+cnt (l.take a)) []])=some (some .none,H++[aP 248 l a (1+cnt (l.take a)) []]):=e1
  have q3:=kP _ _ _ (e2.trans e3)
  have q4:tryM (bL (F.K P) Γ) (bX (F.K P) Γ) (hZ l a 1 (some (.obj H.length)) (some .none) x5 x6 (H++[aP 248 l a (1+cnt (l.take a)) []]))=some (some .cont,hZ l a 1 (some (.obj H.length)) (some .none) x5 x6 (H++[.dT])):=by
   refine try_ex (σ1:=hZ l a 1 (some (.obj H.length)) (some .none) x5 x6 (H++[.dT])) ?_ ?_
   ·unfold bL
    repeat walk_at "s"
   ·unfold bX
    repeat walk_at "s"
  refine ⟨.cont,some (.obj H.length),some .none,x5,x6,.dT,?_,.inr rfl⟩
  unfold bQ
  repeat walk_at "s"
 | some p =>
  obtain ⟨ps,k⟩:=p
  have hk:=(iQ ((l.drop a).length+1) (l.drop a) (by lia)).2 k (by rw [← double_end _ (1+cnt (l.take a)) _ (Nat.lt_succ_self _),hr];rfl)
  rw [List.length_drop] at hk
  rw [hr] at e1
  have e3:f_parts N H.length 248 l a (1+cnt (l.take a)) [] [] (H++[aP 248 l a (1+cnt (l.take a)) []])=some (some (.lst ((outP [] ps).map vPt)),H++[aP 248 l (a+k) (1+cnt (l.take (a+k))) []]):=by
   unfold f_parts pN
   simp only [hr]
   rw [if_pos ⟨.inl rfl,ha,by rw [List.length_drop];lia⟩,set_last,lineq]
  have q3:=kP _ _ _ (e2.trans e3)
  have h2:=at_sc (H:=H) hl (show a+k≤100 by lia) (1+cnt (l.take (a+k)))
  have q4:tryM (bL (F.K P) Γ) (bX (F.K P) Γ) (hZ l a 1 (some (.obj H.length)) (some (.tup [.lst ((outP [] ps).map vPt),.int ((a+k:Nat):Int)])) x5 x6 (H++[aP 248 l a (1+cnt (l.take a)) []]))=some (some .next,hZ l a 1 (some (.obj H.length)) (some (.tup [.lst ((outP [] ps).map vPt),.int ((a+k:Nat):Int)])) x5 (some (.lst ((outP [] ps).map vPt))) (H++[aP 248 l (a+k) (1+cnt (l.take (a+k))) []])):=by
   refine try_ok ?_
   unfold bL
   repeat walk_at "s"
  have q5:=fun ρ=>bZ (ρ:=ρ) (P:=P) h2.ok h2.at_
  have q6:=fun ρ=>get_line (ρ:=ρ) (P:=P) h2.ok h2.at_
  have q7:=lline_at (H:=H++[aP 248 l (a+k) (1+cnt (l.take (a+k))) []]) (a:=a+k) (x:=((a+k:Nat):Int)) kL hl rfl (by lia)
  have q8:=fun σ=>ne_ii (σ:=σ) (i:=((a+k:Nat):Int)) (j:=((1+cnt (l.take (a+k)):Nat):Int))
  have q9:=fun σ=>ne_pts (σ:=σ) (ps:=outP [] ps)
  refine ⟨.next,some (.obj H.length),some (.tup [.lst ((outP [] ps).map vPt),.int ((a+k:Nat):Int)]),x5,some (.lst ((outP [] ps).map vPt)),aP 248 l (a+k) (1+cnt (l.take (a+k))) [],?_,.inl rfl⟩
  clear q3
  unfold bQ
  rw [w_e]
  cases ps with
  | nil =>
   have q2:Γ F.at_law_double [.str (S l),.int a] (H++[aP 248 l a (1+cnt (l.take a)) []])=some (some (.tup [.lst [],.int ((a+k:Nat):Int)]),H++[aP 248 l a (1+cnt (l.take a)) []]):=e1
   have eo:(outP [] []).map vPt=[.str (S [])]:=rfl
   rw [eo] at q4 q9 ⊢
   repeat walk_at "s"
  | cons p r =>
   have eo:outP [] (p::r)=p::r:=rfl
   rw [eo] at q4 q9 ⊢
   have q2:Γ F.at_law_double [.str (S l),.int a] (H++[aP 248 l a (1+cnt (l.take a)) []])=some (some (.tup [.lst ((p::r).map vPt),.int ((a+k:Nat):Int)]),H++[aP 248 l a (1+cnt (l.take a)) []]):=e1
   have q10:∀ σ,aY .NotEq (.lst ((p::r).map vPt)) (.lst []) σ=some (some (.bool true),σ):=fun σ=>c_neL1
   repeat walk_at "s"
 walk_at "z"
theorem turn2 {N M:Nat}(hN:l.length<N)(hM:l.length<M)(kC:aH Γ F.at_law_code_end (eY M))(kP:aH Γ F.at_TextScanner_skip_code (p_skip N))(x3 x4 x5 x6:Option V) :
  ∃ fl y3 y4 y5 y6 o,bQ (F.K P) Γ (hZ l a 2 x3 x4 x5 x6 H)=some (some fl,hZ l a 2 y3 y4 y5 y6 (H++[o]))∧(fl=.next∨fl=.cont):=by
 walk_at "a"
 have q0:=lat_at (H:=H) kA hl (show a≤100 by lia)
 have h:=at_sc (H:=H) hl (show a≤100 by lia) (1+cnt (l.take a))
 have e1:=lcode_at (H:=H++[aP 248 l a (1+cnt (l.take a)) []]) (a:=a) (d:=1) (x:=(a:Int)) (y:=1) kC hl (okM_okL ho) rfl rfl (by lia) (by lia) (by rw [List.length_drop];lia)
 have q1:=fun ρ=>aT (ρ:=ρ) h (m_skip (.inl rfl) P) (by decide)
 have e2:=cG (f:=f_skip N) (more:=[]) h
 have f0:(((2:Nat):Int)==0)=false:=rfl
 have f1:(((2:Nat):Int)==1)=false:=rfl
 cases hr:bJ (l.drop a) 1 with
 | none =>
  rw [hr] at e1
  have e3:f_skip N H.length 248 l a (1+cnt (l.take a)) [] [] (H++[aP 248 l a (1+cnt (l.take a)) []])=some (none,H++[.dT]):=by
   unfold f_skip pN
   simp only [hr]
   rw [if_pos ⟨.inl rfl,ha,by rw [List.length_drop];lia⟩,set_last]
  have q2:Γ F.at_law_code_end [.str (S l),.int a,.int 1] (H++[aP 248 l a (1+cnt (l.take a)) []])=some (some .none,H++[aP 248 l a (1+cnt (l.take a)) []]):=e1
  have q3:=kP _ _ _ (e2.trans e3)
  have q4:tryM (bL (F.K P) Γ) (bX (F.K P) Γ) (hZ l a 2 (some (.obj H.length)) (some .none) (some .none) x6 (H++[aP 248 l a (1+cnt (l.take a)) []]))=some (some .cont,hZ l a 2 (some (.obj H.length)) (some .none) (some .none) x6 (H++[.dT])):=by
   refine try_ex (σ1:=hZ l a 2 (some (.obj H.length)) (some .none) (some .none) x6 (H++[.dT])) ?_ ?_
   ·unfold bL
    repeat walk_at "s"
   ·unfold bX
    repeat walk_at "s"
  refine ⟨.cont,some (.obj H.length),some .none,some .none,x6,.dT,?_,.inr rfl⟩
  unfold bQ
  repeat walk_at "s"
 | some k =>
  have hk:=(iQ ((l.drop a).length+1) (l.drop a) (by lia)).1 _ _ hr
  rw [List.length_drop] at hk
  rw [hr] at e1
  have e3:f_skip N H.length 248 l a (1+cnt (l.take a)) [] [] (H++[aP 248 l a (1+cnt (l.take a)) []])=some (some .none,H++[aP 248 l (a+k) (1+cnt (l.take (a+k))) []]):=by
   unfold f_skip pN
   simp only [hr]
   rw [if_pos ⟨.inl rfl,ha,by rw [List.length_drop];lia⟩,set_last,lineq]
  have q2:Γ F.at_law_code_end [.str (S l),.int a,.int 1] (H++[aP 248 l a (1+cnt (l.take a)) []])=some (some (.int ((a+k:Nat):Int)),H++[aP 248 l a (1+cnt (l.take a)) []]):=e1
  have q3:=kP _ _ _ (e2.trans e3)
  have h2:=at_sc (H:=H) hl (show a+k≤100 by lia) (1+cnt (l.take (a+k)))
  have q4:tryM (bL (F.K P) Γ) (bX (F.K P) Γ) (hZ l a 2 (some (.obj H.length)) (some (.tup [.none,.int ((a+k:Nat):Int)])) (some (.int ((a+k:Nat):Int))) x6 (H++[aP 248 l a (1+cnt (l.take a)) []]))=some (some .next,hZ l a 2 (some (.obj H.length)) (some (.tup [.none,.int ((a+k:Nat):Int)])) (some (.int ((a+k:Nat):Int))) (some .none) (H++[aP 248 l (a+k) (1+cnt (l.take (a+k))) []])):=by
   refine try_ok ?_
   unfold bL
   repeat walk_at "s"
  have q5:=fun ρ=>bZ (ρ:=ρ) (P:=P) h2.ok h2.at_
  have q6:=fun ρ=>get_line (ρ:=ρ) (P:=P) h2.ok h2.at_
  have q7:=lline_at (H:=H++[aP 248 l (a+k) (1+cnt (l.take (a+k))) []]) (a:=a+k) (x:=((a+k:Nat):Int)) kL hl rfl (by lia)
  have q8:=fun σ=>ne_ii (σ:=σ) (i:=((a+k:Nat):Int)) (j:=((1+cnt (l.take (a+k)):Nat):Int))
  have q9:=fun σ=>ne_nn (σ:=σ)
  refine ⟨.next,some (.obj H.length),some (.tup [.none,.int ((a+k:Nat):Int)]),some (.int ((a+k:Nat):Int)),some .none,aP 248 l (a+k) (1+cnt (l.take (a+k))) [],?_,.inl rfl⟩
  unfold bQ
  repeat walk_at "s"
 walk_at "z"
end
end
end Mine
end
section
namespace Mine
theorem fF {st:V→M Unit}{b:M Fl}{v:V}{vs:List V}{σ σ1 σ2:St}{fl:Fl}(h1:st v σ=some (some (),σ1))(h2:b σ1=some (some fl,σ2))(h3:fl=.next∨fl=.cont):forM st b (v::vs) σ=forM st b vs σ2:=by
 walk_at "a"
 rw [forM,M.bind_val h1,M.bind_val h2]
 rcases h3 with rfl | rfl<;>rfl
 walk_at "z"
theorem for_nil {st:V→M Unit}{b:M Fl}{σ:St}:forM st b [] σ=some (some .next,σ):=by
 walk_at "a"
 rw [forM,bF]
 walk_at "z"
theorem call_rng {n:Int}{σ:St}:callT "range" [.int n] σ=some (some (.rng 0 n 1),σ):=by
 walk_at "a"
 cases σ;rfl
 walk_at "z"
section
variable {P:Params}{l:List Nat}{a d:Nat}{H:List aE}{ρ:List (Option V)}{Γ:CT}
theorem run_ltexts {N D:Nat}(hN:l.length<N)(hM:l.length<D)(hl:l.length≤60)(ha:a≤l.length)(ho:okM l=true)(kA:aH Γ F.at_law_at p_lat)(kL:aH Γ F.at_law_line hJ)
  (kS:aH Γ F.at_law_single (eC 61)) (kP:aH Γ F.at_TextScanner_plain_text p_plain) (kD:aH Γ F.at_law_double (eD D)) (kPs:aH Γ F.at_TextScanner_text_parts (p_parts N)) (kC:aH Γ F.at_law_code_end (eY D)) (kK:aH Γ F.at_TextScanner_skip_code (p_skip N)) (kCd:aH Γ F.at_TextScanner_code (p_code N)) :
  ∃ σ' ex,dI (F.K P) Γ ⟨[some (.str (S l)),some (.int a),none,none,none,none,none],H⟩=some (some (.ret (.bool true)),σ')∧σ'.H=H++ex:=by
 walk_at "a"
 obtain ⟨f0,y3,y4,y5,y6,o0,t0,t0'⟩:=turn0 (P:=P) (H:=H) hl ha ho kA kL kS kP none none none none
 obtain ⟨f1,z3,z4,z5,z6,o1,t1,t1'⟩:=turn1 (P:=P) (H:=H++[o0]) hl ha ho kA kL hN hM kD kPs y3 y4 y5 y6
 obtain ⟨f2,w3,w4,w5,w6,o2,t2,t2'⟩:=turn2 (P:=P) (H:=H++[o0]++[o1]) hl ha ho kA kL hN hM kC kK z3 z4 z5 z6
 have hfor:((((M.ret (.ty "range")).bind fun f3=>aC (F.K P) Γ f3 [] ((M.ret (.int 3)).bind fun v1=>(M.ret []).bind fun w2=>M.ret (v1::w2))).bind fun v116=>fun σ=>match iI σ v116 with | some items=>forM (aJ 2) (bQ (F.K P) Γ) items σ | none=>none):M Fl) ⟨[some (.str (S l)),some (.int a),none,none,none,none,none],H⟩=some (some .next,hZ l a 2 w3 w4 w5 w6 (H++[o0]++[o1]++[o2])):=by
  refine r_bind (o:=some (.rng 0 3 1)) (σ1:=⟨[some (.str (S l)),some (.int a),none,none,none,none,none],H⟩) ?_ ?_
  ·have q0:=fun σ=>call_rng (n:=3) (σ:=σ)
   repeat walk_at "s"
  ·refine k_some ?_
   show forM (aJ 2) (bQ (F.K P) Γ) [.int ((0:Nat):Int),.int ((1:Nat):Int),.int ((2:Nat):Int)] _=_
   rw [fF (σ1:=hZ l a 0 none none none none H) sv2 t0 t0',fF (σ1:=hZ l a 1 y3 y4 y5 y6 (H++[o0])) sv2 t1 t1',fF (σ1:=hZ l a 2 z3 z4 z5 z6 (H++[o0]++[o1])) sv2 t2 t2',for_nil]
 have hl2:l.length≤1000:=by lia
 generalize hG:H++[o0]++[o1]++[o2]=G at hfor
 have q2:∀ σ,bM (.str (S l)) (.int (a:Int)) (.int ((a:Int)+2)) σ=some (some (.str (S ((l.drop a).take 2))),σ):=fun σ=>by
  have:=sl_ss (l:=l) (a:=a) (b:=a+2) (σ:=σ) hl2
  rw [List.drop_take,Nat.add_sub_cancel_left] at this
  exact this
 by_cases hcode:(l.drop a).take 2=[35,123]
 ·have f1:(S ((l.drop a).take 2) != S [35,123])=false:=bne_q hcode
  have hlen2:a+2≤l.length:=by
   have:=congrArg List.length hcode
   simp at this;lia
  have e1:=lcode_at (H:=G) (a:=a+2) (d:=1) (x:=(a:Int)+2) (y:=1) kC hl (okM_okL ho) (by lia) rfl (by lia) (by lia) (by rw [List.length_drop];lia)
  cases hk:bJ (l.drop (a+2)) 1 with
  | none =>
   rw [hk] at e1
   have q3:Γ F.at_law_code_end [.str (S l),.int ((a:Int)+2),.int 1] G=some (some .none,G):=e1
   refine ⟨hZ l a 2 w3 w4 w5 w6 G,[o0,o1,o2],?_,by rw [← hG];simp⟩
   unfold dI
   rw [w_h]
   refine gG hfor (gO ?_)
   repeat walk_at "s"
  | some k =>
   have hk1:=(iQ ((l.drop (a+2)).length+1) _ (by lia)).1 _ _ hk
   rw [List.length_drop] at hk1
   rw [hk] at e1
   have q3:Γ F.at_law_code_end [.str (S l),.int ((a:Int)+2),.int 1] G=some (some (.int ((a+2+k:Nat):Int)),G):=e1
   have q4:=lat_at (H:=G) kA hl (show a≤100 by lia)
   have h:=at_sc (H:=G) hl (show a≤100 by lia) (1+cnt (l.take a))
   have q5:=fun ρ=>aT (ρ:=ρ) h (m_code (.inl rfl) P) (by decide)
   have e2:=cG (f:=f_code N) (more:=[]) h
   have e3:f_code N G.length 248 l a (1+cnt (l.take a)) [] [] (G++[aP 248 l a (1+cnt (l.take a)) []])=some (some (.tup [.str (S ((l.drop (a+2)).take (k-1))),.int ((1+cnt (l.take a):Nat):Int)]),G++[aP 248 l (a+2+k) (1+cnt (l.take a)+cnt ((l.drop (a+2)).take k)) []]):=by
    unfold f_code pN
    simp only [hk]
    rw [if_pos ⟨.inl rfl,hlen2,by rw [List.length_drop];lia⟩,set_last]
   have q6:=kCd _ _ _ (e2.trans e3)
   have e4:=lcode_at (H:=G++[aP 248 l (a+2+k) (1+cnt (l.take a)+cnt ((l.drop (a+2)).take k)) []]) (a:=a+2) (d:=1) (x:=(a:Int)+2) (y:=1) kC hl (okM_okL ho) (by lia) rfl (by lia) (by lia) (by rw [List.length_drop];lia)
   rw [hk] at e4
   have q7:Γ F.at_law_code_end [.str (S l),.int ((a:Int)+2),.int 1] (G++[aP 248 l (a+2+k) (1+cnt (l.take a)+cnt ((l.drop (a+2)).take k)) []])=some (some (.int ((a+2+k:Nat):Int)),G++[aP 248 l (a+2+k) (1+cnt (l.take a)+cnt ((l.drop (a+2)).take k)) []]):=e4
   have q8:∀ σ,bM (.str (S l)) (.int ((a:Int)+2)) (.int (((a+2+k:Nat):Int)-1)) σ=some (some (.str (S ((l.drop (a+2)).take (k-1)))),σ):=fun σ=>by
    have:=sl_ss (l:=l) (a:=a+2) (b:=a+2+(k-1)) (σ:=σ) hl2
    rw [List.drop_take,Nat.add_sub_cancel_left] at this
    rw [show ((a:Int)+2)=((a+2:Nat):Int) by lia,show (((a+2+k:Nat):Int)-1)=((a+2+(k-1):Nat):Int) by lia]
    exact this
   have q9:=lline_at (H:=G++[aP 248 l (a+2+k) (1+cnt (l.take a)+cnt ((l.drop (a+2)).take k)) []]) (a:=a+2) (x:=(a:Int)+2) kL hl (by lia) (by lia)
   have hline:1+cnt (l.take (a+2))=1+cnt (l.take a):=by rw [← lineq 2,hcode];simp [cnt]
   rw [hline] at q9
   have q10:=fun σ=>eq_si (σ:=σ) (t:=(l.drop (a+2)).take (k-1)) (j:=((1+cnt (l.take a):Nat):Int))
   refine ⟨hZ l a 2 (some (.obj G.length)) w4 w5 w6 (G++[aP 248 l (a+2+k) (1+cnt (l.take a)+cnt ((l.drop (a+2)).take k)) []]),[o0,o1,o2,aP 248 l (a+2+k) (1+cnt (l.take a)+cnt ((l.drop (a+2)).take k)) []],?_,by rw [← hG];simp⟩
   unfold dI
   rw [w_h]
   refine gG hfor (gO ?_)
   repeat walk_at "s"
 ·have f1:(S ((l.drop a).take 2) != S [35,123])=true:=bne_n hcode
  refine ⟨hZ l a 2 w3 w4 w5 w6 G,[o0,o1,o2],?_,by rw [← hG];simp⟩
  unfold dI
  rw [w_h]
  refine gG hfor (gO ?_)
  repeat walk_at "s"
 walk_at "z"
noncomputable def dQ:PC:=pSI fun t x H=>if 0≤x∧x≤t.length∧t.length≤12∧okM (lt t)=true then some (some (.bool true),H) else none
theorem ltrue_at {f:Addr}(k:aH Γ f dQ)(hl:l.length≤12)(ha:a≤l.length)(ho:okM l=true):Γ f [.str (S l),.int a] H=some (some (.bool true),H):=by
 walk_at "a"
 exact k _ _ _ (by
  show (if 0≤(a:Int)∧(a:Int)≤(S l).length∧(S l).length≤12∧okM (lt (S l))=true then some (some (V.bool true),H) else none)=_
  rw [lt_S,if_pos ⟨by lia,by rw [cD];lia,by rw [cD];exact hl,ho⟩])
 walk_at "z"
theorem ltexts_ok {prog:Program}{w:World}{sl:Addr}{sn:List Int}{n:Nat}(G:GOK prog w (KK w) (.ref 59) sl sn Γ n)(kA:aH Γ F.at_law_at p_lat)(kL:aH Γ F.at_law_line hJ)
  (kS:aH Γ F.at_law_single (eC 61)) (kP:aH Γ F.at_TextScanner_plain_text p_plain) (kD:aH Γ F.at_law_double (eD 13)) (kPs:aH Γ F.at_TextScanner_text_parts (p_parts 13)) (kC:aH Γ F.at_law_code_end (eY 13)) (kK:aH Γ F.at_TextScanner_skip_code (p_skip 13)) (kCd:aH Γ F.at_TextScanner_code (p_code 13)) :
  GOK prog w (KK w) (.ref 59) sl sn (ov F.at_law_texts_right dQ Γ) (n+1):=by
 walk_at "a"
 refine ok_law_texts_right G fun vs H r h0=>pSI_e h0 fun t x e0 h1x=>fL h1x fun hq h2x=>?_
 subst e0
 obtain rfl:=Option.some.inj h2x
 have hlt:(lt t).length=t.length:=by simp [lt,Str.length]
 obtain ⟨σ',ex,e,eH⟩:=run_ltexts (P:=w.params) (Γ:=Γ) (H:=H) (l:=lt t) (a:=x.toNat) (N:=13) (D:=13) (by lia) (by lia) (by lia) (by lia) hq.2.2.2 kA kL kS kP kD kPs kC kK kCd
 have e2:((x.toNat:Nat):Int)=x:=by lia
 rw [S_lt,e2] at e
 exact .of (Nat.le_refl _) [.str t,.int x] rfl rfl _ _ e (cE (by rw [eH];exact close_cut (by simp) (fun j hj=>List.getElem?_append_left hj)) (.same rfl))
 walk_at "z"
end
end Mine
end
section
namespace Mine
theorem ne_3 {x y z:Str}{σ:St}:aY .NotEq (.lst [.str x,.str y,.str z]) (.lst [.str x,.str y,.str z]) σ=some (some (.bool false),σ):=by
 walk_at "a"
 have e1:∀ x:Str,veq 2 (.str x) (.str x)=some true:=fun x=>by show some (x==x)=_;rw [beq_self_eq_true]
 have e:veq 3 (.lst [.str x,.str y,.str z]) (.lst [.str x,.str y,.str z])=some true:=by
  show vall (veq 2) [.str x,.str y,.str z] [.str x,.str y,.str z]=_
  simp only [vall,e1]
  rfl
 have e2:aY .NotEq (.lst [.str x,.str y,.str z]) (.lst [.str x,.str y,.str z])=(match veq 3 (.lst [.str x,.str y,.str z]) (.lst [.str x,.str y,.str z]) with | some b=>M.ret (.bool (!b)) | none=>M.stuck):=rfl
 rw [e2,e]
 exact bF
 walk_at "z"
theorem fT {i:Nat}{v:V}{ρ:List (Option V)}{H:List aE}(h:H[i]? = some (.cell (some v))):cV i ⟨ρ,H⟩=some (some v,⟨ρ,H⟩):=by unfold cV;simp only [h]
theorem setCell_app {i:Nat}{v:V}{u:Option V}{ρ:List (Option V)}{H:List aE}(h:H[i]? = some (.cell u)):setCell i v ⟨ρ,H⟩=some (some (),⟨ρ,H.set i (.cell (some v))⟩):=by unfold setCell;simp only [h]
section
variable {P:Params}{l:List Nat}{a d:Nat}{H:List aE}{ρ:List (Option V)}{Γ:CT}
noncomputable def zz (H:List aE)(l:List Nat)(b m:Nat):List aE:=H++[.cell (some (.obj (H.length+1))),aP 199 l b m []]
theorem zz_cell {b m:Nat}:(zz H l b m)[H.length]? = some (.cell (some (.obj (H.length+1)))):=by simp [zz]
theorem zz_set {b m b' m':Nat}:(zz H l b m).set (H.length+1) (aP 199 l b' m' [])=zz H l b' m':=by simp [zz]
theorem zz_sc (hl:l.length≤60){b m:Nat}(hb:b≤100):Sc (zz H l b m) (H.length+1) 199 l b m [] :=
 ⟨by simp [zz],.inl rfl,hl,by lia,by simp,.inl rfl,rfl⟩
theorem take_take_len (s:List Nat)(n:Nat):s.take (s.take n).length=s.take n:=by
 walk_at "a"
 rw [List.length_take]
 by_cases h:n≤s.length
 ·rw [Nat.min_eq_left h]
 ·rw [Nat.min_eq_right (by lia),List.take_of_length_le (by lia),List.take_of_length_le (by lia)]
 walk_at "z"
theorem lword_at (k:aH Γ F.at_law_word p_lword)(hl:l.length≤60)(ha:a≤l.length)(ho:okM l=true):Γ F.at_law_word [.str (S l),.int a] H=some (some (.str (S ((l.drop a).takeWhile aG))),H):=by
 walk_at "a"
 exact k _ _ _ (by
  show (if 0≤(a:Int)∧(a:Int)≤(S l).length∧(S l).length≤60∧okM (lt (S l))=true then some (some (V.str (S (((lt (S l)).drop (a:Int).toNat).takeWhile aG))),H) else none)=_
  rw [lt_S,if_pos ⟨by lia,by rw [cD];lia,by rw [cD];exact hl,ho⟩]
  rfl)
 walk_at "z"
theorem run_lsteps (hl:l.length≤50)(ha:a≤l.length)(ho:okM l=true)(kN:aH Γ 199 (p_new 199))(kS:aH Γ F.at_Scanner_sign eJ)(kB:aH Γ F.at_Scanner_begins p_begins)(kT:aH Γ F.at_Scanner_step gN)(kM:aH Γ F.at_Scanner_name p_name)(kW:aH Γ F.at_law_word p_lword) :
  ∃ σ' m b,eG (F.K P) Γ H.length ⟨[some (.str (S l)),some (.int a)],H++[.cell none]⟩=some (some (.ret (.bool true)),σ')∧σ'.H=zz H l b m:=by
 walk_at "a"
 have hl2:l.length≤1000:=by lia
 have hl6:l.length≤60:=by lia
 have q0:=new_at (H:=H++[.cell none]) (m:=5) (x:=5) kN hl6 rfl
 have hln:(H++[aE.cell none]).length=H.length+1:=by simp
 rw [hln] at q0
 have q1:=fun ρ=>setCell_app (ρ:=ρ) (v:=.obj (H.length+1)) (H:=H++[aE.cell none]++[aP 199 l 0 5 []]) (i:=H.length) (u:=none) (by simp)
 have ez:(H++[aE.cell none]++[aP 199 l 0 5 []]).set H.length (.cell (some (.obj (H.length+1))))=zz H l 0 5:=by simp [zz]
 rw [ez] at q1
 have h0:=zz_sc (H:=H) (b:=0) (m:=5) hl6 (by lia)
 have h:=zz_sc (H:=H) (b:=a) (m:=5) hl6 (by lia)
 have q2:=fun ρ=>fV (ρ:=ρ) (P:=P) h0.ok (by simp) h0.at_ a
 rw [zz_set] at q2
 have q3:=fun ρ=>fT (ρ:=ρ) (zz_cell (H:=H) (l:=l) (b:=0) (m:=5))
 have q4:=fun ρ=>fT (ρ:=ρ) (zz_cell (H:=H) (l:=l) (b:=a) (m:=5))
 have sg:∀ (k:Nat),Γ F.at_Scanner_sign [.obj (H.length+1),.int (k:Int)] (zz H l a 5)=some (some (.str (S ((l.drop (a+k)).take 1))),zz H l a 5):=fun k=>kS _ _ _ (by
  show dW f_sign _ _=_
  rw [cG (f:=f_sign) h]
  show (if (0:Int)≤(k:Int) then some (some (V.str (S ((l.drop (a+(k:Int).toNat)).take 1))),zz H l a 5) else none)=_
  rw [if_pos (by lia)]
  rfl)
 have gm:=fun ρ=>aT (ρ:=ρ) h (dP h.ok P) (by decide)
 have hlc:∀ ρ,lcM ((M.ret (.ty "range")).bind fun f11=>aC (F.K P) Γ f11 [] ((M.ret (.int 3)).bind fun v9=>(M.ret []).bind fun w10=>M.ret (v9::w10))) (nxsOf iI) (fun v=>(M.ret true)) (fun v=>((cV H.length).bind fun v12=>(getM (F.K P) (Str.ofString "sign") v12).bind fun c13=>aC (F.K P) Γ c13.1 c13.2 ((M.ret v).bind fun v14=>(M.ret []).bind fun w15=>M.ret (v14::w15)))) ⟨ρ,zz H l a 5⟩=some (some (.lst [.str (S ((l.drop a).take 1)),.str (S ((l.drop (a+1)).take 1)),.str (S ((l.drop (a+2)).take 1))]),⟨ρ,zz H l a 5⟩):=fun ρ=>by
  have:=lc_run (L:=[.int ((0:Nat):Int),.int ((1:Nat):Int),.int ((2:Nat):Int)]) (its:=iI) (v:=.rng 0 3 1) (σ:=⟨ρ,zz H l a 5⟩) (σ1:=⟨ρ,zz H l a 5⟩) (f:=fun _=>true) (g:=fun u=>match u with | .int k=>.str (S ((l.drop (a+k.toNat)).take 1)) | _=>.none)
   (xi:=(M.ret (.ty "range")).bind fun f11=>aC (F.K P) Γ f11 [] ((M.ret (.int 3)).bind fun v9=>(M.ret []).bind fun w10=>M.ret (v9::w10))) (xt:=fun v=>M.ret true)
   (xe:=fun v=>((cV H.length).bind fun v12=>(getM (F.K P) (Str.ofString "sign") v12).bind fun c13=>aC (F.K P) Γ c13.1 c13.2 ((M.ret v).bind fun v14=>(M.ret []).bind fun w15=>M.ret (v14::w15)))) ?_ rfl (by simp) (fun _ _=>bF) ?_
  ·exact this
  ·clear q0 q1 q2 q3 q4
   have q0:=fun σ=>call_rng (n:=3) (σ:=σ)
   repeat walk_at "s"
  ·intro u hu
   have go:∀ k:Nat,(fun v=>((cV H.length).bind fun v12=>(getM (F.K P) (Str.ofString "sign") v12).bind fun c13=>aC (F.K P) Γ c13.1 c13.2 ((M.ret v).bind fun v14=>(M.ret []).bind fun w15=>M.ret (v14::w15)))) (.int (k:Int)) ⟨ρ,zz H l a 5⟩=some (some (.str (S ((l.drop (a+k)).take 1))),⟨ρ,zz H l a 5⟩):=fun k=>by
    have q5:=sg k
    have q6:=gm
    show ((cV H.length).bind fun v12=>(getM (F.K P) (Str.ofString "sign") v12).bind fun c13=>aC (F.K P) Γ c13.1 c13.2 ((M.ret (V.int (k:Int))).bind fun v14=>(M.ret []).bind fun w15=>M.ret (v14::w15))) _=_
    repeat walk_at "s"
   simp only [List.mem_cons,List.not_mem_nil,or_false] at hu
   rcases hu with rfl | rfl | rfl
   ·exact go 0
   ·exact go 1
   ·exact go 2
 have q5:=hlc
 have sls:∀ (x y:Nat) (u v:Int) σ,u=(x:Int)→v=(y:Int)→bM (.str (S l)) (.int u) (.int v) σ=some (some (.str (S ((l.drop x).take (y-x)))),σ):=fun x y u v σ hu hv=>by
  subst hu hv
  rw [sl_ss hl2,List.drop_take]
 have q6:=fun σ=>sls a (a+1) (a:Int) ((a:Int)+1) σ rfl (by lia)
 have q7:=fun σ=>sls (a+1) (a+2) ((a:Int)+1) ((a:Int)+2) σ (by lia) (by lia)
 have q8:=fun σ=>sls (a+2) (a+3) ((a:Int)+2) ((a:Int)+3) σ (by lia) (by lia)
 have q9:=fun σ=>sls a (a+3) (a:Int) ((a:Int)+3) σ rfl (by lia)
 have q10:=fun σ=>sls a (a+2) (a:Int) ((a:Int)+2) σ rfl (by lia)
 rw [show a+1-a=1 by lia] at q6
 rw [show a+2-(a+1)=1 by lia] at q7
 rw [show a+3-(a+2)=1 by lia] at q8
 rw [show a+3-a=3 by lia] at q9
 rw [show a+2-a=2 by lia] at q10
 have q11:=fun σ=>ne_3 (x:=S ((l.drop a).take 1)) (y:=S ((l.drop (a+1)).take 1)) (z:=S ((l.drop (a+2)).take 1)) (σ:=σ)
 have q12:=fun ρ=>aT (ρ:=ρ) h (m_begins h.ok P) (by decide)
 have bg:∀ t:List Nat,t.length≤100→Γ F.at_Scanner_begins [.obj (H.length+1),.str (S t)] (zz H l a 5)=some (some (.bool ((l.drop a).take t.length==t)),zz H l a 5):=fun t ht=>kB _ _ _ (by
  show dW f_begins _ _=_
  rw [cG (f:=f_begins) h]
  show (if (S t).length≤100 then some (some (V.bool ((l.drop a).take (S t).length==(S t).cps.toList)),zz H l a 5) else none)=_
  rw [cD,if_pos ht])
 have hd:(l.drop a).length≤50:=by rw [List.length_drop];lia
 have tl:∀ n,((l.drop a).take n).length≤50:=fun n=>by rw [List.length_take];lia
 have q13:=bg ((l.drop a).take 3) (by have:=tl 3;lia)
 rw [take_take_len,beq_self_eq_true] at q13
 have q14:=bg ((l.drop a).take 2++[126]) (by have:=tl 2;simp only [List.length_append,List.length_singleton];lia)
 have hno:((l.drop a).take ((l.drop a).take 2++[126]).length==(l.drop a).take 2++[126])=false:=by
  rw [beq_eq_false_iff_ne]
  intro he
  have hm:126∈(l.drop a).take ((l.drop a).take 2++[126]).length:=by rw [he];simp
  have:=okM_at ho (List.mem_of_mem_drop (List.mem_of_mem_take hm))
  revert this;decide
 rw [hno] at q14
 have q15:∀ σ,bO .Add (.str (S ((l.drop a).take 2))) (.str (Str.ofString "~")) σ=some (some (.str (S ((l.drop a).take 2++[126]))),σ):=fun σ=>by
  rw [show Str.ofString "~"=S [126] by decide,← S_app]
  exact b_addS (by have:=tl 2;rw [cD,cD,List.length_singleton];lia)
 have q16:=fun ρ=>aT (ρ:=ρ) h (m_step h.ok P) (by decide)
 have q17:=step0 h (by lia) kT
 rw [zz_set] at q17
 generalize hm1:5+nl ((l.drop a).take 1)=m1 at q17
 have f1:(S ((l.drop a).take 1) != S ((l.drop a).take 1))=false:=bne_q rfl
 have h1:=zz_sc (H:=H) (b:=a+1) (m:=m1) hl6 (by lia)
 have q18:=fun ρ=>fT (ρ:=ρ) (zz_cell (H:=H) (l:=l) (b:=a+1) (m:=m1))
 have q19:=fun ρ=>bZ (ρ:=ρ) (P:=P) h1.ok h1.at_
 have f2:(((a+1:Nat):Int) != (a:Int)+1)=false:=by rw [show ((a+1:Nat):Int)=(a:Int)+1 by lia];exact bne_self_eq_false _
 have q20:=fun ρ=>get_line (ρ:=ρ) (P:=P) h1.ok h1.at_
 have f3:((m1:Int) != (5:Int)+(if (S ((l.drop a).take 1)==S [10]) then 1 else 0))=false:=by
  rw [S_beq,← hm1]
  unfold nl
  by_cases hq:(l.drop a).take 1=[10]
  ·rw [if_pos hq,hq];rfl
  ·rw [if_neg hq,show ((l.drop a).take 1==[10])=false by rw [beq_eq_false_iff_ne];exact hq];rfl
 have q21:=fun ρ=>fV (ρ:=ρ) (P:=P) h1.ok (by simp) h1.at_ a
 rw [zz_set] at q21
 have h2:=zz_sc (H:=H) (b:=a) (m:=m1) hl6 (by lia)
 have q22:=fun ρ=>fT (ρ:=ρ) (zz_cell (H:=H) (l:=l) (b:=a) (m:=m1))
 have q23:=fun ρ=>aT (ρ:=ρ) h2 (m_name h2.ok P) (by decide)
 have q24:Γ F.at_Scanner_name [.obj (H.length+1)] (zz H l a m1)=some (some (.str (S ((l.drop a).takeWhile aG))),zz H l (a+aW (l.drop a)) m1):=kM _ _ _ (by
  show dW f_name _ _=_
  rw [cG (f:=f_name) h2]
  show (if a≤l.length∧l.length≤50 then some (some (V.str (S ((l.drop a).takeWhile aG))),(zz H l a m1).set (H.length+1) (aP 199 l (a+aW (l.drop a)) m1 [])) else none)=_
  rw [if_pos ⟨ha,hl⟩,zz_set])
 have q25:=lword_at (H:=zz H l (a+aW (l.drop a)) m1) kW hl6 ha ho
 have f4:(S ((l.drop a).takeWhile aG)==S ((l.drop a).takeWhile aG))=true:=beq_self_eq_true _
 have hw:aW (l.drop a)≤50:=by
  have:=(List.takeWhile_sublist aG (l:=l.drop a)).length_le
  unfold aW;lia
 have h3:=zz_sc (H:=H) (b:=a+aW (l.drop a)) (m:=m1) hl6 (by lia)
 have q26:=fun ρ=>fT (ρ:=ρ) (zz_cell (H:=H) (l:=l) (b:=a+aW (l.drop a)) (m:=m1))
 have q27:=fun ρ=>bZ (ρ:=ρ) (P:=P) h3.ok h3.at_
 have q28:((l.drop a).takeWhile aG).length≤1000:=by show aW (l.drop a)≤1000;lia
 have ef:(((a+aW (l.drop a):Nat):Int)==(a:Int)+(((l.drop a).takeWhile aG).length:Int))=true:=by
  rw [beq_iff_eq]
  show ((a+aW (l.drop a):Nat):Int)=(a:Int)+(aW (l.drop a):Int)
  lia
 have key:eG (F.K P) Γ H.length ⟨[some (.str (S l)),some (.int a)],H++[.cell none]⟩=some (some (.ret (.bool (((a+aW (l.drop a):Nat):Int)==(a:Int)+(((l.drop a).takeWhile aG).length:Int)))),⟨[some (.str (S l)),some (.int a)],zz H l (a+aW (l.drop a)) m1⟩):=by
  have f5:(!true)=false:=rfl
  unfold eG
  repeat walk_at "s"
 rw [ef] at key
 exact ⟨_,_,_,key,rfl⟩
 walk_at "z"
theorem lsteps_ok {prog:Program}{w:World}{sl:Addr}{sn:List Int}{n:Nat}(G:GOK prog w (KK w) (.ref 59) sl sn Γ n)(kN:aH Γ 199 (p_new 199))(kS:aH Γ F.at_Scanner_sign eJ)(kB:aH Γ F.at_Scanner_begins p_begins)(kT:aH Γ F.at_Scanner_step gN)(kM:aH Γ F.at_Scanner_name p_name)(kW:aH Γ F.at_law_word p_lword) :
  GOK prog w (KK w) (.ref 59) sl sn (ov F.at_law_steps_right dQ Γ) (n+1):=by
 walk_at "a"
 refine ok_law_steps_right G fun vs H r h0=>pSI_e h0 fun t x e0 h1x=>fL h1x fun hq h2x=>?_
 subst e0
 obtain rfl:=Option.some.inj h2x
 have hlt:(lt t).length=t.length:=by simp [lt,Str.length]
 obtain ⟨σ',m,b,e,eH⟩:=run_lsteps (P:=w.params) (Γ:=Γ) (H:=H) (l:=lt t) (a:=x.toNat) (by lia) (by lia) hq.2.2.2 kN kS kB kT kM kW
 have e2:((x.toNat:Nat):Int)=x:=by lia
 rw [S_lt,e2] at e
 refine .of (Nat.le_refl _) [.str t,.int x] rfl rfl _ _ e (cE ?_ (.same rfl))
 rw [eH]
 exact close_cut (by simp [zz]) (fun j hj=>List.getElem?_append_left hj)
 walk_at "z"
end
end Mine
end
section
namespace Mine
noncomputable def digL:List Nat:=cY++[65,78,88,70,66]
noncomputable def okDg (s:List Nat):Bool:=match s with | []=>true | [c]=>digL.contains c | _=>false
noncomputable def isd (s:List Nat):Bool:=match s with | [c]=>decide (48≤c)&&decide (c≤57) | _=>false
noncomputable def dgv (s:List Nat):Int:=match s with | [c]=>if 48≤c∧c≤57 then (c:Int)-48 else if 97≤c∧c≤102 then (c:Int)-87 else if 65≤c∧c≤70 then (c:Int)-55 else 99 | _=>99
noncomputable def lowC (c:Nat):Nat:=if 65≤c∧c≤90 then c+32 else c
noncomputable def aZ (s:List Nat):Int:=match s with | [c]=>if 48≤c∧c≤57 then (c:Int)-48 else if 97≤c∧c≤102 then (c:Int)-87 else 99 | _=>99
noncomputable def L0:List (List Nat):=[]::digL.map fun c=>[c]
theorem okDg_mem {s:List Nat}(h:okDg s=true):s∈L0:=by
 match s,h with
 | [],_=>exact List.mem_cons_self
 | [c],h=>exact List.mem_cons_of_mem _ (List.mem_map.mpr ⟨c,by simpa [okDg] using h,rfl⟩)
theorem fin_isd:∀ s∈L0,isd s=(gL (Str.ofString "0") (S s)&&gL (S s) (Str.ofString "9")):=by
 have:(L0.all fun s=>isd s==(gL (Str.ofString "0") (S s)&&gL (S s) (Str.ofString "9")))=true:=by kernel_rfl
 exact fun c hc=>by simpa using List.all_eq_true.mp this c hc
theorem fin_low:∀ c∈digL,Txt.lower (S [c])=S [lowC c]:=by
 have:(digL.all fun c=>Txt.lower (S [c])==S [lowC c])=true:=by kernel_rfl
 exact fun c hc=>by simpa using List.all_eq_true.mp this c hc
theorem fin_dgv:∀ c∈digL,isd [c]=false→dgv [c]=if (gL (Str.ofString "a") (S [lowC c])&&gL (S [lowC c]) (Str.ofString "f"))=true then (lowC c:Int)-97+10 else 99:=by
 walk_at "a"
 have:(digL.all fun c=>isd [c]||(dgv [c]==if (gL (Str.ofString "a") (S [lowC c])&&gL (S [lowC c]) (Str.ofString "f"))=true then (lowC c:Int)-97+10 else 99))=true:=by kernel_rfl
 intro c hc hn
 have:=List.all_eq_true.mp this c hc
 rw [hn] at this
 simpa using this
 walk_at "z"
noncomputable abbrev hexS:Str:=Str.ofString "0123456789abcdef"
theorem fin_worth:∀ c∈cY,aZ [c]=if 0≤Txt.find hexS (S [c]) then Txt.find hexS (S [c]) else 99:=by
 have:(cY.all fun c=>aZ [c]==if 0≤Txt.find hexS (S [c]) then Txt.find hexS (S [c]) else 99)=true:=by kernel_rfl
 exact fun c hc=>by simpa using List.all_eq_true.mp this c hc
theorem ord_S {K:Frag}{c:Nat}{σ:St}:bG K "ord" [.str (S [c])] σ=some (some (.int (c:Int)),σ):=by
 walk_at "a"
 have e0:bG K "ord" [.str (S [c])]=bOrd [.str (S [c])]:=by unfold bG;rfl
 rw [e0]
 show ((if (S [c]).length=1 then M.ret (.int ((S [c]).cps.getD 0 0:Nat)) else M.stuck:M V) σ)=_
 rw [if_pos (show (S [c]).length=1 from cD [c]),bF]
 rfl
 walk_at "z"
theorem getM_lower {K:Frag}{x:Str}{σ:St}:getM K (Str.ofString "lower") (.str x) σ=some (some (.bi "str.lower",[.str x]),σ):=by
 walk_at "a"
 cases σ;rfl
 walk_at "z"
theorem getM_upper {K:Frag}{x:Str}{σ:St}:getM K (Str.ofString "upper") (.str x) σ=some (some (.bi "str.upper",[.str x]),σ):=by
 walk_at "a"
 cases σ;rfl
 walk_at "z"
theorem getM_find {K:Frag}{x:Str}{σ:St}:getM K (Str.ofString "find") (.str x) σ=some (some (.bi "str.find",[.str x]),σ):=by
 walk_at "a"
 cases σ;rfl
 walk_at "z"
theorem low_S {K:Frag}{x:Str}{σ:St}(h:x.length≤1000):bG K "str.lower" [.str x] σ=some (some (.str (Txt.lower x)),σ):=by
 walk_at "a"
 have e0:bG K "str.lower" [.str x]=bLower [.str x]:=by unfold bG;rfl
 rw [e0]
 show ((if x.length≤1000 then M.ret (.str (Txt.lower x)) else M.stuck:M V) σ)=_
 rw [if_pos h,bF]
 walk_at "z"
theorem up_S {K:Frag}{x:Str}{σ:St}(h:x.length≤1000):bG K "str.upper" [.str x] σ=some (some (.str (Txt.upper x)),σ):=by
 walk_at "a"
 have e0:bG K "str.upper" [.str x]=bUpper [.str x]:=by unfold bG;rfl
 rw [e0]
 show ((if x.length≤1000 then M.ret (.str (Txt.upper x)) else M.stuck:M V) σ)=_
 rw [if_pos h,bF]
 walk_at "z"
theorem find_S {K:Frag}{x y:Str}{σ:St}:bG K "str.find" [.str x,.str y] σ=some (some (.int (Txt.find x y)),σ):=by
 walk_at "a"
 have e0:bG K "str.find" [.str x,.str y]=bFind [.str x,.str y]:=by unfold bG;rfl
 rw [e0]
 exact bF
 walk_at "z"
section
variable {P:Params}{l s:List Nat}{a d:Nat}{H:List aE}{ρ:List (Option V)}{Γ:CT}
theorem run_isd (h:s∈L0):iM (F.K P) Γ ⟨[some (.str (S s))],H⟩=some (some (.ret (.bool (isd s))),⟨[some (.str (S s))],H⟩):=by
 walk_at "a"
 rw [fin_isd s h]
 cases f1:gL (Str.ofString "0") (S s) with
 | true =>
  rw [Bool.true_and]
  unfold iM
  repeat walk_at "s"
 | false =>
  have key:iM (F.K P) Γ ⟨[some (.str (S s))],H⟩=some (some (.ret (.bool (gL (Str.ofString "0") (S s)))),⟨[some (.str (S s))],H⟩):=by
   unfold iM
   repeat walk_at "s"
  rw [f1] at key
  exact key
 walk_at "z"
noncomputable def p_isd:PC:=pS fun t H=>if okDg (lt t)=true then some (some (.bool (isd (lt t))),H) else none
theorem isd_at (k:aH Γ F.at_is_digit p_isd)(h:okDg s=true):Γ F.at_is_digit [.str (S s)] H=some (some (.bool (isd s)),H):=by
 walk_at "a"
 exact k _ _ _ (by
  show (if okDg (lt (S s))=true then some (some (V.bool (isd (lt (S s)))),H) else none)=_
  rw [lt_S,if_pos h])
 walk_at "z"
theorem isd_ok {prog:Program}{w:World}{sl:Addr}{sn:List Int}{n:Nat}(G:GOK prog w (KK w) (.ref 59) sl sn Γ n):GOK prog w (KK w) (.ref 59) sl sn (ov F.at_is_digit p_isd Γ) (n+1):=by
 walk_at "a"
 refine ok_is_digit G fun vs H r h0=>pS_e h0 fun t e0 h1x=>fL h1x fun hq h2x=>?_
 subst e0
 obtain rfl:=Option.some.inj h2x
 have e:=run_isd (P:=w.params) (Γ:=Γ) (H:=H) (okDg_mem hq)
 rw [S_lt] at e
 exact .of (Nat.le_refl _) [.str t] rfl rfl _ _ e (cE cX.same (.same rfl))
 walk_at "z"
theorem run_dgv (k:aH Γ F.at_is_digit p_isd)(h:okDg s=true):∃ σ',dS (F.K P) Γ ⟨[some (.str (S s)),none],H⟩=some (some (.ret (.int (dgv s))),σ')∧σ'.H=H:=by
 walk_at "a"
 have q0:=isd_at (H:=H) k h
 have w1:Str.ofString "0"=S [48]:=by decide
 have w2:Str.ofString "a"=S [97]:=by decide
 match s,h with
 | [],_ =>
  have f1:isd []=false:=rfl
  have q1:=fun σ=>getM_lower (K:=F.K P) (x:=S []) (σ:=σ)
  have q2:∀ σ,bG (F.K P) "str.lower" [.str (S [])] σ=some (some (.str (S [])),σ):=fun σ=>low_S (by decide)
  have f2:((([]:List Nat).length:Int)==1)=false:=rfl
  have f3:([]:List Nat).length≤1000:=by decide
  refine ⟨⟨[some (.str (S [])),some (.str (S []))],H⟩,?_,rfl⟩
  show _=some (some (Fl.ret (.int 99)),_)
  unfold dS
  repeat walk_at "s"
 | [c],h =>
  have hc:c∈digL:=by simpa [okDg] using h
  cases f1:isd [c] with
  | true =>
   have hd:dgv [c]=(c:Int)-48:=by
    have:48≤c∧c≤57:=by simpa [isd] using f1
    show (if 48≤c∧c≤57 then (c:Int)-48 else _)=_
    rw [if_pos this]
   refine ⟨⟨[some (.str (S [c])),none],H⟩,?_,rfl⟩
   rw [hd]
   have q1:=fun σ=>ord_S (K:=F.K P) (c:=c) (σ:=σ)
   have q2:∀ σ,bG (F.K P) "ord" [.str (S [48])] σ=some (some (.int 48),σ):=fun σ=>ord_S (c:=48)
   unfold dS
   rw [w1]
   repeat walk_at "s"
  | false =>
   have hd:=fin_dgv c hc f1
   have q1:=fun σ=>getM_lower (K:=F.K P) (x:=S [c]) (σ:=σ)
   have q2:∀ σ,bG (F.K P) "str.lower" [.str (S [c])] σ=some (some (.str (S [lowC c])),σ):=fun σ=>by rw [← fin_low c hc];exact low_S (by rw [cD];simp)
   have f2:(([lowC c].length:Int)==1)=true:=rfl
   have f3:[lowC c].length≤1000:=by simp
   have q3:=fun σ=>ord_S (K:=F.K P) (c:=lowC c) (σ:=σ)
   have q4:∀ σ,bG (F.K P) "ord" [.str (S [97])] σ=some (some (.int 97),σ):=fun σ=>ord_S (c:=97)
   refine ⟨⟨[some (.str (S [c])),some (.str (S [lowC c]))],H⟩,?_,rfl⟩
   rw [w2] at hd
   cases f4:gL (S [97]) (S [lowC c]) with
   | false =>
    rw [f4,Bool.false_and,if_neg (by decide)] at hd
    rw [hd]
    unfold dS
    rw [w1,w2]
    repeat walk_at "s"
   | true =>
    cases f5:gL (S [lowC c]) (Str.ofString "f") with
    | false =>
     rw [f4,f5,Bool.true_and,if_neg (by decide)] at hd
     rw [hd]
     unfold dS
     rw [w1,w2]
     repeat walk_at "s"
    | true =>
     rw [f4,f5,Bool.true_and,if_pos rfl] at hd
     rw [hd]
     unfold dS
     rw [w1,w2]
     repeat walk_at "s"
 walk_at "z"
noncomputable def p_dgv:PC:=pS fun t H=>if okDg (lt t)=true then some (some (.int (dgv (lt t))),H) else none
theorem dgv_at (k:aH Γ F.at_digit_value p_dgv)(h:okDg s=true):Γ F.at_digit_value [.str (S s)] H=some (some (.int (dgv s)),H):=by
 walk_at "a"
 exact k _ _ _ (by
  show (if okDg (lt (S s))=true then some (some (V.int (dgv (lt (S s)))),H) else none)=_
  rw [lt_S,if_pos h])
 walk_at "z"
theorem dgv_ok {prog:Program}{w:World}{sl:Addr}{sn:List Int}{n:Nat}(G:GOK prog w (KK w) (.ref 59) sl sn Γ n)(k:aH Γ F.at_is_digit p_isd):GOK prog w (KK w) (.ref 59) sl sn (ov F.at_digit_value p_dgv Γ) (n+1):=by
 walk_at "a"
 refine ok_digit_value G fun vs H r h0=>pS_e h0 fun t e0 h1x=>fL h1x fun hq h2x=>?_
 subst e0
 obtain rfl:=Option.some.inj h2x
 obtain ⟨σ',e,eH⟩:=run_dgv (P:=w.params) (Γ:=Γ) (H:=H) k hq
 rw [S_lt] at e
 exact .of (Nat.le_refl _) [.str t] rfl rfl _ _ e (cE (by rw [eH];exact cX.same) (.same rfl))
 walk_at "z"
noncomputable def okMs (s:List Nat):Bool:=match s with | []=>true | [c]=>cY.contains c | _=>false
theorem run_worth (h:okMs s=true):∃ σ',gT (F.K P) Γ ⟨[some (.str (S s)),none],H⟩=some (some (.ret (.int (aZ s))),σ')∧σ'.H=H:=by
 walk_at "a"
 have w1:Str.ofString ""=S []:=by decide
 have q0:=fun σ=>getM_find (K:=F.K P) (x:=hexS) (σ:=σ)
 have q1:=fun σ=>find_S (K:=F.K P) (x:=hexS) (y:=S s) (σ:=σ)
 refine ⟨⟨[some (.str (S s)),some (.int (Txt.find hexS (S s)))],H⟩,?_,rfl⟩
 match s,h with
 | [],_ =>
  have f1:(S [] != S [])=false:=bne_q rfl
  show _=some (some (Fl.ret (.int 99)),_)
  unfold gT
  rw [w1]
  repeat walk_at "s"
 | [c],h =>
  have hc:c∈cY:=by simpa [okMs] using h
  have f1:(S [c] != S [])=true:=bne_n (by simp)
  have hd:=fin_worth c hc
  by_cases hf:0≤Txt.find hexS (S [c])
  ·have f2:decide (Txt.find hexS (S [c])≥0)=true:=decide_eq_true hf
   rw [if_pos hf] at hd
   rw [hd]
   unfold gT
   rw [w1]
   repeat walk_at "s"
  ·have f2:decide (Txt.find hexS (S [c])≥0)=false:=decide_eq_false hf
   rw [if_neg hf] at hd
   rw [hd]
   unfold gT
   rw [w1]
   repeat walk_at "s"
 walk_at "z"
noncomputable def gZ:PC:=pS fun t H=>if okMs (lt t)=true then some (some (.int (aZ (lt t))),H) else none
theorem worth_at (k:aH Γ F.at_law_worth gZ)(h:okMs s=true):Γ F.at_law_worth [.str (S s)] H=some (some (.int (aZ s)),H):=by
 walk_at "a"
 exact k _ _ _ (by
  show (if okMs (lt (S s))=true then some (some (V.int (aZ (lt (S s)))),H) else none)=_
  rw [lt_S,if_pos h])
 walk_at "z"
theorem worth_ok {prog:Program}{w:World}{sl:Addr}{sn:List Int}{n:Nat}(G:GOK prog w (KK w) (.ref 59) sl sn Γ n):GOK prog w (KK w) (.ref 59) sl sn (ov F.at_law_worth gZ Γ) (n+1):=by
 walk_at "a"
 refine ok_law_worth G fun vs H r h0=>pS_e h0 fun t e0 h1x=>fL h1x fun hq h2x=>?_
 subst e0
 obtain rfl:=Option.some.inj h2x
 obtain ⟨σ',e,eH⟩:=run_worth (P:=w.params) (Γ:=Γ) (H:=H) hq
 rw [S_lt] at e
 exact .of (Nat.le_refl _) [.str t] rfl rfl _ _ e (cE (by rw [eH];exact cX.same) (.same rfl))
 walk_at "z"
end
end Mine
end
section
namespace Mine
theorem get_any {P:Params}{C:Addr}{name:Str}{v:V}{as:List (Str×V)}{H:List aE}{ρ:List (Option V)}{i:Nat}(hs:okGet (F.K P) C name=true)(hH:H[i]? = some (.inst C as))(e:as.lookup name=some v)(hb:∀ s,v≠.bi s):cR (F.K P) name (.obj i) ⟨ρ,H⟩=some (some v,⟨ρ,H⟩):=by
 exact getA_own hH hs e (by cases v<;>first | rfl | exact absurd rfl (hb _))
noncomputable def gF (j k:Nat):List (Str×V):=[(Str.ofString "tokens",.obj j),(Str.ofString "nest",.obj k),(Str.ofString "spaced",.bool true),(Str.ofString "begin",.int 0),(Str.ofString "def_nest",.int (-1))]
theorem lex_set {P:Params}:gQ (F.K P) 479 (Str.ofString "tokens")=true∧gQ (F.K P) 479 (Str.ofString "nest")=true∧gQ (F.K P) 479 (Str.ofString "spaced")=true∧gQ (F.K P) 479 (Str.ofString "begin")=true∧gQ (F.K P) 479 (Str.ofString "def_nest")=true :=
 ⟨by kernel_rfl,by kernel_rfl,by kernel_rfl,by kernel_rfl,by kernel_rfl⟩
theorem lex_get {P:Params}:okGet (F.K P) 479 (Str.ofString "tokens")=true∧okGet (F.K P) 479 (Str.ofString "spaced")=true∧okGet (F.K P) 479 (Str.ofString "begin")=true :=
 ⟨by kernel_rfl,by kernel_rfl,by kernel_rfl⟩
theorem base_init {P:Params}:okClsM (F.K P) 248 (Str.ofString "__init__")=some F.at_Scanner___init__:=by kernel_rfl
theorem getM_base {P:Params}{σ:St}:getM (F.K P) (Str.ofString "__init__") (.const 248) σ=some (some (.const F.at_Scanner___init__,[]),σ):=by
 walk_at "a"
 have hn:((fN (F.K P) (.const 248)).isSome&&decide (Str.ofString "__init__"="get"))=false:=by rw [show decide (Str.ofString "__init__"="get")=false by decide,Bool.and_false]
 exact getM_cls hn base_init
 walk_at "z"
theorem setapp {H T:List aE}{i:Nat}{o o':aE}(hi:i<H.length):(H.set i o++T).set i o'=H.set i o'++T:=by
 walk_at "a"
 rw [List.set_append_left _ _ (by simpa using hi),List.set_set]
 walk_at "z"
theorem getapp {H T:List aE}{i:Nat}{o:aE}(hi:i<H.length):(H.set i o++T)[i]? = some o:=by
 walk_at "a"
 rw [List.getElem?_append_left (by simpa using hi),List.getElem?_set_self hi]
 walk_at "z"
theorem set_app {P:Params}{C:Addr}{name:Str}{v:V}{as as':List (Str×V)}{H T:List aE}{ρ:List (Option V)}{i:Nat}(hs:gQ (F.K P) C name=true)(hi:i<H.length)(e:putAs name v as=as')(hl:as'.length≤900):dN (F.K P) name (.obj i) v ⟨ρ,H.set i (.inst C as)++T⟩=some (some (),⟨ρ,H.set i (.inst C as')++T⟩):=by
 rw [set_any hs (getapp hi) e hl,setapp hi]
section
variable {P:Params}{l s:List Nat}{i j k a m:Nat}{H:List aE}{ρ:List (Option V)}{Γ:CT}
noncomputable def p_linit:PC:=pO fun i=>pSI fun t ln H=>on1 (newI H i) (fun C=>if C=479∧t.length≤60∧0≤ln then some (some .none,H.set i (aP 479 (lt t) 0 ln.toNat (gF H.length (H.length+1)))++[.list [],.list []]) else none) none
theorem p_linit_at {H:List aE}{i:Nat}{t:Str}{ln:Int}(h:H[i]? = some (.inst 479 []))(hq:t.length≤60∧0≤ln):p_linit [.obj i,.str t,.int ln] H=some (some .none,H.set i (aP 479 (lt t) 0 ln.toNat (gF H.length (H.length+1)))++[.list [],.list []]):=by
 walk_at "a"
 have e:p_linit [.obj i,.str t,.int ln] H=on1 (newI H i) (fun C=>if C=479∧t.length≤60∧0≤ln then some (some .none,H.set i (aP 479 (lt t) 0 ln.toNat (gF H.length (H.length+1)))++[.list [],.list []]) else none) none:=rfl
 rw [e,newI_of h]
 exact if_pos ⟨rfl,hq⟩
 walk_at "z"
theorem run_linit (kI:aH Γ F.at_Scanner___init__ p_init)(hl:l.length≤60)(hH:H[i]? = some (.inst 479 [])) :
  gB (F.K P) Γ ⟨[some (.obj i),some (.str (S l)),some (.int m)],H⟩=some (some .next,⟨[some (.obj i),some (.str (S l)),some (.int m)],H.set i (aP 479 l 0 m (gF H.length (H.length+1)))++[.list [],.list []]⟩):=by
 walk_at "a"
 have hi:=(List.getElem?_eq_some_iff.mp hH).1
 have q0:=fun σ=>getM_base (P:=P) (σ:=σ)
 have q1:Γ F.at_Scanner___init__ [.obj i,.str (S l),.int m] H=some (some .none,H.set i (aP 479 l 0 m [])):=kI _ _ _ (p_init_at (t:=S l) (ln:=(m:Int)) hH ⟨.inr (.inr rfl),by rw [cD];exact hl,by lia⟩)
 have hlen:∀ o,(H.set i o).length=H.length:=fun o=>List.length_set
 have hlen1:∀ o,(H.set i o++[aE.list []]).length=H.length+1:=fun o=>by simp
 have q2:∀ ρ,newOwn (.list []) ⟨ρ,H.set i (aP 479 l 0 m [])⟩=some (some (.obj H.length),⟨ρ,H.set i (aP 479 l 0 m [])++[.list []]⟩):=fun ρ=>by rw [own_app,hlen]
 have q3:=fun ρ=>set_app (P:=P) (ρ:=ρ) (T:=[.list []]) (v:=.obj H.length) lex_set.1 hi (as:=cB l 0 m []) (as':=cB l 0 m [(Str.ofString "tokens",.obj H.length)]) rfl (by simp [cB])
 have q4:∀ ρ,newOwn (.list []) ⟨ρ,H.set i (aP 479 l 0 m [(Str.ofString "tokens",.obj H.length)])++[.list []]⟩=some (some (.obj (H.length+1)),⟨ρ,H.set i (aP 479 l 0 m [(Str.ofString "tokens",.obj H.length)])++[.list [],.list []]⟩):=fun ρ=>by rw [own_app,hlen1,List.append_assoc];rfl
 have q5:=fun ρ=>set_app (P:=P) (ρ:=ρ) (T:=[.list [],.list []]) (v:=.obj (H.length+1)) lex_set.2.1 hi (as:=cB l 0 m [(Str.ofString "tokens",.obj H.length)]) (as':=cB l 0 m ((gF H.length (H.length+1)).take 2)) rfl (by simp [cB,gF])
 have q6:=fun ρ=>set_app (P:=P) (ρ:=ρ) (T:=[.list [],.list []]) (v:=.bool true) lex_set.2.2.1 hi (as:=cB l 0 m ((gF H.length (H.length+1)).take 2)) (as':=cB l 0 m ((gF H.length (H.length+1)).take 3)) rfl (by simp [cB,gF])
 have q7:=fun ρ=>set_app (P:=P) (ρ:=ρ) (T:=[.list [],.list []]) (v:=.int 0) lex_set.2.2.2.1 hi (as:=cB l 0 m ((gF H.length (H.length+1)).take 3)) (as':=cB l 0 m ((gF H.length (H.length+1)).take 4)) rfl (by simp [cB,gF])
 have q8:=fun ρ=>set_app (P:=P) (ρ:=ρ) (T:=[.list [],.list []]) (v:=.int (-1)) lex_set.2.2.2.2 hi (as:=cB l 0 m ((gF H.length (H.length+1)).take 4)) (as':=cB l 0 m (gF H.length (H.length+1))) rfl (by simp [cB,gF])
 unfold gB
 repeat walk_at "s"
 walk_at "z"
theorem close_two {H H1 T:List aE}{i:Nat}{o:aE}(e:H1=H.set i o++T)(hi:i<H.length)(ho:o.fit (H.length+T.length)=true)(hT:∀ x∈T,x.fit (H.length+T.length)=true):cX H H1 H1:=by
 walk_at "a"
 subst e
 refine ⟨Nat.le_refl _,fun j o' h=>.inr ⟨h,?_⟩⟩
 rw [List.length_append,List.length_set]
 by_cases hj:j<H.length
 ·rw [List.getElem?_append_left (by simpa using hj)] at h
  by_cases hji:j=i
  ·subst hji
   rw [List.getElem?_set_self hi] at h
   cases h
   exact .inr ho
  ·rw [fW hji] at h
   exact .inl h
 ·rw [List.getElem?_append_right (by simpa using hj)] at h
  exact .inr (hT _ (List.mem_of_getElem? h))
 walk_at "z"
theorem linit_ok {prog:Program}{w:World}{sl:Addr}{sn:List Int}{n:Nat}(G:GOK prog w (KK w) (.ref 59) sl sn Γ n)(k:aH Γ F.at_Scanner___init__ p_init):GOK prog w (KK w) (.ref 59) sl sn (ov F.at_Lexer___init__ p_linit Γ) (n+1):=by
 walk_at "a"
 refine ok_Lexer___init__ G fun vs H r h0=>pO_e h0 fun i us e h1x=>pSI_e h1x fun t m e2 h2x=>cK (fun C hC h3x=>fL h3x fun hq h4x=>?_) h2x
 subst e2 e
 obtain ⟨rfl,hq⟩:=hq
 obtain rfl:=Option.some.inj h4x
 have hH:=newI_eq hC
 have hi:=(List.getElem?_eq_some_iff.mp hH).1
 have hlt:(lt t).length=t.length:=by simp [lt,Str.length]
 have:=run_linit (P:=w.params) (Γ:=Γ) (l:=lt t) (m:=m.toNat) k (by lia) hH
 rw [show ((m.toNat:Nat):Int)=m by lia,S_lt] at this
 exact .of (by simp) [.obj i,.str t,.int m] rfl rfl _ _ this (ends_next (close_two rfl hi (by simp [cB,gF,aE.fit,V.gR,V.fit]) (by simp [aE.fit,V.fits])))
 walk_at "z"
noncomputable def p_newL:PC:=pSI fun t ln H=>if t.length≤60∧0≤ln then some (some (.obj H.length),H++[aP 479 (lt t) 0 ln.toNat (gF (H.length+1) (H.length+2)),.list [],.list []]) else none
theorem newL_at (k:aH Γ 479 p_newL)(hl:l.length≤60){x:Int}(hx:x=(m:Int)):Γ 479 [.str (S l),.int x] H=some (some (.obj H.length),H++[aP 479 l 0 m (gF (H.length+1) (H.length+2)),.list [],.list []]):=by
 walk_at "a"
 exact k _ _ _ (by
  subst hx
  show (if (S l).length≤60∧0≤(m:Int) then some (some (V.obj H.length),H++[aP 479 (lt (S l)) 0 (m:Int).toNat (gF (H.length+1) (H.length+2)),.list [],.list []]) else none)=_
  rw [lt_S,if_pos ⟨by rw [cD];exact hl,by lia⟩]
  rfl)
 walk_at "z"
theorem newL_ok {prog:Program}{w:World}{sl:Addr}{sn:List Int}{n:Nat}(G:GOK prog w (KK w) (.ref 59) sl sn Γ n)(k:aH Γ F.at_Lexer___init__ p_linit):GOK prog w (KK w) (.ref 59) sl sn (ov 479 p_newL Γ) (n+1):=by
 walk_at "a"
 have hk:keepIn (KK w) (.ref 479)=true:=by kernel_rfl
 have hm:makesIn (KK w) 479=true:=by kernel_rfl
 have hi:findIn (KK w) (.ref 479) "__init__"=some (some (.ref F.at_Lexer___init__)):=by kernel_rfl
 have hf:typeIn (KK w) (.ref F.at_Lexer___init__)=some (.type "function"):=by kernel_rfl
 refine cls_ok hk hm hi hf G fun vs H r h0=>pSI_e h0 fun t m e0 h=>fL h fun hq h=>?_
 subst e0
 obtain rfl:=Option.some.inj h
 have hH:(H++[aE.inst 479 []])[H.length]? = some (.inst 479 []):=by simp
 have e:=p_linit_at hH hq
 have e2:(H++[aE.inst 479 []]).set H.length (aP 479 (lt t) 0 m.toNat (gF (H++[aE.inst 479 []]).length ((H++[aE.inst 479 []]).length+1)))++[.list [],.list []]=H++[aP 479 (lt t) 0 m.toNat (gF (H.length+1) (H.length+2)),.list [],.list []]:=by simp
 unfold clsP
 rw [k _ _ _ e,e2]
 walk_at "z"
noncomputable def dD (kd:Str)(v ln:Int)(sp:Bool)(pl:Int):List (Str×V):=[(Str.ofString "kind",.str kd),(Str.ofString "value",.int v),(Str.ofString "line",.int ln),(Str.ofString "spaced",.bool sp),(Str.ofString "place",.int pl)]
theorem tok_set {P:Params}:gQ (F.K P) 97 (Str.ofString "kind")=true∧gQ (F.K P) 97 (Str.ofString "value")=true∧gQ (F.K P) 97 (Str.ofString "line")=true∧gQ (F.K P) 97 (Str.ofString "spaced")=true∧gQ (F.K P) 97 (Str.ofString "place")=true :=
 ⟨by kernel_rfl,by kernel_rfl,by kernel_rfl,by kernel_rfl,by kernel_rfl⟩
theorem tok_get {P:Params}:okGet (F.K P) 97 (Str.ofString "kind")=true∧okGet (F.K P) 97 (Str.ofString "value")=true:=⟨by kernel_rfl,by kernel_rfl⟩
noncomputable def pTk (f:Str→Int→Int→Bool→Int→List aE→Option (Option V×List aE)):PC:=pSx fun kd=>pIx fun v=>pIx fun ln=>pBx fun sp=>pI fun pl H=>f kd v ln sp pl H
theorem pTk_e {f:Str→Int→Int→Bool→Int→List aE→Option (Option V×List aE)}{vs:List V}{H:List aE}{r:Option V×List aE}{G:Prop}(h:pTk f vs H=some r)(k:∀ kd v ln sp pl,vs=[.str kd,.int v,.int ln,.bool sp,.int pl]→f kd v ln sp pl H=some r→G):G:=by
 walk_at "a"
 exact 
  pSx_e h fun kd _ e1 h=>pIx_e h fun v _ e2 h=>pIx_e h fun ln _ e3 h=>pBx_e h fun sp _ e4 h=>pI_e h fun pl e5 h=>k kd v ln sp pl (by rw [e1,e2,e3,e4,e5]) h
 walk_at "z"
noncomputable def p_tinit:PC:=pO fun i=>pTk fun kd v ln sp pl H=>on1 (newI H i) (fun C=>if C=97 then some (some .none,H.set i (.inst 97 (dD kd v ln sp pl))) else none) none
theorem p_tinit_at {H:List aE}{i:Nat}{kd:Str}{v ln pl:Int}{sp:Bool}(h:H[i]? = some (.inst 97 [])):p_tinit [.obj i,.str kd,.int v,.int ln,.bool sp,.int pl] H=some (some .none,H.set i (.inst 97 (dD kd v ln sp pl))):=by
 walk_at "a"
 have e:p_tinit [.obj i,.str kd,.int v,.int ln,.bool sp,.int pl] H=on1 (newI H i) (fun C=>if C=97 then some (some .none,H.set i (.inst 97 (dD kd v ln sp pl))) else none) none:=rfl
 rw [e,newI_of h]
 rfl
 walk_at "z"
theorem run_tinit {kd:Str}{v ln pl:Int}{sp:Bool}(hH:H[i]? = some (.inst 97 [])) :
  fZ (F.K P) Γ ⟨[some (.obj i),some (.str kd),some (.int v),some (.int ln),some (.bool sp),some (.int pl)],H⟩=some (some .next,⟨[some (.obj i),some (.str kd),some (.int v),some (.int ln),some (.bool sp),some (.int pl)],H.set i (.inst 97 (dD kd v ln sp pl))⟩):=by
 walk_at "a"
 have hi:=(List.getElem?_eq_some_iff.mp hH).1
 have q0:=fun ρ=>set_any (P:=P) (ρ:=ρ) (v:=.str kd) tok_set.1 hH (as':=(dD kd v ln sp pl).take 1) rfl (by simp [dD])
 have q1:=fun ρ=>set_again (P:=P) (ρ:=ρ) (v:=.int v) tok_set.2.1 hi (as:=(dD kd v ln sp pl).take 1) (as':=(dD kd v ln sp pl).take 2) rfl (by simp [dD])
 have q2:=fun ρ=>set_again (P:=P) (ρ:=ρ) (v:=.int ln) tok_set.2.2.1 hi (as:=(dD kd v ln sp pl).take 2) (as':=(dD kd v ln sp pl).take 3) rfl (by simp [dD])
 have q3:=fun ρ=>set_again (P:=P) (ρ:=ρ) (v:=.bool sp) tok_set.2.2.2.1 hi (as:=(dD kd v ln sp pl).take 3) (as':=(dD kd v ln sp pl).take 4) rfl (by simp [dD])
 have q4:=fun ρ=>set_again (P:=P) (ρ:=ρ) (v:=.int pl) tok_set.2.2.2.2 hi (as:=(dD kd v ln sp pl).take 4) (as':=dD kd v ln sp pl) rfl (by simp [dD])
 unfold fZ
 repeat walk_at "s"
 walk_at "z"
theorem tinit_ok {prog:Program}{w:World}{sl:Addr}{sn:List Int}{n:Nat}(G:GOK prog w (KK w) (.ref 59) sl sn Γ n):GOK prog w (KK w) (.ref 59) sl sn (ov F.at_Token___init__ p_tinit Γ) (n+1):=by
 walk_at "a"
 refine ok_Token___init__ G fun vs H r h0=>pO_e h0 fun i us e h1x=>pTk_e h1x fun kd v ln sp pl e2 h2x=>cK (fun C hC h3x=>fL h3x fun hq h4x=>?_) h2x
 subst e2 e hq
 obtain rfl:=Option.some.inj h4x
 have hH:=newI_eq hC
 have hi:=(List.getElem?_eq_some_iff.mp hH).1
 exact .of (by simp) [.obj i,.str kd,.int v,.int ln,.bool sp,.int pl] rfl rfl _ _ (run_tinit hH) (ends_next (close_at (by simp) (fun j _ hj=>fW hj) (.inr ⟨by rw [List.getElem?_set_self hi],by simp [dD,aE.fit,V.gR,V.fit]⟩)))
 walk_at "z"
noncomputable def p_tok:PC:=pTk fun kd v ln sp pl H=>some (some (.obj H.length),H++[.inst 97 (dD kd v ln sp pl)])
theorem tok_ok {prog:Program}{w:World}{sl:Addr}{sn:List Int}{n:Nat}(G:GOK prog w (KK w) (.ref 59) sl sn Γ n)(k:aH Γ F.at_Token___init__ p_tinit):GOK prog w (KK w) (.ref 59) sl sn (ov 97 p_tok Γ) (n+1):=by
 walk_at "a"
 have hk:keepIn (KK w) (.ref 97)=true:=by kernel_rfl
 have hm:makesIn (KK w) 97=true:=by kernel_rfl
 have hi:findIn (KK w) (.ref 97) "__init__"=some (some (.ref F.at_Token___init__)):=by kernel_rfl
 have hf:typeIn (KK w) (.ref F.at_Token___init__)=some (.type "function"):=by kernel_rfl
 refine cls_ok hk hm hi hf G fun vs H r h0=>pTk_e h0 fun kd v ln sp pl e0 h=>?_
 subst e0
 obtain rfl:=Option.some.inj h
 have e:=p_tinit_at (H:=H++[aE.inst 97 []]) (i:=H.length) (kd:=kd) (v:=v) (ln:=ln) (sp:=sp) (pl:=pl) (by simp)
 have e2:(H++[aE.inst 97 []]).set H.length (.inst 97 (dD kd v ln sp pl))=H++[.inst 97 (dD kd v ln sp pl)]:=by simp
 unfold clsP
 rw [k _ _ _ e,e2]
 walk_at "z"
theorem m_put (P:Params):eR (F.K P) 479 (Str.ofString "put")=some F.at_Lexer_put:=by kernel_rfl
noncomputable def lexW (rest:List (Str×V))(f:Nat→Bool→Int→Option (Option V×List aE)):Option (Option V×List aE):=on2 ((rest.lookup (Str.ofString "tokens")).bind V.obj?) ((rest.lookup (Str.ofString "spaced")).bind V.bool?) (fun j sp=>on1 ((rest.lookup (Str.ofString "begin")).bind V.int?) (fun bg=>f j sp bg) none) none
structure LexW (rest:List (Str×V))(j:Nat)(sp:Bool)(bg:Int):Prop where
 t:rest.lookup (Str.ofString "tokens")=some (.obj j)
 s:rest.lookup (Str.ofString "spaced")=some (.bool sp)
 b:rest.lookup (Str.ofString "begin")=some (.int bg)
theorem lexW_e {rest:List (Str×V)}{f:Nat→Bool→Int→Option (Option V×List aE)}{r:Option V×List aE}{G:Prop}(h:lexW rest f=some r)(k:∀ j sp bg,LexW rest j sp bg→f j sp bg=some r→G):G:=by
 walk_at "a"
 exact 
  on2_n (fun j sp h1 h2 h=>cK (fun bg h3 h=>by
   obtain ⟨x,a1,a2⟩:=Option.bind_eq_some_iff.mp h1
   obtain ⟨y,b1,b2⟩:=Option.bind_eq_some_iff.mp h2
   obtain ⟨z,c1,c2⟩:=Option.bind_eq_some_iff.mp h3
   exact k j sp bg ⟨by rw [a1,V.obj?_eq a2],by rw [b1,V.bool?_eq b2],by rw [c1,V.int?_eq c2]⟩ h) h) h
 walk_at "z"
theorem lexW_of {rest:List (Str×V)}{f:Nat→Bool→Int→Option (Option V×List aE)}{j:Nat}{sp:Bool}{bg:Int}(h:LexW rest j sp bg):lexW rest f=f j sp bg:=by
 walk_at "a"
 unfold lexW
 rw [h.t,h.s,h.b]
 rfl
 walk_at "z"
noncomputable def f_put:FC:=fun i C l a ln rest=>pSI fun kd v H=>lexW rest fun j sp bg=>if C=479∧isNil H j=true then some (some .none,H.set j (.list [.obj H.length])++[.inst 97 (dD kd v ln sp bg)]) else none
theorem f_put_at {i:Nat}{rest:List (Str×V)}{sp:Bool}{bg v:Int}{kd:Str}{ln:Nat}(hw:LexW rest j sp bg)(hj:H[j]? = some (.list [])):f_put i 479 l a ln rest [.str kd,.int v] H=some (some .none,H.set j (.list [.obj H.length])++[.inst 97 (dD kd v ln sp bg)]):=by
 walk_at "a"
 have e:f_put i 479 l a ln rest [.str kd,.int v] H=lexW rest fun j sp bg=>if 479=479∧isNil H j=true then some (some .none,H.set j (.list [.obj H.length])++[.inst 97 (dD kd v ln sp bg)]) else none:=rfl
 rw [e,lexW_of hw]
 exact if_pos ⟨rfl,isNil_of hj⟩
 walk_at "z"
noncomputable abbrev p_put:=dW f_put
theorem run_put {rest:List (Str×V)}{kd:Str}{v bg:Int}{sp:Bool}(kT:aH Γ 97 p_tok)(h:Sc H i 479 l a m rest)(e1:rest.lookup (Str.ofString "tokens")=some (.obj j))(e2:rest.lookup (Str.ofString "spaced")=some (.bool sp))(e3:rest.lookup (Str.ofString "begin")=some (.int bg))(hj:H[j]? = some (.list [])) :
  x_Lexer_put (F.K P) Γ ⟨[some (.obj i),some (.str kd),some (.int v)],H⟩=some (some .next,⟨[some (.obj i),some (.str kd),some (.int v)],H.set j (.list [.obj H.length])++[.inst 97 (dD kd v m sp bg)]⟩):=by
 walk_at "a"
 have q0:=fun ρ=>get_any (P:=P) (ρ:=ρ) lex_get.1 h.at_ (v:=.obj j) (by exact e1) (by intro s hs;cases hs)
 have q1:=fun ρ=>getM_app (K:=F.K P) (ρ:=ρ) hj
 have q2:=fun ρ=>get_line (P:=P) (ρ:=ρ) h.ok h.at_
 have q3:=fun ρ=>get_any (P:=P) (ρ:=ρ) lex_get.2.1 h.at_ (v:=.bool sp) (by exact e2) (by intro s hs;cases hs)
 have q4:=fun ρ=>get_any (P:=P) (ρ:=ρ) lex_get.2.2 h.at_ (v:=.int bg) (by exact e3) (by intro s hs;cases hs)
 have q5:Γ 97 [.str kd,.int v,.int m,.bool sp,.int bg] H=some (some (.obj H.length),H++[.inst 97 (dD kd v m sp bg)]):=kT _ _ _ rfl
 have hjl:=(List.getElem?_eq_some_iff.mp hj).1
 have q6:=fun ρ=>app1 (K:=F.K P) (ρ:=ρ) (v:=.obj H.length) (j:=j) (X:=H++[.inst 97 (dD kd v m sp bg)]) (vs:=[]) (by rw [List.getElem?_append_left hjl];exact hj) (by simp)
 rw [List.set_append_left _ _ hjl,List.nil_append] at q6
 unfold x_Lexer_put
 repeat walk_at "s"
 walk_at "z"
theorem put_ok {prog:Program}{w:World}{sl:Addr}{sn:List Int}{n:Nat}(G:GOK prog w (KK w) (.ref 59) sl sn Γ n)(k:aH Γ 97 p_tok):GOK prog w (KK w) (.ref 59) sl sn (ov F.at_Lexer_put p_put Γ) (n+1):=by
 walk_at "a"
 refine ok_Lexer_put G fun vs H r h0=>fD h0 fun i more C l a ln rest e hS h1x=>pSI_e h1x fun kd v e2 h2x=>lexW_e h2x fun j sp bg hw h3x=>fL h3x fun hq h4x=>?_
 subst e2 e
 obtain ⟨rfl,hj⟩:=hq
 obtain rfl:=Option.some.inj h4x
 have hj:=isNil_eq hj
 have hjl:=(List.getElem?_eq_some_iff.mp hj).1
 exact .of (by simp) [.obj i,.str kd,.int v] rfl rfl _ _ (run_put (P:=w.params) (Γ:=Γ) (kd:=kd) (v:=v) k hS hw.t hw.s hw.b hj) (ends_next (close_two rfl hjl (by simp [aE.fit,V.fits,V.fit]) (by simp [dD,aE.fit,V.gR,V.fit])))
 walk_at "z"
end
end Mine
end
section
namespace Mine
noncomputable def opsL:List (List Nat):=[[42,42,61],[60,61,62],[61,61,61],[46,46,46],[60,60,61],[62,62,61],[38,38,61],[124,124,61],[42,42],[61,61],[33,61],[62,61],[60,61],[38,38],[124,124],[38,46],[45,62],[61,62],[58,58],[46,46],[43,61],[45,61],[42,61],[47,61],[37,61],[124,61],[38,61],[94,61],[60,60],[62,62],[43],[45],[42],[47],[37],[61],[60],[62],[33],[38],[124],[94],[126],[63],[58],[44],[46],[40],[41],[91],[93],[123],[125]]
noncomputable def mopsL:List (List Nat):=[[91,93,61],[60,61,62],[61,61,61],[91,93],[42,42],[61,61],[33,61],[62,61],[60,61],[60,60],[62,62],[43,64],[45,64],[126,64],[33,64],[43],[45],[42],[47],[37],[60],[62],[33],[38],[124],[94],[126]]
theorem keysOf_cons {P:Params}{r:List DictEntry}{x:Str}{t:Tok}{v:Value}{l:List Str}(h3:keysOf P r=some l):keysOf P ({ hash:=PyData.keyHash P x,key:=.str x t,val:=v }::r)=some (x::l):=by
 unfold keysOf
 rw [h3]
 simp only [if_true]
theorem kk_of {P:Params}{K:Frag}{d:Addr}{L:List (List Nat)}(h0:(d==sysModules)=false)(hn:(L.map S).Nodup)
  (h:∃ es n c dd sl,K.lookup d=some ⟨c,dd,.dict es n,sl⟩∧isDict ⟨c,dd,.dict es n,sl⟩=true∧keysOf P es.toList=some (L.map S)):keysK P K d=some (L.map S):=by
 walk_at "a"
 obtain ⟨es,n,c,dd,sl,h1,h2,h3⟩:=h
 unfold keysK
 rw [h0,if_neg (by decide),h1]
 simp only [h2,if_true,h3]
 rw [if_pos hn]
 walk_at "z"
theorem keysOf_to {P:Params}{es:List DictEntry}{xs:List Str}{L:List (List Nat)}(h:keysOf P es=some xs)(e:xs=L.map S):keysOf P es=some (L.map S):=by
 walk_at "a"
 rw [h,e]
 walk_at "z"
theorem keysOf_nil {P:Params}:keysOf P []=some []:=rfl
theorem kk64 (P:Params):keysK P (F.K P) 64=some (opsL.map S):=by
 walk_at "a"
 exact kk_of (by decide) (by decide +kernel) (by
  refine ⟨_,_,_,_,_,rfl,rfl,?_⟩
  apply keysOf_to
  ·rw [List.toList_toArray]
   repeat (first | exact keysOf_nil | apply keysOf_cons)
  ·kernel_rfl)
 walk_at "z"
theorem kk68 (P:Params):keysK P (F.K P) 68=some (mopsL.map S):=by
 walk_at "a"
 exact kk_of (by decide) (by decide +kernel) (by
  refine ⟨_,_,_,_,_,rfl,rfl,?_⟩
  apply keysOf_to
  ·rw [List.toList_toArray]
   repeat (first | exact keysOf_nil | apply keysOf_cons)
  ·kernel_rfl)
 walk_at "z"
theorem tk64 (P:Params):∃ es,tabK (F.K P) 64=some es∧es.map (·.1)=opsL.map S:=⟨_,rfl,by kernel_rfl⟩
theorem tk68 (P:Params):∃ es,tabK (F.K P) 68=some es∧es.map (·.1)=mopsL.map S:=⟨_,rfl,by kernel_rfl⟩
theorem contains_S {t:List Nat}:∀ (L:List (List Nat)),(L.map S).contains (S t)=L.contains t
 | []=>rfl
 | d::L=>by
  rw [List.map_cons,List.contains_cons,List.contains_cons,contains_S L,S_beq]
theorem in_tab {P:Params}{d:Addr}{L:List (List Nat)}(h:∃ es,tabK (F.K P) d=some es∧es.map (·.1)=L.map S){t:List Nat}{σ:St}:cmpD (F.K P) .In (.str (S t)) (.const d) σ=some (some (.bool (L.contains t)),σ):=by
 walk_at "a"
 obtain ⟨es,h1,h2⟩:=h
 have:fN (F.K P) (.const d)=some es:=h1
 rw [cmpD_tab this,inKeys_map,h2,contains_S]
 exact bF
 walk_at "z"
noncomputable def LL (K:List (List Nat))(s f:List Nat):List Nat:=K.foldl (fun f o=>if s.take o.length=o∧f.length<o.length then o else f) f
theorem LL_spec (s:List Nat):∀ (K:List (List Nat)) (f:List Nat),(LL K s f=f∨(LL K s f∈K∧s.take (LL K s f).length=LL K s f))∧f.length≤(LL K s f).length∧∀ o∈K,s.take o.length=o→o.length≤(LL K s f).length
 | [],f=>⟨.inl rfl,Nat.le_refl _,fun _ h=>nomatch h⟩
 | k::K,f=>by
  walk_at "a"
  have e:LL (k::K) s f=LL K s (if s.take k.length=k∧f.length<k.length then k else f):=rfl
  rw [e]
  by_cases h:s.take k.length=k∧f.length<k.length
  ·rw [if_pos h]
   obtain ⟨h1,h2,h3⟩:=LL_spec s K k
   refine ⟨.inr ?_,by lia,fun o ho hp=>?_⟩
   ·rcases h1 with h1 | ⟨h1,h1'⟩
    ·rw [h1];exact ⟨List.mem_cons_self,h.1⟩
    ·exact ⟨List.mem_cons_of_mem _ h1,h1'⟩
   ·rcases List.mem_cons.mp ho with rfl | ho
    ·exact h2
    ·exact h3 o ho hp
  ·rw [if_neg h]
   obtain ⟨h1,h2,h3⟩:=LL_spec s K f
   refine ⟨?_,h2,fun o ho hp=>?_⟩
   ·rcases h1 with h1 | ⟨h1,h1'⟩
    ·exact .inl h1
    ·exact .inr ⟨List.mem_cons_of_mem _ h1,h1'⟩
   ·rcases List.mem_cons.mp ho with rfl | ho
    ·rcases Classical.not_and_iff_not_or_not.mp h with h | h
     ·exact absurd hp h
     ·lia
    ·exact h3 o ho hp
  walk_at "z"
theorem LL_at {K:List (List Nat)}{s:List Nat}{n:Nat}(h:s.take n∈K)(hmax:∀ o∈K,o≠[]→s.take o.length=o→o.length≤n):LL K s []=s.take n:=by
 walk_at "a"
 obtain ⟨h1,h2,h3⟩:=LL_spec s K []
 have h4:=h3 _ h (take_take_len s n)
 have h5:(s.take n).length=min n s.length:=List.length_take
 rcases h1 with h1 | ⟨h1,h1'⟩
 ·rw [h1] at h4 ⊢
  have:(s.take n).length=0:=by simpa using h4
  exact (List.length_eq_zero_iff.mp this).symm
 ·by_cases h0:LL K s []=[]
  ·rw [h0] at h4 ⊢
   have:(s.take n).length=0:=by simpa using h4
   exact (List.length_eq_zero_iff.mp this).symm
  ·have h6:=hmax _ h1 h0 h1'
   have h7:(LL K s []).length≤s.length:=by
    have:=congrArg List.length h1'
    rw [List.length_take] at this
    lia
   have h8:(LL K s []).length=(s.take n).length:=by lia
   rw [← h1',h8,take_take_len]
 walk_at "z"
theorem LL_no {K:List (List Nat)}{s:List Nat}(hmax:∀ o∈K,s.take o.length=o→o=[]):LL K s []=[]:=by
 walk_at "a"
 obtain ⟨h1,h2,h3⟩:=LL_spec s K []
 rcases h1 with h1 | ⟨h1,h1'⟩
 ·exact h1
 ·exact hmax _ h1 h1'
 walk_at "z"
theorem LL_three {K:List (List Nat)}(hK:K.all (fun o=>1≤o.length&&decide (o.length≤3))=true)(s:List Nat) :
  LL K s []=if s.take 3∈K then s.take 3 else if s.take 2∈K then s.take 2 else if s.take 1∈K then s.take 1 else []:=by
 walk_at "a"
 have hk:∀ o∈K,1≤o.length∧o.length≤3:=fun o ho=>by simpa using List.all_eq_true.mp hK o ho
 by_cases h3:s.take 3∈K
 ·rw [if_pos h3];exact LL_at h3 fun o ho _ _=>(hk o ho).2
 rw [if_neg h3]
 have m2:∀ o∈K,s.take o.length=o→o.length≤2:=fun o ho hp=>by
  have:=hk o ho
  rcases Nat.lt_or_ge o.length 3 with h | h
  ·lia
  ·have:o.length=3:=by lia
   rw [this] at hp
   exact absurd (hp▸ho) h3
 by_cases h2:s.take 2∈K
 ·rw [if_pos h2];exact LL_at h2 fun o ho _ hp=>m2 o ho hp
 rw [if_neg h2]
 have m1:∀ o∈K,s.take o.length=o→o.length≤1:=fun o ho hp=>by
  have:=m2 o ho hp
  rcases Nat.lt_or_ge o.length 2 with h | h
  ·lia
  ·have:o.length=2:=by lia
   rw [this] at hp
   exact absurd (hp▸ho) h2
 by_cases h1:s.take 1∈K
 ·rw [if_pos h1];exact LL_at h1 fun o ho _ hp=>m1 o ho hp
 rw [if_neg h1]
 refine LL_no fun o ho hp=>?_
 have a1:=m1 o ho hp
 have a2:=(hk o ho).1
 have:o.length=1:=by lia
 rw [this] at hp
 exact absurd (hp▸ho) h1
 walk_at "z"
theorem for_ret {st:V→M Unit}{b:M Fl}{v u:V}{vs:List V}{σ σ1 σ2:St}(h1:st v σ=some (some (),σ1))(h2:b σ1=some (some (.ret u),σ2)):forM st b (v::vs) σ=some (some (.ret u),σ2):=by
 walk_at "a"
 rw [forM,M.bind_val h1,M.bind_val h2]
 exact bF
 walk_at "z"
structure Tb (P:Params)(d:Addr)(L:List (List Nat)):Prop where
 k:keysK P (F.K P) d=some (L.map S)
 t:∃ es,tabK (F.K P) d=some es∧es.map (·.1)=L.map S
 l:L.all (fun o=>1≤o.length&&decide (o.length≤3))=true
theorem tb64 (P:Params):Tb P 64 opsL:=⟨kk64 P,tk64 P,by decide⟩
theorem tb68 (P:Params):Tb P 68 mopsL:=⟨kk68 P,tk68 P,by decide⟩
section
variable {P:Params}{l s:List Nat}{i j k a m:Nat}{H:List aE}{ρ:List (Option V)}{Γ:CT}
noncomputable abbrev lgSt (i:Nat)(a:Nat)(d:Addr)(x y:Option V)(H:List aE):St:=⟨[some (.obj i),some (.int a),some (.const d),x,y],H⟩
theorem lg_turn {rest:List (Str×V)}{d:Addr}{L:List (List Nat)}{b n:Nat}(T:Tb P d L)(h:Sc H i 479 l b m rest)(y:Option V) :
  dU (F.K P) Γ (lgSt i a d (some (.int n)) y H)=some (some (if (l.drop a).take n∈L then .ret (.str (S ((l.drop a).take n))) else .next),lgSt i a d (some (.int n)) (some (.str (S ((l.drop a).take n)))) H):=by
 walk_at "a"
 have hl:=h.hl
 have q0:=fun ρ=>get_source (P:=P) (ρ:=ρ) h.ok h.at_
 have q1:∀ σ,bM (.str (S l)) (.int (a:Int)) (.int ((a:Int)+n)) σ=some (some (.str (S ((l.drop a).take n))),σ):=fun σ=>by
  have:=sl_ss (l:=l) (a:=a) (b:=a+n) (σ:=σ) (by lia)
  rw [List.drop_take,Nat.add_sub_cancel_left] at this
  exact this
 have q2:=fun σ=>in_tab T.t (t:=(l.drop a).take n) (σ:=σ)
 by_cases hc:(l.drop a).take n∈L
 ·rw [if_pos hc]
  have f1:L.contains ((l.drop a).take n)=true:=by simpa using hc
  unfold dU
  repeat walk_at "s"
 ·rw [if_neg hc]
  have f1:L.contains ((l.drop a).take n)=false:=by simpa using hc
  unfold dU
  repeat walk_at "s"
 walk_at "z"
theorem run_longest {rest:List (Str×V)}{d:Addr}{L:List (List Nat)}{b:Nat}(T:Tb P d L)(h:Sc H i 479 l b m rest) :
  ∃ σ',fG (F.K P) Γ (lgSt i a d none none H)=some (some (.ret (.str (S (LL L (l.drop a) [])))),σ')∧σ'.H=H:=by
 walk_at "a"
 have w1:Str.ofString ""=S []:=by decide
 have e3:=fun y=>lg_turn (a:=a) (n:=3) (Γ:=Γ) T h y
 have e2:=fun y=>lg_turn (a:=a) (n:=2) (Γ:=Γ) T h y
 have e1:=fun y=>lg_turn (a:=a) (n:=1) (Γ:=Γ) T h y
 have hfor:∃ fl σ',forM (aJ 3) (dU (F.K P) Γ) [.int ((3:Nat):Int),.int ((2:Nat):Int),.int ((1:Nat):Int)] (lgSt i a d none none H)=some (some fl,σ')∧σ'.H=H∧(fl=.ret (.str (S (LL L (l.drop a) [])))∨(fl=.next∧LL L (l.drop a) []=[])):=by
  rw [LL_three T.l]
  by_cases h3:(l.drop a).take 3∈L
  ·have e3':=e3 none
   rw [if_pos h3] at e3' ⊢
   exact ⟨_,_,for_ret (σ1:=lgSt i a d (some (.int (3:Nat))) none H) sv3 e3',rfl,.inl rfl⟩
  have e3':=e3 none
  rw [if_neg h3] at e3' ⊢
  rw [fF (σ1:=lgSt i a d (some (.int (3:Nat))) none H) sv3 e3' (.inl rfl)]
  have e2':=e2 (some (.str (S ((l.drop a).take 3))))
  by_cases h2:(l.drop a).take 2∈L
  ·rw [if_pos h2] at e2' ⊢
   exact ⟨_,_,for_ret (σ1:=lgSt i a d (some (.int (2:Nat))) _ H) sv3 e2',rfl,.inl rfl⟩
  rw [if_neg h2] at e2' ⊢
  rw [fF (σ1:=lgSt i a d (some (.int (2:Nat))) _ H) sv3 e2' (.inl rfl)]
  have e1':=e1 (some (.str (S ((l.drop a).take 2))))
  by_cases h1:(l.drop a).take 1∈L
  ·rw [if_pos h1] at e1' ⊢
   exact ⟨_,_,for_ret (σ1:=lgSt i a d (some (.int (1:Nat))) _ H) sv3 e1',rfl,.inl rfl⟩
  rw [if_neg h1] at e1' ⊢
  rw [fF (σ1:=lgSt i a d (some (.int (1:Nat))) _ H) sv3 e1' (.inl rfl)]
  exact ⟨_,_,for_nil,rfl,.inr ⟨rfl,rfl⟩⟩
 obtain ⟨fl,σ',ef,eH,hfl⟩:=hfor
 have hrng:∀ (k:Option Fl→St→Prop),True:=fun _=>trivial
 have hit:((((M.ret (.ty "range")).bind fun f7=>aC (F.K P) Γ f7 [] ((M.ret (.int 3)).bind fun v5=>((M.ret (.int 0)).bind fun v3=>(((M.ret (.int 1)).bind negV).bind fun v1=>(M.ret []).bind fun w2=>M.ret (v1::w2)).bind fun w4=>M.ret (v3::w4)).bind fun w6=>M.ret (v5::w6))).bind fun v18=>fun σ=>match iI σ v18 with | some items=>forM (aJ 3) (dU (F.K P) Γ) items σ | none=>none):M Fl) (lgSt i a d none none H)=some (some fl,σ'):=by
  refine r_bind (o:=some (.rng 3 0 (-1))) (σ1:=lgSt i a d none none H) ?_ ?_
  ·have q0:∀ σ,callT "range" [.int 3,.int 0,.int (-1)] σ=some (some (.rng 3 0 (-1)),σ):=fun σ=>by cases σ;rfl
   repeat walk_at "s"
  ·exact k_some ef
 rcases hfl with rfl | ⟨rfl,h0⟩
 ·refine ⟨σ',?_,eH⟩
  unfold fG
  exact gG hit n_ret
 ·refine ⟨σ',?_,eH⟩
  rw [h0]
  unfold fG
  rw [w1]
  refine gG hit (gO ?_)
  repeat walk_at "s"
 walk_at "z"
noncomputable def tabL (d:Addr):Option (List (List Nat)):=if d=64 then some opsL else if d=68 then some mopsL else none
theorem tabL_tb {d:Addr}{L:List (List Nat)}(h:tabL d=some L)(P:Params):Tb P d L:=by
 walk_at "a"
 unfold tabL at h
 split at h
 ·rename_i hd;subst hd;cases h;exact tb64 P
 ·split at h
  ·rename_i hd;subst hd;cases h;exact tb68 P
  ·cases h
 walk_at "z"
noncomputable def f_longest:FC:=fun i C l a ln rest=>pIC fun x d H=>on1 (tabL d) (fun L=>if C=479∧0≤x then some (some (.str (S (LL L (l.drop x.toNat) []))),H) else none) none
noncomputable abbrev gS:=dW f_longest
theorem longest_ok {prog:Program}{w:World}{sl:Addr}{sn:List Int}{n:Nat}(G:GOK prog w (KK w) (.ref 59) sl sn Γ n):GOK prog w (KK w) (.ref 59) sl sn (ov F.at_Lexer_longest gS Γ) (n+1):=by
 walk_at "a"
 refine ok_Lexer_longest G fun vs H r h0=>fD h0 fun i more C l a ln rest e0 hS h1x=>pIC_e h1x fun x d e1 h2x=>cK (fun L hL h3x=>fL h3x fun hq h4x=>?_) h2x
 subst e1 e0
 obtain ⟨rfl,hx⟩:=hq
 obtain rfl:=Option.some.inj h4x
 obtain ⟨σ',e,eH⟩:=run_longest (Γ:=Γ) (a:=x.toNat) (tabL_tb hL w.params) hS
 unfold lgSt at e
 rw [show ((x.toNat:Nat):Int)=x by lia] at e
 exact .of (Nat.le_refl _) [.obj i,.int x,.const d] rfl rfl _ _ e (cE (by rw [eH];exact cX.same) (.same rfl))
 walk_at "z"
theorem m_longest (P:Params):eR (F.K P) 479 (Str.ofString "longest")=some F.at_Lexer_longest:=by kernel_rfl
noncomputable abbrev llSt (l:List Nat)(a:Nat)(d:Addr)(f:Option V)(y:Option V)(H:List aE):St:=⟨[some (.str (S l)),some (.int a),some (.const d),f,y],H⟩
theorem ll_turn {d:Addr}{f o:List Nat}(hl:l.length≤60)(hf:f.length≤60)(ho:o.length≤60) :
  dZ (F.K P) Γ P (llSt l a d (some (.str (S f))) (some (.str (S o))) H)=some (some .next,llSt l a d (some (.str (S (if (l.drop a).take o.length=o∧f.length<o.length then o else f)))) (some (.str (S o))) H):=by
 walk_at "a"
 have hl2:l.length≤1000:=by lia
 have hf2:f.length≤1000:=by lia
 have ho2:o.length≤1000:=by lia
 have q1:∀ σ,bM (.str (S l)) (.int (a:Int)) (.int ((a:Int)+(o.length:Int))) σ=some (some (.str (S ((l.drop a).take o.length))),σ):=fun σ=>by
  have:=sl_ss (l:=l) (a:=a) (b:=a+o.length) (σ:=σ) (by lia)
  rw [List.drop_take,Nat.add_sub_cancel_left] at this
  exact this
 have q2:=fun σ=>len_S (K:=F.K P) (σ:=σ) ho2
 have q3:=fun σ=>len_S (K:=F.K P) (σ:=σ) hf2
 by_cases h1:(l.drop a).take o.length=o
 ·have f1:(S ((l.drop a).take o.length)==S o)=true:=eQ h1
  by_cases h2:f.length<o.length
  ·have f2:decide ((o.length:Int)>(f.length:Int))=true:=decide_eq_true (by lia)
   rw [if_pos ⟨h1,h2⟩]
   unfold dZ
   repeat walk_at "s"
  ·have f2:decide ((o.length:Int)>(f.length:Int))=false:=decide_eq_false (by lia)
   rw [if_neg (fun h=>h2 h.2)]
   unfold dZ
   repeat walk_at "s"
 ·have f1:(S ((l.drop a).take o.length)==S o)=false:=cN h1
  rw [if_neg (fun h=>h1 h.1)]
  unfold dZ
  repeat walk_at "s"
 walk_at "z"
theorem ll_loop {d:Addr}(hl:l.length≤60):∀ (L:List (List Nat)) (f:List Nat) (y:Option V),(∀ o∈L,o.length≤3)→f.length≤60 →
  ∃ y',forM (aJ 4) (dZ (F.K P) Γ P) (L.map fun o=>V.str (S o)) (llSt l a d (some (.str (S f))) y H)=some (some .next,llSt l a d (some (.str (S (LL L (l.drop a) f)))) y' H)
 | [],f,y,_,_=>⟨y,for_nil⟩
 | o::L,f,y,hL,hf=>by
  walk_at "a"
  have ho:=hL o List.mem_cons_self
  have e:=ll_turn (P:=P) (Γ:=Γ) (H:=H) (a:=a) (d:=d) hl hf (show o.length≤60 by lia)
  obtain ⟨y',e2⟩:=ll_loop hl L (if (l.drop a).take o.length=o∧f.length<o.length then o else f) (some (.str (S o))) (fun x hx=>hL x (List.mem_cons_of_mem _ hx)) (by split<;>lia)
  refine ⟨y',?_⟩
  rw [List.map_cons,fF (σ1:=llSt l a d (some (.str (S f))) (some (.str (S o))) H) sv4 e (.inl rfl)]
  exact e2
  walk_at "z"
theorem run_llongest {d:Addr}{L:List (List Nat)}(T:Tb P d L)(hl:l.length≤60) :
  ∃ σ',x_law_longest (F.K P) Γ P (llSt l a d none none H)=some (some (.ret (.str (S (LL L (l.drop a) [])))),σ')∧σ'.H=H:=by
 walk_at "a"
 have w1:Str.ofString ""=S []:=by decide
 have hk:∀ o∈L,o.length≤3:=fun o ho=>by
  have:=List.all_eq_true.mp T.l o ho
  simp at this
  exact this.2
 obtain ⟨y',e⟩:=ll_loop (P:=P) (Γ:=Γ) (H:=H) (a:=a) (d:=d) hl L [] none hk (by simp)
 have hi:∀ σ,itsTab P (F.K P) σ (.const d)=some (L.map fun o=>V.str (S o)):=fun σ=>by
  show (keysK P (F.K P) d).map (fun l=>l.map V.str)=_
  rw [T.k,Option.map_some,List.map_map]
  rfl
 refine ⟨llSt l a d (some (.str (S (LL L (l.drop a) [])))) y' H,?_,rfl⟩
 unfold x_law_longest
 rw [w1]
 refine gG (o:=some .next) (σ1:=llSt l a d (some (.str (S []))) none H) ?_ (gO ?_)
 ·repeat walk_at "s"
 refine gG (o:=some .next) (σ1:=llSt l a d (some (.str (S (LL L (l.drop a) [])))) y' H) ?_ (gO ?_)
 ·refine r_bind (o:=some (.const d)) (σ1:=llSt l a d (some (.str (S []))) none H) gv2 (k_some ?_)
  show (match itsTab P (F.K P) _ (.const d) with | some items=>forM (aJ 4) (dZ (F.K P) Γ P) items _ | none=>none)=_
  rw [hi]
  exact e
 ·repeat walk_at "s"
 walk_at "z"
noncomputable def fS:PC:=pSIC fun t x d H=>on1 (tabL d) (fun L=>if 0≤x∧t.length≤60 then some (some (.str (S (LL L ((lt t).drop x.toNat) []))),H) else none) none
theorem llongest_ok {prog:Program}{w:World}{sl:Addr}{sn:List Int}{n:Nat}(G:GOK prog w (KK w) (.ref 59) sl sn Γ n):GOK prog w (KK w) (.ref 59) sl sn (ov F.at_law_longest fS Γ) (n+1):=by
 walk_at "a"
 refine ok_law_longest G fun vs H r h0=>pSIC_e h0 fun t x d e1 h1x=>cK (fun L hL h2x=>fL h2x fun hq h3x=>?_) h1x
 subst e1
 obtain rfl:=Option.some.inj h3x
 have hlt:(lt t).length=t.length:=by simp [lt,Str.length]
 obtain ⟨σ',e,eH⟩:=run_llongest (Γ:=Γ) (l:=lt t) (a:=x.toNat) (H:=H) (tabL_tb hL w.params) (by lia)
 unfold llSt at e
 rw [show ((x.toNat:Nat):Int)=x by lia,S_lt] at e
 exact .of (Nat.le_refl _) [.str t,.int x,.const d] rfl rfl _ _ e (cE (by rw [eH];exact cX.same) (.same rfl))
 walk_at "z"
end
end Mine
end
section
namespace Mine
noncomputable def jn:List (List Nat)→List Nat
 | []=>[]
 | [p]=>p
 | p::q::r=>p++95::jn (q::r)
theorem jn_S:∀ ps:List (List Nat),Str.join (S [95]) (ps.map S)=S (jn ps)
 | []=>rfl
 | [p]=>rfl
 | p::q::r=>by
  show S p++S [95]++Str.join (S [95]) ((q::r).map S)=_
  rw [jn_S (q::r),S_app,S_app]
  simp [jn]
noncomputable def grp (x:List Nat):List (List Nat):=(Txt.split (S x) (S [95])).map lt
theorem grp_S (x:List Nat):Txt.split (S x) (S [95])=(grp x).map S:=by
 walk_at "a"
 unfold grp
 rw [List.map_map]
 have:(S∘lt)=id:=funext fun t=>S_lt t
 rw [this,List.map_id]
 walk_at "z"
theorem grp_jn (x:List Nat):jn (grp x)=x:=by
 walk_at "a"
 have h:=StrLaws.join_split (S x) (S [95])
 rw [grp_S,jn_S] at h
 exact S_inj h
 walk_at "z"
theorem grp_free (x:List Nat):∀ p∈grp x,95∉p:=by
 walk_at "a"
 intro p hp
 obtain ⟨t,ht,rfl⟩:=List.mem_map.mp hp
 exact StrLaws.split_free (S x) 95 t ht
 walk_at "z"
theorem grp_ne (x:List Nat):grp x≠[]:=by
 walk_at "a"
 intro h
 have:=PyProof.Rows.split_pos (S x) (S [95])
 rw [grp_S,h] at this
 simp at this
 walk_at "z"
noncomputable def okU:Bool→List Nat→Bool
 | b,[] => !b
 | b,c::r=>if c=95 then !b&&okU true r else okU false r
theorem okU_free {r:List Nat}:∀ (p:List Nat) (b:Bool),95∉p→okU b (p++r)=okU (b&&p.isEmpty) r
 | [],b,_=>by simp
 | c::p,b,h=>by
  walk_at "a"
  have hc:c≠95:=fun e=>h (by rw [e];exact List.mem_cons_self)
  rw [List.cons_append,okU,if_neg hc,okU_free p false (fun q=>h (List.mem_cons_of_mem _ q))]
  simp
  walk_at "z"
theorem okU_jn:∀ ps:List (List Nat),ps≠[]→(∀ p∈ps,95∉p)→okU true (jn ps) = !(ps.contains [])
 | [],h,_=>absurd rfl h
 | [p],_,h=>by
  have:=okU_free (r:=[]) p true (h p List.mem_cons_self)
  rw [List.append_nil] at this
  show okU true p=_
  rw [this]
  cases p<;>rfl
 | p::q::r,_,h=>by
  show okU true (p++95::jn (q::r))=_
  rw [okU_free p true (h p List.mem_cons_self),okU,if_pos rfl,okU_jn (q::r) (by simp) (fun x hx=>h x (List.mem_cons_of_mem _ hx)),List.contains_cons (a:=p)]
  cases p<;>simp
theorem jn_flat:∀ ps:List (List Nat),(∀ p∈ps,95∉p)→(jn ps).filter (· != 95)=ps.flatten
 | [],_=>rfl
 | [p],h=>by
  show p.filter (· != 95)=_
  rw [List.filter_eq_self.mpr fun c hc=>by have:=h p List.mem_cons_self;simp;intro e;exact this (e▸hc)]
  simp
 | p::q::r,h=>by
  show (p++95::jn (q::r)).filter (· != 95)=_
  rw [List.filter_append,List.filter_cons,if_neg (by decide),jn_flat (q::r) (fun x hx=>h x (List.mem_cons_of_mem _ hx))]
  rw [List.filter_eq_self.mpr fun c hc=>by have:=h p List.mem_cons_self;simp;intro e;exact this (e▸hc)]
  simp
theorem grp_nil (x:List Nat):((grp x).contains []) = !okU true x:=by
 walk_at "a"
 have:=okU_jn (grp x) (grp_ne x) (grp_free x)
 rw [grp_jn] at this
 rw [this,Bool.not_not]
 walk_at "z"
theorem grp_flat (x:List Nat):(grp x).flatten=x.filter (· != 95):=by
 have:=jn_flat (grp x) (grp_free x)
 rw [grp_jn] at this
 exact this.symm
theorem dig_in {c B:Nat}(hB:B≤16)(h:aZ [c]<(B:Int)):aG c=true∧c≠95:=by
 walk_at "a"
 have:∀ c<128,aZ [c]<16→aG c=true∧c≠95:=by decide
 by_cases hc:c<128
 ·exact this c hc (by lia)
 ·have e:aZ [c]=99:=by
   show (if 48≤c∧c≤57 then (c:Int)-48 else if 97≤c∧c≤102 then (c:Int)-87 else 99)=99
   rw [if_neg (by lia),if_neg (by lia)]
  lia
 walk_at "z"
noncomputable def lp (B:Nat):Int→Nat→List Nat→Int×Nat×Nat
 | v,m,[]=>(v,m,0)
 | v,m,c::t=>if aZ [c]<(B:Int) then ((lp B (v*B+aZ [c]) (m+1) t).1,(lp B (v*B+aZ [c]) (m+1) t).2.1,(lp B (v*B+aZ [c]) (m+1) t).2.2+1)
  else if c=95∧0<m∧aZ (t.take 1)<(B:Int) then ((lp B v m t).1,(lp B v m t).2.1,(lp B v m t).2.2+1) else (v,m,0)
noncomputable def fO (b:List Nat):List Nat:=b.filter (· != 95)
noncomputable def allD (B:Nat)(b:List Nat):Bool:=(fO b).all fun c=>decide (aZ [c]<(B:Int))
noncomputable def valD (B:Nat)(v:Int)(b:List Nat):Int:=(fO b).foldl (fun v c=>v*B+aZ [c]) v
theorem in95:aG 95=true:=by decide
theorem worth95 {B:Nat}(hB:B≤16):¬ aZ [95]<(B:Int):=by
 have:aZ [95]=99:=by decide
 lia
theorem lp_pos {B:Nat}(hB:B≤16):∀ (t:List Nat) (v:Int) (m:Nat),0<m →
  ((okU false (t.takeWhile aG)&&allD B (t.takeWhile aG))=true→(lp B v m t).1=valD B v (t.takeWhile aG)∧(lp B v m t).2.2=(t.takeWhile aG).length) ∧
  ((okU false (t.takeWhile aG)&&allD B (t.takeWhile aG))=false→∃ c r,t.drop (lp B v m t).2.2=c::r∧aG c=true)∧m≤(lp B v m t).2.1∧(lp B v m t).2.2≤t.length
 | [],v,m,hm=>by
  walk_at "a"
  exact ⟨fun _=>⟨rfl,rfl⟩,fun h=>(Bool.false_ne_true h.symm).elim,Nat.le_refl _,Nat.le_refl _⟩
  walk_at "z"
 | c::t,v,m,hm=>by
  walk_at "a"
  by_cases hd:aZ [c]<(B:Int)
  ·obtain ⟨hi,hc⟩:=dig_in hB hd
   obtain ⟨h1,h2,h3,h4⟩:=lp_pos hB t (v*B+aZ [c]) (m+1) (by lia)
   have e:lp B v m (c::t)=((lp B (v*B+aZ [c]) (m+1) t).1,(lp B (v*B+aZ [c]) (m+1) t).2.1,(lp B (v*B+aZ [c]) (m+1) t).2.2+1):=by
    rw [lp,if_pos hd]
   have hb:(c::t).takeWhile aG=c::t.takeWhile aG:=by rw [List.takeWhile_cons,if_pos hi]
   have e1:okU false (c::t.takeWhile aG)=okU false (t.takeWhile aG):=by rw [okU,if_neg hc]
   have e2:fO (c::t.takeWhile aG)=c::fO (t.takeWhile aG):=by unfold fO;rw [List.filter_cons,if_pos (by simpa using hc)]
   have e3:allD B (c::t.takeWhile aG)=allD B (t.takeWhile aG):=by unfold allD;rw [e2,List.all_cons,decide_eq_true hd,Bool.true_and]
   have e4:valD B v (c::t.takeWhile aG)=valD B (v*B+aZ [c]) (t.takeWhile aG):=by unfold valD;rw [e2];rfl
   rw [hb,e,e1,e3,e4]
   refine ⟨fun h=>⟨(h1 h).1,by rw [(h1 h).2];rfl⟩,fun h=>?_,by show m≤(lp B (v*B+aZ [c]) (m+1) t).2.1;lia,by show _+1≤t.length+1;lia⟩
   exact h2 h
  ·by_cases hu:c=95
   ·subst hu
    have hb:(95::t).takeWhile aG=95::t.takeWhile aG:=by rw [List.takeWhile_cons,if_pos in95]
    have e1:okU false (95::t.takeWhile aG)=okU true (t.takeWhile aG):=by rw [okU,if_pos rfl];rfl
    have e2:fO (95::t.takeWhile aG)=fO (t.takeWhile aG):=by unfold fO;rw [List.filter_cons,if_neg (by decide)]
    have e3:allD B (95::t.takeWhile aG)=allD B (t.takeWhile aG):=by unfold allD;rw [e2]
    have e4:valD B v (95::t.takeWhile aG)=valD B v (t.takeWhile aG):=by unfold valD;rw [e2]
    by_cases hn:aZ (t.take 1)<(B:Int)
    ·have e:lp B v m (95::t)=((lp B v m t).1,(lp B v m t).2.1,(lp B v m t).2.2+1):=by rw [lp,if_neg hd,if_pos ⟨rfl,hm,hn⟩]
     obtain ⟨h1,h2,h3,h4⟩:=lp_pos hB t v m hm
     have e5:okU true (t.takeWhile aG)=okU false (t.takeWhile aG):=by
      match t,hn with
      | [],hn=>exact absurd hn (by show ¬ (99:Int)<B;lia)
      | d::t',hn =>
       obtain ⟨hi,hc⟩:=dig_in hB hn
       rw [List.takeWhile_cons,if_pos hi,okU,if_neg hc,okU,if_neg hc]
     rw [hb,e,e1,e3,e4,e5]
     refine ⟨fun h=>⟨(h1 h).1,by rw [(h1 h).2];rfl⟩,fun h=>?_,h3,by show _+1≤t.length+1;lia⟩
     exact h2 h
    ·have e:lp B v m (95::t)=(v,m,0):=by rw [lp,if_neg hd,if_neg (fun h=>hn h.2.2)]
     have e5:(okU true (t.takeWhile aG)&&allD B (t.takeWhile aG))=false:=by
      match t,hn with
      | [],hn=>rfl
      | d::t',hn =>
       by_cases hi:aG d=true
       ·rw [List.takeWhile_cons,if_pos hi]
        by_cases hc:d=95
        ·rw [okU,if_pos hc];rfl
        ·have:allD B (d::t'.takeWhile aG)=false:=by
          unfold allD fO
          rw [List.filter_cons,if_pos (by simpa using hc),List.all_cons,decide_eq_false (show ¬ aZ [d]<(B:Int) from hn),Bool.false_and]
         rw [this,Bool.and_false]
       ·rw [List.takeWhile_cons,if_neg hi];rfl
     rw [hb,e,e1,e3,e5]
     exact ⟨fun h=>(Bool.false_ne_true h).elim,fun _=>⟨95,t,rfl,in95⟩,Nat.le_refl _,Nat.zero_le _⟩
   ·have e:lp B v m (c::t)=(v,m,0):=by rw [lp,if_neg hd,if_neg (fun h=>hu h.1)]
    rw [e]
    by_cases hi:aG c=true
    ·have hb:(c::t).takeWhile aG=c::t.takeWhile aG:=by rw [List.takeWhile_cons,if_pos hi]
     have e3:allD B (c::t.takeWhile aG)=false:=by
      unfold allD fO
      rw [List.filter_cons,if_pos (by simpa using hu),List.all_cons,decide_eq_false hd,Bool.false_and]
     rw [hb,e3,Bool.and_false]
     exact ⟨fun h=>(Bool.false_ne_true h).elim,fun _=>⟨c,t,rfl,hi⟩,Nat.le_refl _,Nat.zero_le _⟩
    ·have hb:(c::t).takeWhile aG=[]:=by rw [List.takeWhile_cons,if_neg hi]
     rw [hb]
     exact ⟨fun _=>⟨rfl,rfl⟩,fun h=>(Bool.false_ne_true h.symm).elim,Nat.le_refl _,Nat.zero_le _⟩
  walk_at "z"
theorem lp_zero {B:Nat}(hB:B≤16)(t:List Nat) :
  ((okU true (t.takeWhile aG)&&allD B (t.takeWhile aG))=true→(lp B 0 0 t).1=valD B 0 (t.takeWhile aG)∧(lp B 0 0 t).2.2=(t.takeWhile aG).length∧0<(lp B 0 0 t).2.1) ∧
  ((okU true (t.takeWhile aG)&&allD B (t.takeWhile aG))=false→(lp B 0 0 t).2.1=0∨∃ c r,t.drop (lp B 0 0 t).2.2=c::r∧aG c=true)∧(lp B 0 0 t).2.2≤t.length:=by
 walk_at "a"
 match t with
 | []=>exact ⟨fun h=>(Bool.false_ne_true h).elim,fun _=>.inl rfl,Nat.le_refl _⟩
 | c::t =>
  by_cases hd:aZ [c]<(B:Int)
  ·obtain ⟨hi,hc⟩:=dig_in hB hd
   obtain ⟨h1,h2,h3,h4⟩:=lp_pos hB t ((0:Int)*B+aZ [c]) 1 (by lia)
   have e:lp B 0 0 (c::t)=((lp B ((0:Int)*B+aZ [c]) 1 t).1,(lp B ((0:Int)*B+aZ [c]) 1 t).2.1,(lp B ((0:Int)*B+aZ [c]) 1 t).2.2+1):=by
    rw [lp,if_pos hd]
   have hb:(c::t).takeWhile aG=c::t.takeWhile aG:=by rw [List.takeWhile_cons,if_pos hi]
   have e1:okU true (c::t.takeWhile aG)=okU false (t.takeWhile aG):=by rw [okU,if_neg hc]
   have e2:fO (c::t.takeWhile aG)=c::fO (t.takeWhile aG):=by unfold fO;rw [List.filter_cons,if_pos (by simpa using hc)]
   have e3:allD B (c::t.takeWhile aG)=allD B (t.takeWhile aG):=by unfold allD;rw [e2,List.all_cons,decide_eq_true hd,Bool.true_and]
   have e4:valD B 0 (c::t.takeWhile aG)=valD B ((0:Int)*B+aZ [c]) (t.takeWhile aG):=by unfold valD;rw [e2];rfl
   rw [hb,e,e1,e3,e4]
   refine ⟨fun h=>⟨(h1 h).1,by rw [(h1 h).2];rfl,by show 0<(lp B ((0:Int)*B+aZ [c]) 1 t).2.1;lia⟩,fun h=>.inr (h2 h),by show _+1≤t.length+1;lia⟩
  ·have e:lp B 0 0 (c::t)=(0,0,0):=by rw [lp,if_neg hd,if_neg (fun h=>absurd h.2.1 (by decide))]
   rw [e]
   refine ⟨fun h=>?_,fun _=>.inl rfl,Nat.zero_le _⟩
   exfalso
   by_cases hi:aG c=true
   ·have hb:(c::t).takeWhile aG=c::t.takeWhile aG:=by rw [List.takeWhile_cons,if_pos hi]
    rw [hb] at h
    by_cases hu:c=95
    ·rw [okU,if_pos hu] at h
     exact Bool.false_ne_true h
    ·have e3:allD B (c::t.takeWhile aG)=false:=by
      unfold allD fO
      rw [List.filter_cons,if_pos (by simpa using hu),List.all_cons,decide_eq_false hd,Bool.false_and]
     rw [e3,Bool.and_false] at h
     exact Bool.false_ne_true h
   ·have hb:(c::t).takeWhile aG=[]:=by rw [List.takeWhile_cons,if_neg hi]
    rw [hb] at h
    exact Bool.false_ne_true h
 walk_at "z"
noncomputable def bsN (s:List Nat):Nat:=if s.take 2=[48,120] then 16 else if s.take 2=[48,98] then 2 else 10
noncomputable def iA (s:List Nat):Nat:=if bsN s=10 then 0 else 2
noncomputable def bodyN (s:List Nat):List Nat:=(s.drop (iA s)).takeWhile aG
noncomputable def okN (s:List Nat):Bool:=okU true (bodyN s)&&allD (bsN s) (bodyN s)
noncomputable def dotN (s:List Nat):Bool:=((s.drop (aW s)).take 1==[46])&&decide (aZ ((s.drop (aW s+1)).take 1)<10)
noncomputable def iC (s:List Nat):Option Int:=if okN s && !dotN s then some (valD (bsN s) 0 (bodyN s)) else none
theorem bsN_le (s:List Nat):bsN s≤16:=by
 unfold bsN
 split
 ·lia
 ·split<;>lia
theorem pre_le (s:List Nat):iA s≤2:=by unfold iA;split<;>lia
theorem take2 {s:List Nat}{c d:Nat}(hc:aG c=true)(hd:aG d=true):(s.takeWhile aG).take 2=[c,d]↔s.take 2=[c,d]:=by
 match s with
 | []=>simp
 | [x]=>by_cases hx:aG x=true<;>simp [List.takeWhile_cons,hx]
 | x::y::r =>
  by_cases hx:aG x=true
  ·by_cases hy:aG y=true
   ·simp [List.takeWhile_cons,hx,hy]
   ·simp only [List.takeWhile_cons,hx,if_true,hy]
    constructor
    ·intro h;simp at h
    ·intro h;simp at h;exact absurd (h.2▸hd) hy
  ·simp only [List.takeWhile_cons,hx]
   constructor
   ·intro h;simp at h
   ·intro h;simp at h;exact absurd (h.1▸hc) hx
theorem pre_two {s:List Nat}(h:bsN s≠10):∃ c r,s=48::c::r∧aG c=true:=by
 walk_at "a"
 unfold bsN at h
 split at h
 ·rename_i q
  match s,q with
  | x::y::r,q=>simp at q;exact ⟨y,r,by rw [q.1],by rw [q.2];decide⟩
 ·split at h
  ·rename_i q
   match s,q with
   | x::y::r,q=>simp at q;exact ⟨y,r,by rw [q.1],by rw [q.2];decide⟩
  ·exact absurd rfl h
 walk_at "z"
theorem word_pre (s:List Nat):(s.takeWhile aG).drop (iA s)=bodyN s∧aW s=iA s+(bodyN s).length:=by
 walk_at "a"
 unfold bodyN iA aW
 by_cases h:bsN s=10
 ·rw [if_pos h];simp
 ·rw [if_neg h]
  obtain ⟨c,r,rfl,hc⟩:=pre_two h
  have h48:aG 48=true:=by decide
  simp [List.takeWhile_cons,h48,hc]
  lia
 walk_at "z"
end Mine
end
section
namespace Mine
theorem b_mulI {i j:Int}{σ:St}(hi:i.natAbs<2 ^ 64)(hj:j.natAbs<2 ^ 64):bO .Mult (.int i) (.int j) σ=some (some (.int (i*j)),σ):=by
 walk_at "a"
 show ((if i.natAbs<2 ^ 64∧j.natAbs<2 ^ 64 then M.ret (.int (i*j)) else M.stuck:M V) σ)=_
 rw [if_pos ⟨hi,hj⟩,bF]
 walk_at "z"
noncomputable def Sml (n:Nat)(v:Int):Prop:=0≤v∧v<((16 ^ n:Nat):Int)
theorem Sml.up {n B:Nat}{v w:Int}(h:Sml n v)(h1:0≤w)(h2:w<(B:Int))(hB:B≤16):Sml (n+1) (v*B+w):=by
 walk_at "a"
 obtain ⟨a,b⟩:=h
 have e:(v+1)*(B:Int)≤((16 ^ n:Nat):Int)*16:=Int.mul_le_mul (by lia) (by lia) (by lia) (by lia)
 rw [Int.add_mul,Int.one_mul] at e
 have f:0≤v*(B:Int):=Int.mul_nonneg a (by lia)
 have g:((16 ^ (n+1):Nat):Int)=((16 ^ n:Nat):Int)*16:=by rw [Nat.pow_succ];lia
 refine ⟨by lia,?_⟩
 rw [g]
 lia
 walk_at "z"
theorem Sml.le {n:Nat}{v:Int}(h:Sml n v)(hn:n≤15):v.natAbs<2 ^ 64:=by
 walk_at "a"
 obtain ⟨a,b⟩:=h
 have:16 ^ n≤16 ^ 15:=Nat.pow_le_pow_right (by decide) hn
 have e:(16 ^ 15:Nat)<2 ^ 64:=by decide
 lia
 walk_at "z"
theorem worth_pos (s:List Nat):0≤aZ s:=by
 walk_at "a"
 unfold aZ
 split
 ·split
  ·lia
  ·split<;>lia
 ·lia
 walk_at "z"
theorem w_u:Str.ofString "_"=S [95]:=by decide
theorem w_p:Str.ofString "."=S [46]:=by decide
theorem dat_L {V':Type}{c d:List Nat}{x:V'}{D:List (Str×V')}:datumAt (S c) ((S d,x)::D)=if c=d then some x else datumAt (S c) D:=by
 walk_at "a"
 show (if decide (S c=S d)=true then _ else _)=_
 by_cases h:c=d
 ·subst h;simp
 ·have:¬ S c=S d:=fun e=>h (S_inj e)
  rw [if_neg (by simpa using this),if_neg h]
 walk_at "z"
noncomputable abbrev baseD:List (Str×V):=[(Str.ofString "0x",.int 16),(Str.ofString "0b",.int 2),(Str.ofString "0o",.int 8)]
theorem getM_baseD {K:Frag}{σ:St}:getM K (Str.ofString "get") (.dct baseD) σ=some (some (.bi "dict.get",[.dct baseD]),σ):=by
 have e1:fN K (.dct baseD)=some baseD:=rfl
 exact getM_tab e1 rfl rfl
theorem get_baseD {K:Frag}{t:List Nat}{σ:St}(h:t≠[48,111]):bG K "dict.get" [.dct baseD,.str (S t),.int 10] σ=some (some (.int (if t=[48,120] then 16 else if t=[48,98] then 2 else 10)),σ):=by
 walk_at "a"
 have e0:bG K "dict.get" [.dct baseD,.str (S t),.int 10]=bGet K [.dct baseD,.str (S t),.int 10]:=by unfold bG;rfl
 have e1:fN K (.dct baseD)=some baseD:=rfl
 have e2:baseD=[(S [48,120],.int 16),(S [48,98],.int 2),(S [48,111],.int 8)]:=by
  unfold baseD
  rw [show Str.ofString "0x"=S [48,120] by decide,show Str.ofString "0b"=S [48,98] by decide,show Str.ofString "0o"=S [48,111] by decide]
 rw [e0]
 rw [bGet3 e1]
 have:(datumAt (S t) baseD).getD (.int 10)=.int (if t=[48,120] then 16 else if t=[48,98] then 2 else 10):=by
  rw [e2]
  simp only [dat_L,dat_N]
  rw [if_neg h]
  repeat' split
  all_goals rfl
 rw [this,bF]
 walk_at "z"
theorem getM_split {K:Frag}{x:Str}{σ:St}:getM K (Str.ofString "split") (.str x) σ=some (some (.bi "str.split",[.str x]),σ):=by cases σ;rfl
noncomputable abbrev vSs (ps:List (List Nat)):V:=.lst (ps.map fun p=>V.str (S p))
theorem split_S {K:Frag}{b:List Nat}{σ:St}(h:b.length≤1000):bG K "str.split" [.str (S b),.str (S [95])] σ=some (some (vSs (grp b)),σ):=by
 walk_at "a"
 have e0:bG K "str.split" [.str (S b),.str (S [95])]=bSplit [.str (S b),.str (S [95])]:=by unfold bG;rfl
 rw [e0]
 show ((if (S b).length≤100000∧((S [95]).length==0)=false then M.ret (.lst ((Txt.split (S b) (S [95])).map .str)) else M.stuck:M V) σ)=_
 rw [if_pos ⟨by rw [cD];lia,by decide⟩,bF,grp_S,List.map_map]
 rfl
 walk_at "z"
theorem allStr_S:∀ (ps:List (List Nat)),gP (ps.map fun p=>V.str (S p))=some (ps.map S)
 | []=>rfl
 | p::ps=>by
  have e:gP ((p::ps).map fun p=>V.str (S p))=on2 (some (S p)) (gP (ps.map fun p=>V.str (S p))) (fun s t=>some (s::t)) none:=rfl
  rw [e,allStr_S ps]
  rfl
theorem in_Ss {K:Frag}{t:List Nat}{ps:List (List Nat)}{σ:St}:cmpD K .In (.str (S t)) (vSs ps) σ=some (some (.bool (ps.contains t)),σ):=by
 walk_at "a"
 have e:cmpD K .In (.str (S t)) (vSs ps)=aY .In (.str (S t)) (vSs ps):=rfl
 have e2:isInM (.str (S t)) (vSs ps)=some (ps.contains t):=by
  show (gP (ps.map fun p=>V.str (S p))).map (·.contains (S t))=_
  rw [allStr_S,Option.map_some,contains_S]
 rw [e]
 show (match cmp0 .In (V.str (S t)) (vSs ps) with | some b=>M.ret (V.bool b) | none=>(match isInM (.str (S t)) (vSs ps) with | some b=>M.ret (.bool b) | none=>M.stuck)) σ=_
 have e3:cmp0 .In (V.str (S t)) (vSs ps)=none:=rfl
 rw [e3,e2]
 exact bF
 walk_at "z"
theorem sjoin_S:∀ ps:List (List Nat),Str.join (S []) (ps.map S)=S ps.flatten
 | []=>rfl
 | [p]=>by simp [Str.join]
 | p::q::r=>by
  show S p++S []++Str.join (S []) ((q::r).map S)=_
  rw [sjoin_S (q::r),S_app,S_app]
  simp
theorem join_Ss {K:Frag}{ps:List (List Nat)}{σ:St}(h:(ps.map (·.length)).sum+ps.length≤1000):bG K "str.join" [.str (S []),vSs ps] σ=some (some (.str (S ps.flatten)),σ):=by
 walk_at "a"
 have e0:bG K "str.join" [.str (S []),vSs ps]=bJoin [.str (S []),vSs ps]:=by unfold bG;rfl
 have e1:listAt σ (vSs ps)=some (ps.map fun p=>V.str (S p)):=rfl
 have e2:(ps.map S).map (·.length)=ps.map (·.length):=by
  rw [List.map_map]
  exact List.map_congr_left fun p _=>cD p
 rw [e0]
 have e5:bJoin [.str (S []),vSs ps] σ=on1 ((listAt σ (vSs ps)).bind gP) (fun ys=>if (S []).length≤16∧(ys.map (·.length)).sum+ys.length≤1048576 then some (some (.str (Txt.join (S []) ys)),σ) else none) none:=rfl
 rw [e5,e1,Option.bind_some,allStr_S]
 show (if (S []).length≤16∧((ps.map S).map (·.length)).sum+(ps.map S).length≤1048576 then some (some (V.str (Txt.join (S []) (ps.map S))),σ) else none)=_
 rw [e2,if_pos ⟨by decide,by rw [List.length_map];lia⟩]
 have e3:Txt.join (S []) (ps.map S)=S ps.flatten:=by
  show Builtin.Str.glued (S []) (ps.map S)=_
  rw [StrLaws.glued_eq_join,sjoin_S]
 rw [e3]
 walk_at "z"
theorem grp_len (b:List Nat):((grp b).map (·.length)).sum+(grp b).length≤b.length+1:=by
 walk_at "a"
 have:=PyProof.Rows.split_weight (S b) (S [95]) (by decide)
 rw [grp_S,List.map_map,List.length_map,cD] at this
 have e:(grp b).map ((·.length)∘S)=(grp b).map (·.length):=List.map_congr_left fun p _=>cD p
 rw [e] at this
 exact this
 walk_at "z"
theorem c_neL {vs:List V}{σ:St}:aY .NotEq (.lst vs) (.lst []) σ=some (some (.bool (!vs.isEmpty)),σ):=by
 cases vs with
 | nil=>exact c_neL0
 | cons v vs=>exact c_neL1
noncomputable def badV (B:Nat)(v:V):Bool:=match v with | .str t=>decide (aZ (lt t)≥(B:Int)) | _=>false
theorem bad_emp (B:Nat):∀ ds:List Nat,(((ds.map fun c=>V.str (S [c])).filter (badV B)).map id).isEmpty=ds.all fun c=>decide (aZ [c]<(B:Int))
 | []=>rfl
 | d::ds=>by
  have e:badV B (.str (S [d]))=decide (aZ [d]≥(B:Int)):=rfl
  rw [List.map_cons,List.filter_cons,List.all_cons,← bad_emp B ds,e]
  by_cases h:aZ [d]<(B:Int)
  ·rw [decide_eq_true h,decide_eq_false (by lia),if_neg (by decide),Bool.true_and]
  ·rw [decide_eq_false h,decide_eq_true (by lia),if_pos rfl,Bool.false_and]
   rfl
noncomputable def nV (o:Option Int):V:=match o with | some v=>.int v | none=>.none
theorem nV_n:nV none=.none:=rfl
theorem nV_s {v:Int}:nV (some v)=.int v:=rfl
section
variable {P:Params}{l s:List Nat}{i j k a m:Nat}{H:List aE}{ρ:List (Option V)}{Γ:CT}
noncomputable abbrev nSt (l:List Nat)(a:Nat)(r b g v x:Option V)(H:List aE):St:=⟨[some (.str (S l)),some (.int a),r,b,g,v,x],H⟩
theorem num_turn {B:Nat}{r b g:Option V}{v:Int}{c n:Nat}(hH:H[i]? = some (.cell (some (.int B))))(kW:aH Γ F.at_law_worth gZ)(hc:c∈cY)(hv:Sml n v)(hn:n≤15)(hB:B≤16) :
  fK (F.K P) Γ i (nSt l a r b g (some (.int v)) (some (.str (S [c]))) H)=some (some .next,nSt l a r b g (some (.int (v*B+aZ [c]))) (some (.str (S [c]))) H):=by
 walk_at "a"
 have q0:=fun ρ=>fT (ρ:=ρ) hH
 have q1:=worth_at (H:=H) (s:=[c]) kW (by simpa [okMs] using hc)
 have q2:=fun (σ:St)=>b_mulI (i:=v) (j:=(B:Int)) (σ:=σ) (hv.le hn) (by lia)
 unfold fK
 repeat walk_at "s"
 walk_at "z"
theorem num_loop {B:Nat}{r b g:Option V}(hH:H[i]? = some (.cell (some (.int B))))(kW:aH Γ F.at_law_worth gZ)(hB:B≤16):∀ (ds:List Nat) (n:Nat) (v:Int) (x:Option V),(∀ c∈ds,c∈cY∧aZ [c]<(B:Int))→Sml n v→n+ds.length≤15 →
  ∃ x',forM (aJ 6) (fK (F.K P) Γ i) (ds.map fun c=>V.str (S [c])) (nSt l a r b g (some (.int v)) x H)=some (some .next,nSt l a r b g (some (.int (ds.foldl (fun v c=>v*B+aZ [c]) v))) x' H)
 | [],n,v,x,_,_,_=>⟨x,for_nil⟩
 | c::ds,n,v,x,h,hv,hn=>by
  walk_at "a"
  have hc:=h c List.mem_cons_self
  rw [List.length_cons] at hn
  obtain ⟨x',e⟩:=num_loop hH kW hB ds (n+1) (v*B+aZ [c]) (some (.str (S [c]))) (fun d hd=>h d (List.mem_cons_of_mem _ hd)) (hv.up (worth_pos _) hc.2 hB) (by lia)
  refine ⟨x',?_⟩
  rw [List.map_cons,fF (σ1:=nSt l a r b g (some (.int v)) (some (.str (S [c]))) H) sv6 (num_turn hH kW hc.1 hv (by lia) hB) (.inl rfl)]
  exact e
  walk_at "z"
theorem run_lnum (hl0:l.length≤12)(ha:a≤l.length)(ho:okM l=true)(kD:aH Γ F.at_law_word p_lword)(kW:aH Γ F.at_law_worth gZ) :
  ∃ σ' o,eF (F.K P) Γ H.length (nSt l a none none none none none (H++[.cell none]))=some (some (.ret (nV (iC (l.drop a)))),σ')∧σ'.H=H++[o]:=by
 walk_at "a"
 have hl:l.length≤60:=by lia
 have hl2:l.length≤1000:=by lia
 generalize hs:l.drop a=s
 have hs12:s.length≤12:=by rw [← hs,List.length_drop];lia
 have hsl:s.length≤60:=by rw [← hs,List.length_drop];lia
 have hsm:∀ c∈s,c∈cY:=fun c hc=>okM_at ho (List.mem_of_mem_drop (by rw [hs];exact hc))
 have hwl:(s.takeWhile aG).length≤60:=Nat.le_trans (List.takeWhile_sublist aG).length_le hsl
 have hw2:(s.takeWhile aG).length≤1000:=by lia
 have hB16:=bsN_le s
 generalize hB:bsN s=B at hB16
 have h111:(s.takeWhile aG).take 2≠[48,111]:=by
  rw [Ne,take2 (by decide) (by decide)]
  intro h
  have:111∈s:=List.mem_of_mem_take (by rw [h];simp)
  have:=hsm _ this
  revert this;decide
 have hBi:(.int (if (s.takeWhile aG).take 2=[48,120] then 16 else if (s.takeWhile aG).take 2=[48,98] then 2 else 10):V)=.int (B:Int):=by
  rw [← hB]
  unfold bsN
  simp only [take2 (show aG 48=true by decide) (show aG 120=true by decide),take2 (show aG 48=true by decide) (show aG 98=true by decide)]
  repeat' split
  all_goals rfl
 have q0:=lword_at (H:=H++[.cell none]) kD hl ha ho
 rw [hs] at q0
 have q1:=fun σ=>getM_baseD (K:=F.K P) (σ:=σ)
 have q2:∀ σ,bM (.str (S (s.takeWhile aG))) .none (.int 2) σ=some (some (.str (S ((s.takeWhile aG).take 2))),σ):=fun σ=>sl_ns (b:=2) hw2
 have q3:=fun σ=>get_baseD (K:=F.K P) (σ:=σ) h111
 rw [hBi] at q3
 have q4:=fun ρ=>setCell_app (ρ:=ρ) (v:=.int (B:Int)) (H:=H++[aE.cell none]) (i:=H.length) (u:=none) (by simp)
 have ez:(H++[aE.cell none]).set H.length (.cell (some (.int (B:Int))))=H++[.cell (some (.int B))]:=by simp
 rw [ez] at q4
 have hcell:(H++[aE.cell (some (.int (B:Int)))])[H.length]? = some (.cell (some (.int B))):=by simp
 generalize hG:H++[aE.cell (some (.int (B:Int)))]=G at q4 hcell
 have q5:=fun ρ=>fT (ρ:=ρ) hcell
 have hpre:=word_pre s
 generalize hbd:bodyN s=bd at hpre
 have hbdl:bd.length≤60:=by rw [← hpre.1,List.length_drop];lia
 have hbm:∀ c∈bd,c∈cY:=fun c hc=>hsm c ((List.takeWhile_sublist aG).mem (List.mem_of_mem_drop (by rw [hpre.1];exact hc)))
 have q6:∀ ρ,bD ((B:Int)==10) (getVar 2) ((getVar 2).bind fun o19=>(M.ret (.int 2)).bind fun l20=>(M.ret .none).bind fun u21=>bM o19 l20 u21) ⟨some (.str (S l))::some (.int (a:Int))::some (.str (S (s.takeWhile aG)))::ρ,G⟩=some (some (.str (S bd)),⟨some (.str (S l))::some (.int (a:Int))::some (.str (S (s.takeWhile aG)))::ρ,G⟩):=fun ρ=>by
  by_cases h:B=10
  ·have f1:((B:Int)==10)=true:=by rw [h];rfl
   have e:s.takeWhile aG=bd:=by
    rw [← hpre.1];unfold iA;rw [hB,if_pos h];rfl
   rw [e,f1,if_t]
   exact gv2
  ·have f1:((B:Int)==10)=false:=by rw [beq_eq_false_iff_ne];lia
   have e:(s.takeWhile aG).drop 2=bd:=by
    rw [← hpre.1];unfold iA;rw [hB,if_neg h]
   have q7:∀ σ,bM (.str (S (s.takeWhile aG))) (.int 2) .none σ=some (some (.str (S bd)),σ):=fun σ=>by
    rw [← e]
    exact sl_sn (a:=2) hw2
   rw [f1,if_f]
   clear q0 q1 q2 q3 q4 q5
   repeat walk_at "s"
 have q7:=fun σ=>getM_split (K:=F.K P) (x:=S bd) (σ:=σ)
 have q8:=fun σ=>split_S (K:=F.K P) (b:=bd) (σ:=σ) (by lia)
 have q9:=fun σ=>in_Ss (K:=F.K P) (t:=[]) (ps:=grp bd) (σ:=σ)
 rw [grp_nil] at q9
 have q10:=fun σ=>getM_join (K:=F.K P) (x:=S []) (σ:=σ)
 have q11:∀ σ,bG (F.K P) "str.join" [.str (S []),vSs (grp bd)] σ=some (some (.str (S (fO bd))),σ):=fun σ=>by
  have:=join_Ss (K:=F.K P) (ps:=grp bd) (σ:=σ) (by have:=grp_len bd;lia)
  rw [grp_flat] at this
  exact this
 have q12:∀ σ,aY .NotEq (.lst ((((fO bd).map fun c=>V.str (S [c])).filter (badV B)).map id)) (.lst []) σ=some (some (.bool (!allD B bd)),σ):=fun σ=>by
  rw [c_neL,bad_emp];rfl
 have hdm:∀ c∈fO bd,c∈cY:=fun c hc=>hbm c (List.mem_filter.mp hc).1
 have hdd:allD B bd=true→∀ c∈fO bd,c∈cY∧aZ [c]<(B:Int):=fun h c hc=>⟨hdm c hc,by simpa using List.all_eq_true.mp h c hc⟩
 have hd12:(fO bd).length≤12:=by
  have h1:(fO bd).length≤bd.length:=(List.filter_sublist).length_le
  have h2:bd.length≤s.length:=by
   rw [← hpre.1,List.length_drop]
   have:=(List.takeWhile_sublist aG (l:=s)).length_le
   lia
  lia
 have hdl:(fO bd).length≤60:=Nat.le_trans (List.filter_sublist).length_le hbdl
 have hcomp:∀ ρ,(∀ u∈(fO bd).map fun c=>V.str (S [c]),(((M.ret (.const F.at_law_worth)).bind fun f37=>aC (F.K P) Γ f37 [] ((M.ret u).bind fun v35=>(M.ret []).bind fun w36=>M.ret (v35::w36))).bind fun x38=>(cV H.length).bind fun y39=>(aY .GtE x38 y39).bind bI) ⟨ρ,G⟩=some (some (badV B u),⟨ρ,G⟩)):=fun ρ u hu=>by
  obtain ⟨c,hc,rfl⟩:=List.mem_map.mp hu
  clear q0 q1 q2 q3 q4 q6 q7 q8 q9 q10 q11 q12
  have q0:=worth_at (H:=G) (s:=[c]) kW (by simpa [okMs] using hdm c hc)
  show _=some (some (decide (aZ [c]≥(B:Int))),(⟨ρ,G⟩:St))
  repeat walk_at "s"
 by_cases hok:okU true bd=true
 ·have f2:(!okU true bd)=false:=by rw [hok];rfl
  by_cases hal:allD B bd=true
  ·have f3:(!allD B bd)=false:=by rw [hal];rfl
   have hokN:okN s=true:=by unfold okN;rw [hbd,hB,hok,hal];rfl
   have hwn:aW s=(s.takeWhile aG).length:=rfl
   have sls:∀ (x y:Nat) (u v:Int) σ,u=(x:Int)→v=(y:Int)→bM (.str (S l)) (.int u) (.int v) σ=some (some (.str (S ((l.drop x).take (y-x)))),σ):=fun x y u v σ hu hv=>by
    subst hu hv
    rw [sl_ss hl2,List.drop_take]
   have q13:=fun σ=>sls (a+aW s) (a+aW s+1) ((a:Int)+((s.takeWhile aG).length:Int)) ((a:Int)+((s.takeWhile aG).length:Int)+1) σ (by lia) (by lia)
   have q14:=fun σ=>sls (a+aW s+1) (a+aW s+2) ((a:Int)+((s.takeWhile aG).length:Int)+1) ((a:Int)+((s.takeWhile aG).length:Int)+2) σ (by lia) (by lia)
   rw [show a+aW s+1-(a+aW s)=1 by lia,← List.drop_drop,hs] at q13
   rw [show a+aW s+2-(a+aW s+1)=1 by lia,show a+aW s+1=a+(aW s+1) by lia,← List.drop_drop,hs] at q14
   have hokm:okMs ((s.drop (aW s+1)).take 1)=true:=by
    cases hd:s.drop (aW s+1) with
    | nil=>rfl
    | cons c r=>simpa [okMs] using hsm c (List.mem_of_mem_drop (by rw [hd];exact List.mem_cons_self))
   have q15:=worth_at (H:=G) kW hokm
   by_cases hp1:(s.drop (aW s)).take 1=[46]
   ·have f4:(S ((s.drop (aW s)).take 1)==S [46])=true:=eQ hp1
    by_cases hp2:aZ ((s.drop (aW s+1)).take 1)<10
    ·have f5:decide (aZ ((s.drop (aW s+1)).take 1)<10)=true:=decide_eq_true hp2
     have hn:iC s=none:=by
      unfold iC dotN
      rw [hokN,hp1,f5];rfl
     refine ⟨nSt l a (some (.str (S (s.takeWhile aG)))) (some (.str (S bd))) (some (vSs (grp bd))) none none G,.cell (some (.int B)),?_,hG.symm⟩
     rw [hn,nV_n]
     unfold eF
     rw [w_e,w_u,w_p]
     repeat walk_at "s"
     refine lc_run (σ1:=nSt l a (some (.str (S (s.takeWhile aG)))) (some (.str (S bd))) (some (vSs (grp bd))) none none G) (L:=(fO bd).map fun c=>V.str (S [c])) (v:=.str (S (fO bd))) (f:=badV B) (g:=id) ?_ rfl (by rw [List.length_map];lia) (hcomp _) (fun u _=>bF)
     ·repeat walk_at "s"
     repeat walk_at "s"
    ·have f5:decide (aZ ((s.drop (aW s+1)).take 1)<10)=false:=decide_eq_false hp2
     have hn:iC s=some (valD B 0 bd):=by
      unfold iC dotN
      rw [hokN,hp1,f5,hbd,hB];rfl
     obtain ⟨x',e⟩:=num_loop (r:=some (.str (S (s.takeWhile aG)))) (b:=some (.str (S bd))) (g:=some (vSs (grp bd))) (P:=P) (Γ:=Γ) (l:=l) (a:=a) hcell kW hB16 (fO bd) 0 0 none (hdd hal) ⟨by decide,by decide⟩ (by lia)
     rw [show (fO bd).foldl (fun v c=>v*(B:Int)+aZ [c]) 0=valD B 0 bd from rfl] at e
     refine ⟨nSt l a (some (.str (S (s.takeWhile aG)))) (some (.str (S bd))) (some (vSs (grp bd))) (some (.int (valD B 0 bd))) x' G,.cell (some (.int B)),?_,hG.symm⟩
     rw [hn,nV_s]
     unfold eF
     rw [w_e,w_u,w_p]
     repeat walk_at "s"
     refine lc_run (σ1:=nSt l a (some (.str (S (s.takeWhile aG)))) (some (.str (S bd))) (some (vSs (grp bd))) none none G) (L:=(fO bd).map fun c=>V.str (S [c])) (v:=.str (S (fO bd))) (f:=badV B) (g:=id) ?_ rfl (by rw [List.length_map];lia) (hcomp _) (fun u _=>bF)
     ·repeat walk_at "s"
     repeat walk_at "s"
     ·show (match itsStr (nSt l a (some (.str (S (s.takeWhile aG)))) (some (.str (S bd))) (some (vSs (grp bd))) (some (.int 0)) none G) (V.str (S (fO bd))) with | some items=>forM (aJ 6) (fK (F.K P) Γ H.length) items (nSt l a (some (.str (S (s.takeWhile aG)))) (some (.str (S bd))) (some (vSs (grp bd))) (some (.int 0)) none G) | none=>none)=_
      exact e
     repeat walk_at "s"
   ·have f4:(S ((s.drop (aW s)).take 1)==S [46])=false:=cN hp1
    have hn:iC s=some (valD B 0 bd):=by
     have:((s.drop (aW s)).take 1==[46])=false:=beq_eq_false_iff_ne.mpr hp1
     unfold iC dotN
     rw [hokN,this,hbd,hB];rfl
    obtain ⟨x',e⟩:=num_loop (r:=some (.str (S (s.takeWhile aG)))) (b:=some (.str (S bd))) (g:=some (vSs (grp bd))) (P:=P) (Γ:=Γ) (l:=l) (a:=a) hcell kW hB16 (fO bd) 0 0 none (hdd hal) ⟨by decide,by decide⟩ (by lia)
    rw [show (fO bd).foldl (fun v c=>v*(B:Int)+aZ [c]) 0=valD B 0 bd from rfl] at e
    refine ⟨nSt l a (some (.str (S (s.takeWhile aG)))) (some (.str (S bd))) (some (vSs (grp bd))) (some (.int (valD B 0 bd))) x' G,.cell (some (.int B)),?_,hG.symm⟩
    rw [hn,nV_s]
    unfold eF
    rw [w_e,w_u,w_p]
    repeat walk_at "s"
    refine lc_run (σ1:=nSt l a (some (.str (S (s.takeWhile aG)))) (some (.str (S bd))) (some (vSs (grp bd))) none none G) (L:=(fO bd).map fun c=>V.str (S [c])) (v:=.str (S (fO bd))) (f:=badV B) (g:=id) ?_ rfl (by rw [List.length_map];lia) (hcomp _) (fun u _=>bF)
    ·repeat walk_at "s"
    repeat walk_at "s"
    ·show (match itsStr (nSt l a (some (.str (S (s.takeWhile aG)))) (some (.str (S bd))) (some (vSs (grp bd))) (some (.int 0)) none G) (V.str (S (fO bd))) with | some items=>forM (aJ 6) (fK (F.K P) Γ H.length) items (nSt l a (some (.str (S (s.takeWhile aG)))) (some (.str (S bd))) (some (vSs (grp bd))) (some (.int 0)) none G) | none=>none)=_
     exact e
    repeat walk_at "s"
  ·have f3:(!allD B bd)=true:=by rw [Bool.eq_false_iff.mpr hal];rfl
   have hn:iC s=none:=by
    unfold iC okN
    rw [hbd,hB,Bool.eq_false_iff.mpr hal,Bool.and_false];rfl
   refine ⟨nSt l a (some (.str (S (s.takeWhile aG)))) (some (.str (S bd))) (some (vSs (grp bd))) none none G,.cell (some (.int B)),?_,hG.symm⟩
   rw [hn,nV_n]
   unfold eF
   rw [w_e,w_u,w_p]
   repeat walk_at "s"
   refine lc_run (σ1:=nSt l a (some (.str (S (s.takeWhile aG)))) (some (.str (S bd))) (some (vSs (grp bd))) none none G) (L:=(fO bd).map fun c=>V.str (S [c])) (v:=.str (S (fO bd))) (f:=badV B) (g:=id) ?_ rfl (by rw [List.length_map];lia) (hcomp _) (fun u _=>bF)
   ·repeat walk_at "s"
   repeat walk_at "s"
 ·have f2:(!okU true bd)=true:=by rw [Bool.eq_false_iff.mpr hok];rfl
  have hn:iC s=none:=by
   unfold iC okN
   rw [hbd,Bool.eq_false_iff.mpr hok,Bool.false_and];rfl
  refine ⟨nSt l a (some (.str (S (s.takeWhile aG)))) (some (.str (S bd))) (some (vSs (grp bd))) none none G,.cell (some (.int B)),?_,hG.symm⟩
  rw [hn,nV_n]
  unfold eF
  rw [w_e,w_u,w_p]
  repeat walk_at "s"
 walk_at "z"
end
end Mine
end
section
namespace Mine
theorem fin_menu:∀ c∈cY,digL.contains c=true∧dgv [c]=aZ [c]∧lowC c=c∧isd [c]=decide (aZ [c]<10)∧c≠111:=by decide
theorem okMs_Dg {s:List Nat}(h:okMs s=true):okDg s=true:=by
 match s,h with
 | [],_=>rfl
 | [c],h=>exact (fin_menu c (by simpa [okMs] using h)).1
theorem dgv_w {s:List Nat}(h:okMs s=true):dgv s=aZ s:=by
 match s,h with
 | [],_=>rfl
 | [c],h=>exact (fin_menu c (by simpa [okMs] using h)).2.1
theorem isd_w {s:List Nat}(h:okMs s=true):isd s=decide (aZ s<10):=by
 match s,h with
 | [],_=>rfl
 | [c],h=>exact (fin_menu c (by simpa [okMs] using h)).2.2.2.1
theorem low_m {s:List Nat}(h:okMs s=true):Txt.lower (S s)=S s:=by
 match s,h with
 | [],_=>rfl
 | [c],h =>
  have h1:c∈cY:=by simpa [okMs] using h
  have h2:=fin_menu c h1
  rw [fin_low c (by simpa using h2.1),h2.2.2.1]
theorem take_okMs {s:List Nat}(h:∀ c∈s,c∈cY):okMs (s.take 1)=true:=by
 match s,h with
 | [],_=>rfl
 | c::r,h=>simpa [okMs] using h c List.mem_cons_self
noncomputable def basT:List (Str×V):=[(S [120],.int 16),(S [98],.int 2),(S [111],.int 8)]
theorem bas_tab (P:Params):tabK (F.K P) 80=some basT:=by kernel_rfl
theorem getM_bas {P:Params}{σ:St}:getM (F.K P) (Str.ofString "get") (.const 80) σ=some (some (.bi "dict.get",[.const 80]),σ):=by
 have e1:fN (F.K P) (.const 80)=some basT:=bas_tab P
 exact getM_tab e1 rfl rfl
theorem get_bas {P:Params}{t:List Nat}{σ:St}(h:t≠[111]):bG (F.K P) "dict.get" [.const 80,.str (S t)] σ=some (some (if t=[120] then .int 16 else if t=[98] then .int 2 else .none),σ):=by
 walk_at "a"
 have e0:bG (F.K P) "dict.get" [.const 80,.str (S t)]=bGet (F.K P) [.const 80,.str (S t)]:=by unfold bG;rfl
 have e1:fN (F.K P) (.const 80)=some basT:=bas_tab P
 rw [e0]
 rw [bGet2 e1]
 have:(datumAt (S t) basT).getD .none=if t=[120] then .int 16 else if t=[98] then .int 2 else .none:=by
  unfold basT
  simp only [dat_L,dat_N]
  rw [if_neg h]
  repeat' split
  all_goals rfl
 rw [this,bF]
 walk_at "z"
noncomputable def bV (s:List Nat):V:=if s.take 2=[48,120] then .int 16 else if s.take 2=[48,98] then .int 2 else .none
theorem bV_cases (s:List Nat):(bV s=.none∧bsN s=10)∨(bV s=.int (bsN s:Int)∧bsN s≠10):=by
 walk_at "a"
 unfold bV bsN
 split
 ·exact .inr ⟨rfl,by decide⟩
 ·split
  ·exact .inr ⟨rfl,by decide⟩
  ·exact .inl ⟨rfl,rfl⟩
 walk_at "z"
theorem bV_0 {s:List Nat}(h:s.take 1≠[48]):bV s=.none:=by
 walk_at "a"
 have h1:∀ d,s.take 2≠[48,d]:=fun d e=>h (by
  match s,e with
  | x::y::r,e=>simp at e;rw [e.1];rfl)
 unfold bV
 rw [if_neg (h1 _),if_neg (h1 _)]
 walk_at "z"
theorem bV_1 {s:List Nat}(h:s.take 1=[48]):(if (s.drop 1).take 1=[120] then V.int 16 else if (s.drop 1).take 1=[98] then .int 2 else .none)=bV s:=by
 have h1:∀ d,s.take 2=[48,d]↔(s.drop 1).take 1=[d]:=fun d=>by
  match s,h with
  | [x],h=>simp
  | x::y::r,h=>simp at h;subst h;simp
 unfold bV
 simp only [h1]
theorem set_id {H:List aE}{i:Nat}{o:aE}(h:H[i]? = some o):H.set i o=H:=by
 walk_at "a"
 refine List.ext_getElem? fun x=>?_
 rw [List.getElem?_set]
 split
 ·rename_i q;subst q;rw [if_pos (List.getElem?_eq_some_iff.mp h).1,h]
 ·rfl
 walk_at "z"
theorem word_end (s:List Nat):∀ c r,s.drop (aW s)=c::r→aG c=false:=by
 walk_at "a"
 induction s with
 | nil=>intro c r h;cases h
 | cons d s ih =>
  intro c r h
  by_cases hd:aG d=true
  ·have:aW (d::s)=aW s+1:=by unfold aW;rw [List.takeWhile_cons,if_pos hd];rfl
   rw [this,List.drop_succ_cons] at h
   exact ih c r h
  ·have:aW (d::s)=0:=by unfold aW;rw [List.takeWhile_cons,if_neg hd];rfl
   rw [this,List.drop_zero] at h
   cases h
   simpa using hd
 walk_at "z"
section
variable {P:Params}{l s:List Nat}{i j k a m:Nat}{H:List aE}{ρ:List (Option V)}{Γ:CT}{rest:List (Str×V)}
noncomputable abbrev whSt (i B:Nat)(v:Int)(mm:Nat)(X:List aE):St:=⟨[some (.obj i),some (.int B),some (.int v),some (.int mm)],X⟩
section
variable (h0:Sc H i 479 l a m rest)(ho:okM l=true)(kS:aH Γ F.at_Scanner_sign eJ)(kD:aH Γ F.at_digit_value p_dgv)
include h0 ho kS kD
theorem wh_c {B mm b:Nat}{v:Int}(hB:B≤16)(hb:b≤100):dY (F.K P) Γ (whSt i B v mm (st1 H i 479 l rest b m))=some (some (decide (aZ ((l.drop b).take 1)<(B:Int))||((l.drop b).take 1==[95]&&(decide (0<mm)&&decide (aZ ((l.drop (b+1)).take 1)<(B:Int))))),whSt i B v mm (st1 H i 479 l rest b m)):=by
 walk_at "a"
 have h:Sc (st1 H i 479 l rest b m) i 479 l b m rest:=h0.put (by lia)
 have hm:∀ b,okMs ((l.drop b).take 1)=true:=fun b=>take_okMs fun c hc=>okM_at ho (List.mem_of_mem_drop hc)
 have q0:=fun ρ=>aT (ρ:=ρ) h (dP h.ok P) (by decide)
 have q1:=gC h kS
 have q2:=sign1 h kS
 have q3:=dgv_at (H:=st1 H i 479 l rest b m) kD (okMs_Dg (hm b))
 have q4:=dgv_at (H:=st1 H i 479 l rest b m) kD (okMs_Dg (hm (b+1)))
 rw [dgv_w (hm b)] at q3
 rw [dgv_w (hm (b+1))] at q4
 by_cases c1:aZ ((l.drop b).take 1)<(B:Int)
 ·have f1:decide (aZ ((l.drop b).take 1)<(B:Int))=true:=decide_eq_true c1
  rw [f1,Bool.true_or]
  unfold dY
  repeat walk_at "s"
 have f1:decide (aZ ((l.drop b).take 1)<(B:Int))=false:=decide_eq_false c1
 rw [f1,Bool.false_or]
 by_cases c2:(l.drop b).take 1=[95]
 ·have f2:(S ((l.drop b).take 1)==S [95])=true:=eQ c2
  have e2:((l.drop b).take 1==[95])=true:=by rw [c2];rfl
  rw [e2,Bool.true_and]
  by_cases c3:0<mm
  ·have f3:decide ((mm:Int)>0)=true:=decide_eq_true (by lia)
   rw [decide_eq_true c3,Bool.true_and]
   cases f4:decide (aZ ((l.drop (b+1)).take 1)<(B:Int))
   all_goals
    unfold dY
    rw [w_u]
    repeat walk_at "s"
  ·have f3:decide ((mm:Int)>0)=false:=decide_eq_false (by lia)
   rw [decide_eq_false c3,Bool.false_and]
   unfold dY
   rw [w_u]
   repeat walk_at "s"
 ·have f2:(S ((l.drop b).take 1)==S [95])=false:=cN c2
  have e2:((l.drop b).take 1==[95])=false:=beq_eq_false_iff_ne.mpr c2
  rw [e2,Bool.false_and]
  unfold dY
  rw [w_u]
  repeat walk_at "s"
 walk_at "z"
theorem wh_b1 {B mm b:Nat}{v:Int}(hb:b≤100)(hc:(l.drop b).take 1≠[95]){n:Nat}(hv:Sml n v)(hn:n≤15)(hB:B≤16):eW (F.K P) Γ (whSt i B v mm (st1 H i 479 l rest b m))=some (some .next,whSt i B (v*B+aZ ((l.drop b).take 1)) (mm+1) (st1 H i 479 l rest (b+1) m)):=by
 walk_at "a"
 have h:Sc (st1 H i 479 l rest b m) i 479 l b m rest:=h0.put (by lia)
 have hm:okMs ((l.drop b).take 1)=true:=take_okMs fun c hc=>okM_at ho (List.mem_of_mem_drop hc)
 have q0:=fun ρ=>aT (ρ:=ρ) h (dP h.ok P) (by decide)
 have q1:=gC h kS
 have q3:=dgv_at (H:=st1 H i 479 l rest b m) kD (okMs_Dg hm)
 rw [dgv_w hm] at q3
 have f1:(S ((l.drop b).take 1) != S [95])=true:=bne_n hc
 have q4:=fun ρ=>bZ (ρ:=ρ) (P:=P) h.ok h.at_
 have q5:=fun ρ=>place1 (ρ:=ρ) (P:=P) h
 rw [st1_i] at q5
 have q6:=fun (σ:St)=>b_mulI (i:=v) (j:=(B:Int)) (σ:=σ) (hv.le hn) (by lia)
 show _=some (some Fl.next,(⟨[some (.obj i),some (.int B),some (.int (v*B+aZ ((l.drop b).take 1))),some (.int ((mm:Int)+1))],st1 H i 479 l rest (b+1) m⟩:St))
 unfold eW
 rw [w_u]
 repeat walk_at "s"
 walk_at "z"
theorem wh_b2 {B mm b:Nat}{v:Int}(hb:b≤100)(hc:(l.drop b).take 1=[95]):eW (F.K P) Γ (whSt i B v mm (st1 H i 479 l rest b m))=some (some .next,whSt i B v mm (st1 H i 479 l rest (b+1) m)):=by
 walk_at "a"
 have h:Sc (st1 H i 479 l rest b m) i 479 l b m rest:=h0.put (by lia)
 have q0:=fun ρ=>aT (ρ:=ρ) h (dP h.ok P) (by decide)
 have q1:=gC h kS
 have f1:(S ((l.drop b).take 1) != S [95])=false:=bne_q hc
 have q4:=fun ρ=>bZ (ρ:=ρ) (P:=P) h.ok h.at_
 have q5:=fun ρ=>place1 (ρ:=ρ) (P:=P) h
 rw [st1_i] at q5
 unfold eW
 rw [w_u]
 repeat walk_at "s"
 walk_at "z"
theorem wh_loop {B:Nat}(hB:B≤16):∀ (n b mm:Nat) (v:Int) (q:Nat),(l.drop b).length<n→b≤100→Sml q v→q+(l.drop b).length≤15→cW n (dY (F.K P) Γ) (eW (F.K P) Γ) (whSt i B v mm (st1 H i 479 l rest b m))=some (some .next,whSt i B (lp B v mm (l.drop b)).1 (lp B v mm (l.drop b)).2.1 (st1 H i 479 l rest (b+(lp B v mm (l.drop b)).2.2) m)):=by
 walk_at "a"
 intro n
 induction n with
 | zero=>intro b mm v q hn;lia
 | succ n ih =>
  intro b mm v q hn hb hv hq
  have hc:=wh_c (P:=P) (mm:=mm) (v:=v) h0 ho kS kD hB hb
  cases hs:l.drop b with
  | nil =>
   have hd:l.drop (b+1)=[]:=by rw [← List.drop_drop,hs];rfl
   rw [hs,hd] at hc
   have e:decide (aZ ((([]:List Nat)).take 1)<(B:Int))=false:=decide_eq_false (by show ¬ (99:Int)<B;lia)
   rw [e] at hc
   rw [dX hc]
   rfl
  | cons c r =>
   have hd:l.drop (b+1)=r:=(drop_cons hs).2.1
   have hbl:b+1≤100:=by have:=(drop_cons hs).2.2;have:=h0.hl;lia
   have tk:(c::r).take 1=[c]:=rfl
   rw [hs,hd,tk] at hc
   rw [hs] at hn hq
   rw [List.length_cons] at hq
   have hq':q+1+(l.drop (b+1)).length≤15:=by rw [hd];lia
   have hn':(l.drop (b+1)).length<n:=by rw [hd];simp at hn;lia
   by_cases c1:aZ [c]<(B:Int)
   ·rw [decide_eq_true c1,Bool.true_or] at hc
    have hb1:=wh_b1 (P:=P) (B:=B) (mm:=mm) (v:=v) h0 ho kS kD hb (by rw [hs,tk];simp;exact (dig_in hB c1).2) hv (by lia) hB
    rw [hs,tk] at hb1
    rw [dK hc hb1,ih (b+1) (mm+1) (v*B+aZ [c]) (q+1) hn' hbl (hv.up (worth_pos _) c1 hB) hq',hd,lp,if_pos c1]
    simp only [Nat.add_assoc,Nat.add_comm 1]
   ·rw [decide_eq_false c1,Bool.false_or] at hc
    by_cases c2:c=95∧0<mm∧aZ (r.take 1)<(B:Int)
    ·obtain ⟨rfl,c3,c4⟩:=c2
     rw [decide_eq_true c3,decide_eq_true c4] at hc
     have hb1:=wh_b2 (P:=P) (B:=B) (mm:=mm) (v:=v) h0 ho kS kD hb (by rw [hs,tk])
     rw [dK hc hb1,ih (b+1) mm v q hn' hbl hv (by lia),hd,lp,if_neg c1,if_pos ⟨rfl,c3,c4⟩]
     simp only [Nat.add_assoc,Nat.add_comm 1]
    ·have:([c]==[95]&&(decide (0<mm)&&decide (aZ (r.take 1)<(B:Int))))=false:=by
      by_cases d1:c=95
      ·by_cases d2:0<mm
       ·rw [decide_eq_false (fun q=>c2 ⟨d1,d2,q⟩),Bool.and_false,Bool.and_false]
       ·rw [decide_eq_false d2,Bool.false_and,Bool.and_false]
      ·rw [beq_eq_false_iff_ne.mpr (by simpa using d1),Bool.false_and]
     rw [this] at hc
     rw [dX hc,lp,if_neg c1,if_neg c2]
     rfl
 walk_at "z"
end
theorem ex_next {x y:M Fl}{σ σ1:St}{Q:Option Fl→St→Prop}(h:x σ=some (some .next,σ1))(k:∃ fl σ',y σ1=some (fl,σ')∧Q fl σ'):∃ fl σ',aF x y σ=some (fl,σ')∧Q fl σ':=by
 walk_at "a"
 obtain ⟨fl,σ',e,q⟩:=k
 exact ⟨fl,σ',gG h (gO e),q⟩
 walk_at "z"
noncomputable def whP (H:List aE)(i j:Nat)(l:List Nat)(a m:Nat)(rest:List (Str×V))(sp:Bool)(bg:Int)(fl:Option Fl)(σ:St):Prop:=match iC (l.drop a) with
 | some v=>fl=some .next∧σ.H=(st1 H i 479 l rest (a+aW (l.drop a)) m).set j (.list [.obj H.length])++[.inst 97 (dD (Str.ofString "int") v m sp bg)]
 | none=>fl=none∧∃ b,σ.H=st1 H i 479 l rest b m
theorem in_inn {u:List Nat}(h:u=[]∨∃ c,u=[c]∧aG c=false){σ:St}:cmpD (F.K P) .In (.str (S u)) (.const 122) σ=some (some (.bool false),σ):=by
 walk_at "a"
 rcases h with rfl | ⟨c,rfl,h⟩
 ·rw [in_inner0,bF]
 ·rw [in_inner,h,bF]
 walk_at "z"
theorem run_whole {sp:Bool}{bg:Int}(hw:LexW rest j sp bg)(h0:Sc H i 479 l a m rest)(hj:H[j]? = some (.list []))(hij:i≠j)(hl:l.length≤12)(ha:a≤l.length)(ho:okM l=true)
  (kS:aH Γ F.at_Scanner_sign eJ) (kD:aH Γ F.at_digit_value p_dgv) (kI:aH Γ F.at_is_digit p_isd) (kF:aH Γ 182 (failP (F.K P))) (kP:aH Γ F.at_Lexer_put p_put) :
  ∃ fl σ',x_Lexer_whole (F.K P) Γ ⟨[some (.obj i),none,none,none],H⟩=some (fl,σ')∧whP H i j l a m rest sp bg fl σ':=by
 walk_at "a"
 generalize hs:l.drop a=s
 have hs12:s.length≤12:=by rw [← hs,List.length_drop];lia
 have hsm:∀ c∈s,c∈cY:=fun c hc=>okM_at ho (List.mem_of_mem_drop (by rw [hs];exact hc))
 have hm:∀ b,okMs ((l.drop b).take 1)=true:=fun b=>take_okMs fun c hc=>okM_at ho (List.mem_of_mem_drop hc)
 have hH:st1 H i 479 l rest a m=H:=set_id h0.at_
 have w0:Str.ofString "0"=S [48]:=by decide
 have p0:=fun ρ=>aT (ρ:=ρ) h0 (dP h0.ok P) (by decide)
 have p1:=gC h0 kS
 rw [hs] at p1
 have p2:=sign1 h0 kS
 have hd1:l.drop (a+1)=s.drop 1:=by rw [← hs,List.drop_drop]
 rw [hd1] at p2
 have hm1:okMs ((s.drop 1).take 1)=true:=by rw [← hd1];exact hm _
 have hpre:=pre_le s
 have hst:∀ b≤100,Sc (st1 H i 479 l rest b m) i 479 l b m rest:=fun b hb=>h0.put (by lia)
 unfold x_Lexer_whole
 rw [w0,w_p]
 refine ex_next (σ1:=⟨[some (.obj i),some (bV s),none,none],H⟩) ?_ ?_
 ·have q0:=p0
  have q1:=p1
  by_cases c1:s.take 1=[48]
  ·have f1:(S (s.take 1)==S [48])=true:=eQ c1
   have q2:=p2
   have q3:=fun σ=>getM_lower (K:=F.K P) (x:=S ((s.drop 1).take 1)) (σ:=σ)
   have q4:∀ σ,bG (F.K P) "str.lower" [.str (S ((s.drop 1).take 1))] σ=some (some (.str (S ((s.drop 1).take 1))),σ):=fun σ=>by
    have:=low_S (K:=F.K P) (x:=S ((s.drop 1).take 1)) (σ:=σ) (by rw [cD,List.length_take];lia)
    rw [low_m hm1] at this
    exact this
   have q5:=fun σ=>getM_bas (P:=P) (σ:=σ)
   have q6:=fun σ=>get_bas (P:=P) (t:=(s.drop 1).take 1) (σ:=σ) (by
    intro e
    rw [e] at hm1
    revert hm1;decide)
   rw [bV_1 c1] at q6
   repeat walk_at "s"
  ·have f1:(S (s.take 1)==S [48])=false:=cN c1
   rw [bV_0 c1]
   repeat walk_at "s"
 refine ex_next (σ1:=⟨[some (.obj i),some (bV s),none,none],st1 H i 479 l rest (a+iA s) m⟩) ?_ ?_
 ·rcases bV_cases s with ⟨e1,e2⟩ | ⟨e1,e2⟩
  ·have:iA s=0:=by unfold iA;rw [if_pos e2]
   rw [this,Nat.add_zero,hH,e1]
   repeat walk_at "s"
  ·have:iA s=2:=by unfold iA;rw [if_neg e2]
   rw [this,e1]
   have q0:=fun ρ=>bZ (ρ:=ρ) (P:=P) h0.ok h0.at_
   have q1:=fun ρ=>place2 (ρ:=ρ) (P:=P) h0
   repeat walk_at "s"
 have hB16:=bsN_le s
 refine ex_next (σ1:=whSt i (bsN s) 0 0 (st1 H i 479 l rest (a+iA s) m)) ?_ ?_
 ·have ea:∀ X,whSt i (bsN s) 0 0 X=⟨[some (.obj i),some (.int (bsN s:Int)),some (.int 0),some (.int 0)],X⟩:=fun X=>rfl
  rw [ea]
  rcases bV_cases s with ⟨e1,e2⟩ | ⟨e1,e2⟩
  ·rw [e1,e2]
   show _=some (some Fl.next,(⟨[some (.obj i),some (.int 10),some (.int 0),some (.int 0)],st1 H i 479 l rest (a+iA s) m⟩:St))
   repeat walk_at "s"
  ·rw [e1]
   repeat walk_at "s"
 have hdp:l.drop (a+iA s)=s.drop (iA s):=by rw [← hs,List.drop_drop]
 have hlp:=wh_loop (P:=P) (i:=i) h0 ho kS kD hB16 100 (a+iA s) 0 0 0 (by rw [List.length_drop];lia) (by lia) ⟨by decide,by decide⟩ (by rw [List.length_drop];lia)
 rw [hdp] at hlp
 have hz:=lp_zero hB16 (s.drop (iA s))
 generalize hlv:lp (bsN s) 0 0 (s.drop (iA s))=r at hlp hz
 obtain ⟨v,mm,kk⟩:=r
 simp only at hlp hz
 refine ex_next hlp ?_
 clear hlp hlv
 have hkb:a+iA s+kk≤100:=by
  have:=hz.2.2
  rw [List.length_drop] at this
  lia
 have h1:=hst _ hkb
 have hmk:=hm (a+iA s+kk)
 have hmk1:=hm (a+iA s+kk+1)
 have p0:=fun ρ=>aT (ρ:=ρ) h1 (dP h1.ok P) (by decide)
 have p1:=gC h1 kS
 have p2:=fun ρ=>aT (ρ:=ρ) h1 (m_fail h1.ok P) (by decide)
 have p3:=fun x=>fail1 h1 kF x
 have p4:∀ σ,cR (F.K P) (Str.ofString "inner") (.const 128) σ=some (some (.const 122),σ):=fun σ=>get_inner
 have hdk:l.drop (a+iA s+kk)=(s.drop (iA s)).drop kk:=by rw [← hs,List.drop_drop,List.drop_drop,Nat.add_assoc]
 by_cases hok:okN s=true
 ·obtain ⟨g1,g2,g3⟩:=hz.1 hok
  have hkw:iA s+kk=aW s:=by rw [g2];exact (word_pre s).2.symm
  have eb:a+iA s+kk=a+aW s:=by lia
  rw [eb] at p0 p1 p2 p3 hmk hmk1 h1 ⊢
  have hdw:l.drop (a+aW s)=s.drop (aW s):=by rw [← hs,List.drop_drop]
  have hdw1:l.drop (a+aW s+1)=s.drop (aW s+1):=by rw [← hs,List.drop_drop];congr 1
  have f1:((mm:Int)==0)=false:=beq_eq_false_iff_ne.mpr (by lia)
  have p5:=fun σ=>in_inn (P:=P) (u:=(s.drop (aW s)).take 1) (σ:=σ) (by
   cases hw:s.drop (aW s) with
   | nil=>exact .inl rfl
   | cons c r=>exact .inr ⟨c,rfl,word_end s c r hw⟩)
  rw [hdw] at p1
  refine ex_next (σ1:=whSt i (bsN s) v mm (st1 H i 479 l rest (a+aW s) m)) ?_ ?_
  ·have q0:=p0
   have q1:=p1
   have q4:=p4
   have q5:=p5
   repeat walk_at "s"
  have p6:=sign1 h1 kS
  rw [hdw1] at p6 hmk1
  have p7:=isd_at (H:=st1 H i 479 l rest (a+aW s) m) kI (okMs_Dg hmk1)
  rw [isd_w hmk1] at p7
  have hnv:v=valD (bsN s) 0 (bodyN s):=g1
  cases hdt:dotN s with
  | true =>
   have hn:iC s=none:=by unfold iC;rw [hok,hdt];rfl
   unfold dotN at hdt
   rw [Bool.and_eq_true,beq_iff_eq] at hdt
   have f2:(S ((s.drop (aW s)).take 1)==S [46])=true:=eQ hdt.1
   have f3:=hdt.2
   refine ⟨none,whSt i (bsN s) v mm (st1 H i 479 l rest (a+aW s) m),?_,?_⟩
   ·have q0:=p0
    have q1:=p1
    have q2:=p2
    have q3:=p3
    have q6:=p6
    have q7:=p7
    repeat walk_at "s"
   ·unfold whP
    rw [hs,hn]
    exact ⟨rfl,_,rfl⟩
  | false =>
   have hn:iC s=some (valD (bsN s) 0 (bodyN s)):=by unfold iC;rw [hok,hdt];rfl
   refine ex_next (σ1:=whSt i (bsN s) v mm (st1 H i 479 l rest (a+aW s) m)) ?_ ?_
   ·have q0:=p0
    have q1:=p1
    have q6:=p6
    have q7:=p7
    unfold dotN at hdt
    by_cases hp1:(s.drop (aW s)).take 1=[46]
    ·have f2:(S ((s.drop (aW s)).take 1)==S [46])=true:=eQ hp1
     have f3:decide (aZ ((s.drop (aW s+1)).take 1)<10)=false:=by rw [hp1] at hdt;simpa using hdt
     repeat walk_at "s"
    ·have f2:(S ((s.drop (aW s)).take 1)==S [46])=false:=cN hp1
     repeat walk_at "s"
   ·have hXj:(st1 H i 479 l rest (a+aW s) m)[j]? = some (.list []):=by rw [fW (Ne.symm hij)];exact hj
    have q0:=fun ρ=>aT (ρ:=ρ) h1 (m_put P) (by decide)
    have q1:Γ F.at_Lexer_put [.obj i,.str (Str.ofString "int"),.int v] (st1 H i 479 l rest (a+aW s) m)=some (some .none,(st1 H i 479 l rest (a+aW s) m).set j (.list [.obj (st1 H i 479 l rest (a+aW s) m).length])++[.inst 97 (dD (Str.ofString "int") v m sp bg)]):=kP _ _ _ (by
     show dW f_put _ _=_
     rw [cG (f:=f_put) h1]
     exact f_put_at hw hXj)
    refine ⟨some .next,⟨[some (.obj i),some (.int (bsN s:Int)),some (.int v),some (.int mm)],(st1 H i 479 l rest (a+aW s) m).set j (.list [.obj (st1 H i 479 l rest (a+aW s) m).length])++[.inst 97 (dD (Str.ofString "int") v m sp bg)]⟩,?_,?_⟩
    ·repeat walk_at "s"
    ·unfold whP
     rw [hs,hn]
     refine ⟨rfl,?_⟩
     rw [← hnv]
     simp
 ·have hok:okN s=false:=by simpa using hok
  have hn:iC s=none:=by unfold iC;rw [hok];rfl
  refine ⟨none,whSt i (bsN s) v mm (st1 H i 479 l rest (a+iA s+kk) m),?_,?_⟩
  ·have q0:=p0
   have q1:=p1
   have q2:=p2
   have q3:=p3
   have q4:=p4
   by_cases hmm:mm=0
   ·have f1:((mm:Int)==0)=true:=by rw [hmm];rfl
    repeat walk_at "s"
   ·have f1:((mm:Int)==0)=false:=beq_eq_false_iff_ne.mpr (by lia)
    rcases hz.2.1 hok with h | ⟨c,r,h,hc⟩
    ·exact absurd h hmm
    ·rw [hdk,h] at q1
     have tk:(c::r).take 1=[c]:=rfl
     rw [tk] at q1
     have q5:∀ σ,cmpD (F.K P) .In (.str (S [c])) (.const 122) σ=some (some (.bool true),σ):=fun σ=>by rw [in_inner,hc,bF]
     repeat walk_at "s"
  ·unfold whP
   rw [hs,hn]
   exact ⟨rfl,_,rfl⟩
 walk_at "z"
end
end Mine
end
section
namespace Mine
theorem close_all {H H1:List aE}(h:∀ (x:Nat) (o:aE),H1[x]? = some o→H[x]? = some o∨o.fit H1.length=true):cX H H1 H1:=⟨Nat.le_refl _,fun j o' e=>.inr ⟨e,h j o' e⟩⟩
theorem comp_own {L:List V}{nx:Nat→St→Option (Option V)}{xt:V→M Bool}{xe:V→M V}{f:V→Bool}{g:V→V}{σ:St}(hnx:∀ i,nx i σ=if i≤L.length then some L[i]? else none)(ht:∀ u∈L,xt u σ=some (some (f u),σ))(he:∀ u∈L,xe u σ=some (some (g u),σ)) :
  ∀ (n i:Nat) (acc:List V),i≤L.length→L.length-i<n→iG nx xt xe n i acc σ=some (some (.lst (acc++((L.drop i).filter f).map g)),σ):=by
 walk_at "a"
 intro n
 induction n with
 | zero=>intro i acc _ h;lia
 | succ n ih =>
  intro i acc hi hn
  rw [iG]
  simp only [hnx,hi,if_true]
  by_cases hlt:i<L.length
  ·have hu:L[i]∈L:=List.getElem_mem hlt
   have hd:L.drop i=L[i]::L.drop (i+1):=List.drop_eq_getElem_cons hlt
   rw [List.getElem?_eq_getElem hlt]
   simp only
   rw [calm_val (ht _ hu)]
   cases hf:f L[i] with
   | true =>
    rw [if_pos rfl,calm_val (he _ hu),ih (i+1) _ (by lia) (by lia),hd]
    simp only [List.filter_cons,hf,if_true,List.map_cons,List.append_assoc,List.cons_append,List.nil_append]
   | false =>
    rw [if_neg (by decide),ih (i+1) _ (by lia) (by lia),hd]
    simp only [List.filter_cons,hf,Bool.false_eq_true,if_false]
  ·rw [List.getElem?_eq_none (by lia),List.drop_of_length_le (by lia)]
   simp
 walk_at "z"
theorem lc_own {L:List V}{j:Nat}{xi:M V}{xt:V→M Bool}{xe:V→M V}{f:V→Bool}{g:V→V}{σ σ1:St}(hi:xi σ=some (some (.obj j),σ1))(hL:σ1.H[j]? = some (.list L))(hlen:L.length<1000)(ht:∀ u∈L,xt u σ1=some (some (f u),σ1))(he:∀ u∈L,xe u σ1=some (some (g u),σ1)) :
  lcM xi nxsOwn xt xe σ=some (some (.lst ((L.filter f).map g)),σ1):=by
 walk_at "a"
 unfold lcM
 rw [M.bind_val hi]
 have e:nxsOwn σ1 (.obj j)=some (nxOwn j):=by
  show (match σ1.H[j]? with | some (.list _)=>some (nxOwn j) | _=>none)=_
  rw [hL]
 simp only [e]
 have hnx:∀ i,nxOwn j i σ1=if i≤L.length then some L[i]? else none:=fun i=>by
  unfold nxOwn
  simp only [hL]
  by_cases hq:i≤L.length
  ·rw [if_pos ⟨hq,by lia⟩,if_pos hq]
  ·rw [if_neg (fun h=>hq h.1),if_neg hq]
 rw [comp_own hnx ht he 1000 0 [] (by lia) (by lia)]
 simp
 walk_at "z"
section
variable {P:Params}{l s:List Nat}{i j k a m:Nat}{H:List aE}{ρ:List (Option V)}{Γ:CT}{rest:List (Str×V)}
noncomputable def g_whole (i:Nat)(C:Addr)(l:List Nat)(a ln:Nat)(rest:List (Str×V))(H:List aE)(j:Nat)(sp:Bool)(bg:Int):Option (Option V×List aE):=if C=479∧isNil H j=true∧i≠j∧a≤l.length∧l.length≤12∧okM l=true then (match iC (l.drop a) with
 | some v=>some (some .none,(st1 H i 479 l rest (a+aW (l.drop a)) ln).set j (.list [.obj H.length])++[.inst 97 (dD (Str.ofString "int") v ln sp bg)])
 | none=>some (none,H.set i .dT)) else none
noncomputable def f_whole:FC:=fun i C l a ln rest=>pN fun H=>lexW rest (g_whole i C l a ln rest H)
theorem f_whole_eq {C ln:Nat}:f_whole i C l a ln rest [] H=lexW rest (g_whole i C l a ln rest H):=by
 walk_at "a"
 unfold f_whole pN
 rfl
 walk_at "z"
noncomputable abbrev p_whole:=dW f_whole
theorem whole_close {i j:Nat}{o o2 o3:aE}(hjl:j<H.length)(hi:i<H.length)(f1:aE.fit (H.length+1) o=true)(f2:aE.fit (H.length+1) o2=true)(f3:aE.fit (H.length+1) o3=true):∀ (x:Nat) (u:aE),((H.set i o).set j o2++[o3])[x]? = some u→H[x]? = some u∨aE.fit (H.length+1) u=true:=by
 walk_at "a"
 exact fun x u hx=>by
  by_cases hx1:x<H.length
  ·rw [List.getElem?_append_left (by simpa using hx1)] at hx
   by_cases hxj:x=j
   ·subst hxj
    rw [List.getElem?_set_self (by simpa using hjl)] at hx
    obtain rfl:=Option.some.inj hx
    exact .inr f2
   ·rw [fW hxj] at hx
    by_cases hxi:x=i
    ·subst hxi
     rw [List.getElem?_set_self hi] at hx
     obtain rfl:=Option.some.inj hx
     exact .inr f1
    ·rw [fW hxi] at hx
     exact .inl hx
  ·rw [List.getElem?_append_right (by simpa using hx1)] at hx
   have:=List.mem_of_getElem? hx
   rw [List.mem_singleton] at this
   subst this
   exact .inr f3
 walk_at "z"
theorem whole_ok {prog:Program}{w:World}{sl:Addr}{sn:List Int}{n:Nat}(G:GOK prog w (KK w) (.ref 59) sl sn Γ n)(kS:aH Γ F.at_Scanner_sign eJ)(kD:aH Γ F.at_digit_value p_dgv)(kI:aH Γ F.at_is_digit p_isd)(kF:aH Γ 182 (failP (KK w)))(kP:aH Γ F.at_Lexer_put p_put) :
  GOK prog w (KK w) (.ref 59) sl sn (ov F.at_Lexer_whole p_whole Γ) (n+1):=by
 walk_at "a"
 refine ok_Lexer_whole G fun vs H r h0=>fD h0 fun i more C l a ln rest e0 hS h1x=>pN_e h1x fun e1 h2x=>lexW_e h2x fun j sp bg hw h3x=>fL h3x fun hq h4x=>?_
 subst e1 e0
 obtain ⟨rfl,hj,hij,ha,hl,ho⟩:=hq
 have hj:=isNil_eq hj
 obtain ⟨fl,σ',e,hP⟩:=run_whole (P:=w.params) (Γ:=Γ) hw hS hj hij hl ha ho kS kD kI kF kP
 have hi:=hS.lt
 have hjl:=(List.getElem?_eq_some_iff.mp hj).1
 unfold whP at hP
 cases hv:iC (l.drop a) with
 | some v =>
  rw [hv] at hP h4x
  obtain rfl:=Option.some.inj h4x
  obtain ⟨rfl,hH⟩:=hP
  refine .of (by simp) [.obj i] rfl rfl _ _ e (ends_next ?_)
  rw [hH]
  exact close_all fun x o hx=>(whole_close hjl hi (aE.fit_le (by simp) hS.fit) (by simp [aE.fit,V.fits,V.fit]) (by simp [dD,aE.fit,V.gR,V.fit]) x o hx).imp id fun h=>aE.fit_le (by simp) h
 | none =>
  rw [hv] at hP h4x
  obtain rfl:=Option.some.inj h4x
  obtain ⟨rfl,b,hH⟩:=hP
  refine .of (by simp) [.obj i] rfl rfl _ _ e (iO ?_)
  rw [hH]
  exact close_at (by simp) (fun x hx hxi=>fW hxi) (.inl rfl)
 walk_at "z"
noncomputable def p_lnum:PC:=pSI fun t x H=>if 0≤x∧x≤t.length∧t.length≤12∧okM (lt t)=true then some (some (nV (iC ((lt t).drop x.toNat))),H) else none
theorem lnum_at (k:aH Γ F.at_law_number p_lnum)(hl:l.length≤12)(ha:a≤l.length)(ho:okM l=true):Γ F.at_law_number [.str (S l),.int a] H=some (some (nV (iC (l.drop a))),H):=by
 walk_at "a"
 exact k _ _ _ (by
  show (if 0≤(a:Int)∧(a:Int)≤(S l).length∧(S l).length≤12∧okM (lt (S l))=true then some (some (nV (iC ((lt (S l)).drop (a:Int).toNat))),H) else none)=_
  rw [lt_S,if_pos ⟨by lia,by rw [cD];lia,by rw [cD];exact hl,ho⟩]
  rfl)
 walk_at "z"
theorem nV_fit {n:Nat}{o:Option Int}:V.fit n (nV o)=true:=by cases o<;>rfl
theorem lnum_ok {prog:Program}{w:World}{sl:Addr}{sn:List Int}{n:Nat}(G:GOK prog w (KK w) (.ref 59) sl sn Γ n)(kD:aH Γ F.at_law_word p_lword)(kW:aH Γ F.at_law_worth gZ) :
  GOK prog w (KK w) (.ref 59) sl sn (ov F.at_law_number p_lnum Γ) (n+1):=by
 walk_at "a"
 refine ok_law_number G fun vs H r h0=>pSI_e h0 fun t x e0 h1x=>fL h1x fun hq h2x=>?_
 subst e0
 obtain rfl:=Option.some.inj h2x
 have hlt:(lt t).length=t.length:=by simp [lt,Str.length]
 obtain ⟨σ',o,e,eH⟩:=run_lnum (P:=w.params) (Γ:=Γ) (H:=H) (l:=lt t) (a:=x.toNat) (by lia) (by lia) hq.2.2.2 kD kW
 have e2:((x.toNat:Nat):Int)=x:=by lia
 unfold nSt at e
 rw [S_lt,e2] at e
 refine .of (Nat.le_refl _) [.str t,.int x] rfl rfl _ _ e (cE ?_ (.same nV_fit))
 rw [eH]
 exact close_cut (by simp) (fun j hj=>List.getElem?_append_left hj)
 walk_at "z"
theorem m_whole (P:Params):eR (F.K P) 479 (Str.ofString "whole")=some F.at_Lexer_whole:=by kernel_rfl
noncomputable def lx3 (H:List aE)(l:List Nat)(b:Nat):List aE:=H++[aP 479 l b 1 (gF (H.length+1) (H.length+2)),.list [],.list []]
theorem lx3_sc (hl:l.length≤60){b:Nat}(hb:b≤100):Sc (lx3 H l b) H.length 479 l b 1 (gF (H.length+1) (H.length+2)) :=
 ⟨by simp [lx3],.inr (.inr rfl),hl,by lia,by simp [gF],.inr rfl,by simp [lx3,gF,V.gR,V.fit]⟩
theorem lx3_set {b b':Nat}:(lx3 H l b).set H.length (aP 479 l b' 1 (gF (H.length+1) (H.length+2)))=lx3 H l b':=by simp [lx3]
theorem isi_b {K:Frag}{v:Int}{σ:St}:bG K "isinstance" [.int v,.ty "bool"] σ=some (some (.bool false),σ):=by
 walk_at "a"
 have e0:bG K "isinstance" [.int v,.ty "bool"]=bIsi [.int v,.ty "bool"]:=by unfold bG;rfl
 rw [e0];cases σ;rfl
 walk_at "z"
theorem eq_kept {v:Int}{x:Str}{σ:St}:aY .Eq (.lst [.tup [.str x,.int v]]) (.lst [.tup [.str x,.int v]]) σ=some (some (.bool true),σ):=by
 walk_at "a"
 have e1:veq 1 (.str x) (.str x)=some true:=by show some (x==x)=_;rw [beq_self_eq_true]
 have e2:veq 1 (.int v) (.int v)=some true:=by show some (v==v)=_;rw [beq_self_eq_true]
 have e:veq 3 (.lst [.tup [.str x,.int v]]) (.lst [.tup [.str x,.int v]])=some true:=by
  show vall (veq 2) [.tup [.str x,.int v]] [.tup [.str x,.int v]]=_
  have e3:veq 2 (.tup [.str x,.int v]) (.tup [.str x,.int v])=some true:=by
   show vall (veq 1) [.str x,.int v] [.str x,.int v]=_
   simp only [vall,e1,e2]
   rfl
  simp only [vall,e3]
  rfl
 have e2:aY .Eq (.lst [.tup [.str x,.int v]]) (.lst [.tup [.str x,.int v]])=(match veq 3 (.lst [.tup [.str x,.int v]]) (.lst [.tup [.str x,.int v]]) with | some b=>M.ret (.bool b) | none=>M.stuck):=rfl
 rw [e2,e]
 exact bF
 walk_at "z"
noncomputable abbrev wrSt (l:List Nat)(a:Nat)(x2 x3 x4:Option V)(X:List aE):St:=⟨[some (.str (S l)),some (.int a),x2,x3,x4],X⟩
noncomputable def lx4 (H:List aE)(l:List Nat)(b:Nat)(v:Int):List aE:=H++[aP 479 l b 1 (gF (H.length+1) (H.length+2)),.list [.obj (H.length+3)],.list [],.inst 97 (dD (Str.ofString "int") v 1 true 0)]
theorem whole_at (k:aH Γ F.at_Lexer_whole p_whole)(hl:l.length≤12)(ha:a≤l.length)(ho:okM l=true):Γ F.at_Lexer_whole [.obj H.length] (lx3 H l a)=(match iC (l.drop a) with
  | some v=>some (some .none,lx4 H l (a+aW (l.drop a)) v)
  | none=>some (none,H++[.dT,.list [],.list []])):=by
 walk_at "a"
 have h1:=lx3_sc (H:=H) (l:=l) (b:=a) (by lia) (by lia)
 have hX:(lx3 H l a)[H.length+1]? = some (.list []):=by simp [lx3]
 have e:p_whole [.obj H.length] (lx3 H l a)=(match iC (l.drop a) with
  | some v=>some (some .none,lx4 H l (a+aW (l.drop a)) v)
  | none=>some (none,H++[.dT,.list [],.list []])):=by
  show dW f_whole _ _=_
  rw [cG (f:=f_whole) h1]
  rw [f_whole_eq,lexW_of (show LexW (gF (H.length+1) (H.length+2)) (H.length+1) true 0 from ⟨rfl,rfl,rfl⟩)]
  unfold g_whole
  rw [if_pos ⟨rfl,isNil_of hX,by lia,ha,hl,ho⟩]
  cases iC (l.drop a)<;>simp [lx3,lx4,gF,st1]
 cases hn:iC (l.drop a) with
 | none=>rw [hn] at e;exact k _ _ _ e
 | some v=>rw [hn] at e;exact k _ _ _ e
 walk_at "z"
theorem run_lwhole (hl:l.length≤12)(ha:a≤l.length)(ho:okM l=true)(kN:aH Γ 479 p_newL)(kW:aH Γ F.at_Lexer_whole p_whole)(kU:aH Γ F.at_law_number p_lnum)(kD:aH Γ F.at_law_word p_lword) :
  ∃ σ' T,dH (F.K P) Γ (wrSt l a none none none H)=some (some (.ret (.bool true)),σ')∧σ'.H=H++T:=by
 walk_at "a"
 have hl6:l.length≤60:=by lia
 have q0:Γ 479 [.str (S l),.int 1] H=some (some (.obj H.length),lx3 H l 0):=newL_at (H:=H) (m:=1) kN hl6 rfl
 have q1:=lnum_at (H:=lx3 H l 0) kU hl ha ho
 have h0:=lx3_sc (H:=H) (b:=0) hl6 (by lia)
 have q2:=fun ρ=>fV (ρ:=ρ) (P:=P) h0.ok (by simp [gF]) h0.at_ a
 rw [lx3_set] at q2
 have h1:=lx3_sc (H:=H) (b:=a) hl6 (by lia)
 have q3:=fun ρ=>aT (ρ:=ρ) h1 (m_whole P) (by decide)
 have q4:=whole_at (H:=H) kW hl ha ho
 cases hn:iC (l.drop a) with
 | none =>
  rw [hn] at q4 q1
  simp only at q4
  rw [nV_n] at q1
  refine ⟨wrSt l a (some (.obj H.length)) (some .none) none (H++[.dT,.list [],.list []]),[.dT,.list [],.list []],?_,rfl⟩
  have q5:tryM (eA (F.K P) Γ) (fC (F.K P) Γ) (wrSt l a (some (.obj H.length)) (some .none) none (lx3 H l a))=some (some (.ret (.bool true)),wrSt l a (some (.obj H.length)) (some .none) none (H++[.dT,.list [],.list []])):=by
   refine try_ex (σ1:=wrSt l a (some (.obj H.length)) (some .none) none (H++[.dT,.list [],.list []])) ?_ ?_
   ·unfold eA
    repeat walk_at "s"
   ·unfold fC
    repeat walk_at "s"
  unfold dH
  repeat walk_at "s"
 | some v =>
  rw [hn] at q4 q1
  simp only at q4
  rw [nV_s] at q1
  generalize hb:a+aW (l.drop a)=b at q4
  have hbl:b≤100:=by
   have:aW (l.drop a)≤(l.drop a).length:=(List.takeWhile_sublist aG).length_le
   rw [List.length_drop] at this
   lia
  have q5:tryM (eA (F.K P) Γ) (fC (F.K P) Γ) (wrSt l a (some (.obj H.length)) (some (.int v)) none (lx3 H l a))=some (some .next,wrSt l a (some (.obj H.length)) (some (.int v)) none (lx4 H l b v)):=by
   refine try_ok ?_
   unfold eA
   repeat walk_at "s"
  have h2:(lx4 H l b v)[H.length]? = some (aP 479 l b 1 (gF (H.length+1) (H.length+2))):=by simp [lx4]
  have h3:(lx4 H l b v)[H.length+1]? = some (.list [.obj (H.length+3)]):=by simp [lx4]
  have h4:(lx4 H l b v)[H.length+3]? = some (.inst 97 (dD (Str.ofString "int") v 1 true 0)):=by simp [lx4]
  have q6:=fun ρ=>get_any (P:=P) (ρ:=ρ) (v:=.obj (H.length+1)) lex_get.1 h2 rfl (by intro s hs;cases hs)
  have q7:=fun ρ=>get_any (P:=P) (ρ:=ρ) (v:=.str (Str.ofString "int")) tok_get.1 h4 rfl (by intro s hs;cases hs)
  have q8:=fun ρ=>get_any (P:=P) (ρ:=ρ) (v:=.int v) tok_get.2 h4 rfl (by intro s hs;cases hs)
  have q9:=fun σ=>eq_kept (v:=v) (x:=Str.ofString "int") (σ:=σ)
  have q10:=fun σ=>isi_b (K:=F.K P) (v:=v) (σ:=σ)
  have q11:=fun ρ=>bZ (P:=P) (ρ:=ρ) (C:=479) (.inr (.inr rfl)) h2
  have q12:=lword_at (H:=lx4 H l b v) kD hl6 ha ho
  have f1:((l.drop a).takeWhile aG).length≤1000:=by
   have:((l.drop a).takeWhile aG).length≤(l.drop a).length:=(List.takeWhile_sublist aG).length_le
   rw [List.length_drop] at this
   lia
  have f2:(!false)=true:=rfl
  have hlc:lcM ((getVar 2).bind (cR (F.K P) (Str.ofString "tokens"))) nxsOwn (fun v=>M.ret true) (fun v=>(((M.ret v).bind (cR (F.K P) (Str.ofString "kind"))).bind fun v27=>(((M.ret v).bind (cR (F.K P) (Str.ofString "value"))).bind fun v25=>(M.ret []).bind fun w26=>M.ret (v25::w26)).bind fun w28=>M.ret (v27::w28)).bind dR) (wrSt l a (some (.obj H.length)) (some (.int v)) none (lx4 H l b v))=some (some (.lst [.tup [.str (Str.ofString "int"),.int v]]),wrSt l a (some (.obj H.length)) (some (.int v)) none (lx4 H l b v)):=by
   refine lc_own (L:=[.obj (H.length+3)]) (j:=H.length+1) (f:=fun _=>true) (g:=fun _=>.tup [.str (Str.ofString "int"),.int v]) ?_ h3 (by simp) (fun _ _=>bF) ?_
   ·repeat walk_at "s"
   ·intro u hu
    rw [List.mem_singleton] at hu
    subst hu
    repeat walk_at "s"
  have q13:gY (lcM ((getVar 2).bind (cR (F.K P) (Str.ofString "tokens"))) nxsOwn (fun v=>M.ret true) (fun v=>(((M.ret v).bind (cR (F.K P) (Str.ofString "kind"))).bind fun v27=>(((M.ret v).bind (cR (F.K P) (Str.ofString "value"))).bind fun v25=>(M.ret []).bind fun w26=>M.ret (v25::w26)).bind fun w28=>M.ret (v27::w28)).bind dR)) (fun v=>(aJ 4 v).bind fun _=>M.ret Fl.next) (wrSt l a (some (.obj H.length)) (some (.int v)) none (lx4 H l b v))=some (some .next,wrSt l a (some (.obj H.length)) (some (.int v)) (some (.lst [.tup [.str (Str.ofString "int"),.int v]])) (lx4 H l b v)):=by
   rw [calm_val hlc]
   repeat walk_at "s"
  have key:dH (F.K P) Γ (wrSt l a none none none H)=some (some (.ret (.bool ((b:Int)==(a:Int)+(((l.drop a).takeWhile aG).length:Int)))),wrSt l a (some (.obj H.length)) (some (.int v)) (some (.lst [.tup [.str (Str.ofString "int"),.int v]])) (lx4 H l b v)):=by
   unfold dH
   repeat walk_at "s"
  have ef:((b:Int)==(a:Int)+(((l.drop a).takeWhile aG).length:Int))=true:=by
   rw [beq_iff_eq,← hb]
   show ((a+aW (l.drop a):Nat):Int)=(a:Int)+(aW (l.drop a):Int)
   lia
  rw [ef] at key
  exact ⟨_,[aP 479 l b 1 (gF (H.length+1) (H.length+2)),.list [.obj (H.length+3)],.list [],.inst 97 (dD (Str.ofString "int") v 1 true 0)],key,rfl⟩
 walk_at "z"
end
end Mine
end
section
namespace Mine
section
variable {P:Params}{l s:List Nat}{i j k a m:Nat}{H:List aE}{ρ:List (Option V)}{Γ:CT}{rest:List (Str×V)}
theorem lwhole_ok {prog:Program}{w:World}{sl:Addr}{sn:List Int}{n:Nat}(G:GOK prog w (KK w) (.ref 59) sl sn Γ n)(kN:aH Γ 479 p_newL)(kW:aH Γ F.at_Lexer_whole p_whole)(kU:aH Γ F.at_law_number p_lnum)(kD:aH Γ F.at_law_word p_lword) :
  GOK prog w (KK w) (.ref 59) sl sn (ov F.at_law_whole_right dQ Γ) (n+1):=by
 refine ok_law_whole_right G fun vs H r h0=>pSI_e h0 fun t x e0 h1x=>fL h1x fun hq h2x=>?_
 subst e0
 obtain rfl:=Option.some.inj h2x
 have hlt:(lt t).length=t.length:=by simp [lt,Str.length]
 obtain ⟨σ',T,e,eH⟩:=run_lwhole (P:=w.params) (Γ:=Γ) (H:=H) (l:=lt t) (a:=x.toNat) (by lia) (by lia) hq.2.2.2 kN kW kU kD
 have e2:((x.toNat:Nat):Int)=x:=by lia
 unfold wrSt at e
 rw [S_lt,e2] at e
 refine .of (Nat.le_refl _) [.str t,.int x] rfl rfl _ _ e (cE ?_ (.same rfl))
 rw [eH]
 exact close_cut (by simp) (fun j hj=>List.getElem?_append_left hj)
noncomputable def pick (r:Nat):Nat:=cY.getD (r % 100 % 20) 39
noncomputable def more:Nat→Nat→List Nat→List Nat
 | 0,_,f=>f
 | n+1,r,f=>if 100≤r∧f.length<12 then more n (r / 100) (f++[pick (r / 100)]) else f
noncomputable def cellF (f:List Nat)(x:Int):List Nat:=more 13 x.natAbs (f++[pick x.natAbs])
noncomputable def signsL (sn:List Int):List Nat:=if (sn.take 12).foldl cellF []=[] then [34,35,123,97,125,34] else ((sn.take 12).foldl cellF []).take 12
theorem pick_in (r:Nat):pick r∈cY:=by
 walk_at "a"
 unfold pick
 rw [List.getD_eq_getElem?_getD,List.getElem?_eq_getElem (show r % 100 % 20<cY.length from Nat.mod_lt _ (by decide))]
 exact List.getElem_mem _
 walk_at "z"
theorem more_ok:∀ (n r:Nat) (f:List Nat),(∀ c∈f,c∈cY)→∀ c∈more n r f,c∈cY
 | 0,_,f,h=>h
 | n+1,r,f,h=>by
  unfold more
  split
  ·refine more_ok n _ _ fun c hc=>?_
   rcases List.mem_append.mp hc with hc | hc
   ·exact h c hc
   ·rw [List.mem_singleton.mp hc];exact pick_in _
  ·exact h
theorem more_len:∀ (n r:Nat) (f:List Nat),(more n r f).length≤max f.length 12
 | 0,_,f=>by unfold more;lia
 | n+1,r,f=>by
  unfold more
  split
  ·rename_i h
   have:=more_len n (r / 100) (f++[pick (r / 100)])
   rw [List.length_append,List.length_singleton] at this
   lia
  ·lia
theorem fold_ok:∀ (xs:List Int) (f:List Nat),(∀ c∈f,c∈cY)→∀ c∈xs.foldl cellF f,c∈cY
 | [],f,h=>h
 | x::xs,f,h=>fold_ok xs _ (more_ok _ _ _ fun c hc=>by
  rcases List.mem_append.mp hc with hc | hc
  ·exact h c hc
  ·rw [List.mem_singleton.mp hc];exact pick_in _)
theorem signs_ok (sn:List Int):okM (signsL sn)=true∧(signsL sn).length≤12:=by
 walk_at "a"
 unfold signsL
 split
 ·exact ⟨by decide,by decide⟩
 ·refine ⟨List.all_eq_true.mpr fun c hc=>?_,by rw [List.length_take];lia⟩
  simpa using fold_ok _ [] (by simp) c (List.mem_of_mem_take hc)
 walk_at "z"
theorem addS_S {a b:List Nat}{σ:St}(h:a.length+b.length≤1000):bO .Add (.str (S a)) (.str (S b)) σ=some (some (.str (S (a++b))),σ):=by
 walk_at "a"
 rw [← S_app]
 exact b_addS (by rw [cD,cD];lia)
 walk_at "z"
theorem mod100 {n:Nat}{σ:St}:bO .Mod (.int (n:Int)) (.int 100) σ=some (some (.int ((n % 100:Nat):Int)),σ):=by
 walk_at "a"
 show ((if (100:Int)=100∨(100:Int)=20 then M.ret (.int ((n:Int).fmod 100)) else M.stuck:M V) σ)=_
 rw [if_pos (.inl rfl),bF,Int.fmod_eq_emod_of_nonneg _ (by decide)]
 rfl
 walk_at "z"
theorem mod20 {n:Nat}{σ:St}:bO .Mod (.int (n:Int)) (.int 20) σ=some (some (.int ((n % 20:Nat):Int)),σ):=by
 walk_at "a"
 show ((if (20:Int)=100∨(20:Int)=20 then M.ret (.int ((n:Int).fmod 20)) else M.stuck:M V) σ)=_
 rw [if_pos (.inr rfl),bF,Int.fmod_eq_emod_of_nonneg _ (by decide)]
 rfl
 walk_at "z"
theorem div100 {n:Nat}{σ:St}:bO .FloorDiv (.int (n:Int)) (.int 100) σ=some (some (.int ((n / 100:Nat):Int)),σ):=by
 walk_at "a"
 show ((if (100:Int)=100 then M.ret (.int ((n:Int).fdiv 100)) else M.stuck:M V) σ)=_
 rw [if_pos rfl,bF,Int.fdiv_eq_ediv_of_nonneg _ (by decide)]
 rfl
 walk_at "z"
theorem abs_I {K:Frag}{x:Int}{σ:St}:bG K "abs" [.int x] σ=some (some (.int (x.natAbs:Int)),σ):=by
 walk_at "a"
 have e0:bG K "abs" [.int x]=bAbs [.int x]:=by unfold bG;rfl
 have e1:(if x<0 then -x else x)=(x.natAbs:Int):=by split<;>lia
 rw [e0]
 show (M.ret (.int (if x<0 then -x else x)):M V) σ=_
 rw [bF,e1]
 walk_at "z"
theorem menu_at {r:Nat}{σ:St}:cU (.str (S cY)) (.int ((r % 100 % 20:Nat):Int)) σ=some (some (.str (S [pick r])),σ):=by
 walk_at "a"
 have h:r % 100 % 20<cY.length:=Nat.mod_lt _ (by decide)
 have h20:r % 100 % 20<20:=Nat.mod_lt _ (by decide)
 have e:(S cY).cps[(((r % 100 % 20:Nat):Int)).toNat]? = some (pick r):=by
  show cY.toArray[_]? = _
  rw [List.getElem?_toArray,Int.toNat_natCast,List.getElem?_eq_getElem h]
  unfold pick
  rw [List.getD_eq_getElem?_getD,List.getElem?_eq_getElem h]
  rfl
 rw [itemM_S,if_pos ⟨by lia,by lia⟩,e]
 exact bF
 walk_at "z"
noncomputable abbrev mgSt (d:Addr)(f:List Nat)(x3 x4:Option V)(H:List aE):St:=⟨[some (.const d),some (.str (S cY)),some (.str (S f)),x3,x4],H⟩
section
variable {sl:Addr}{sn:List Int}{d:Addr}
theorem sg_c {f:List Nat}{r:Nat}{x3:Option V}(hf:f.length≤100):fY (F.K P) Γ sl sn (mgSt d f x3 (some (.int (r:Int))) H)=some (some (decide (100≤r)&&decide (f.length<12)),mgSt d f x3 (some (.int (r:Int))) H):=by
 walk_at "a"
 have f0:f.length≤1000:=by lia
 by_cases h1:100≤r
 ·have f1:decide ((r:Int)≥100)=true:=decide_eq_true (by lia)
  rw [decide_eq_true h1,Bool.true_and]
  by_cases h2:f.length<12
  ·have f2:decide ((f.length:Int)<12)=true:=decide_eq_true (by lia)
   rw [decide_eq_true h2]
   unfold fY
   repeat walk_at "s"
  ·have f2:decide ((f.length:Int)<12)=false:=decide_eq_false (by lia)
   rw [decide_eq_false h2]
   unfold fY
   repeat walk_at "s"
 ·have f1:decide ((r:Int)≥100)=false:=decide_eq_false (by lia)
  rw [decide_eq_false h1,Bool.false_and]
  unfold fY
  repeat walk_at "s"
 walk_at "z"
theorem sg_b {f:List Nat}{r:Nat}{x3:Option V}(hf:f.length≤100):b2_law_signs (F.K P) Γ sl sn (mgSt d f x3 (some (.int (r:Int))) H)=some (some .next,mgSt d (f++[pick (r / 100)]) x3 (some (.int ((r / 100:Nat):Int))) H):=by
 walk_at "a"
 have q0:=fun σ=>div100 (n:=r) (σ:=σ)
 have q1:=fun σ=>mod100 (n:=r / 100) (σ:=σ)
 have q2:=fun σ=>mod20 (n:=r / 100 % 100) (σ:=σ)
 have q3:=fun σ=>menu_at (r:=r / 100) (σ:=σ)
 have q4:=fun σ=>addS_S (a:=f) (b:=[pick (r / 100)]) (σ:=σ) (by rw [List.length_singleton];lia)
 unfold b2_law_signs
 repeat walk_at "s"
 walk_at "z"
theorem sg_loop {x3:Option V}:∀ (n k r:Nat) (f:List Nat),13≤k+f.length→k<n→f.length≤100→∃ r',cW n (fY (F.K P) Γ sl sn) (b2_law_signs (F.K P) Γ sl sn) (mgSt d f x3 (some (.int (r:Int))) H)=some (some .next,mgSt d (more k r f) x3 (some (.int (r':Nat))) H)
 | 0,k,r,f,_,hk,_=>absurd hk (Nat.not_lt_zero _)
 | n+1,0,r,f,h,hk,hf=>by
  walk_at "a"
  have hc:=sg_c (P:=P) (Γ:=Γ) (H:=H) (sl:=sl) (sn:=sn) (d:=d) (f:=f) (r:=r) (x3:=x3) hf
  rw [decide_eq_false (show ¬ f.length<12 by lia),Bool.and_false] at hc
  exact ⟨r,dX hc⟩
  walk_at "z"
 | n+1,k+1,r,f,h,hk,hf=>by
  walk_at "a"
  have hc:=sg_c (P:=P) (Γ:=Γ) (H:=H) (sl:=sl) (sn:=sn) (d:=d) (f:=f) (r:=r) (x3:=x3) hf
  by_cases hq:100≤r∧f.length<12
  ·rw [decide_eq_true hq.1,decide_eq_true hq.2] at hc
   have hb:=sg_b (P:=P) (Γ:=Γ) (H:=H) (sl:=sl) (sn:=sn) (d:=d) (f:=f) (r:=r) (x3:=x3) hf
   obtain ⟨r',e⟩:=sg_loop (x3:=x3) n k (r / 100) (f++[pick (r / 100)]) (by rw [List.length_append,List.length_singleton];lia) (by lia) (by rw [List.length_append,List.length_singleton];lia)
   refine ⟨r',?_⟩
   rw [dK hc hb,e,more,if_pos hq]
  ·have:(decide (100≤r)&&decide (f.length<12))=false:=by
    rw [Bool.and_eq_false_iff]
    by_cases h1:100≤r
    ·right;exact decide_eq_false fun h2=>hq ⟨h1,h2⟩
    ·left;exact decide_eq_false h1
   rw [this] at hc
   refine ⟨r,?_⟩
   rw [dX hc,more,if_neg hq]
  walk_at "z"
theorem sg_turn {f:List Nat}{x:Int}{x4:Option V}(hf:f.length≤50):∃ r',b3_law_signs (F.K P) Γ sl sn (mgSt d f (some (.int x)) x4 H)=some (some .next,mgSt d (cellF f x) (some (.int x)) (some (.int (r':Nat))) H):=by
 walk_at "a"
 obtain ⟨r',e⟩:=sg_loop (P:=P) (Γ:=Γ) (H:=H) (sl:=sl) (sn:=sn) (d:=d) (x3:=some (.int x)) 100 13 x.natAbs (f++[pick x.natAbs]) (by lia) (by lia) (by rw [List.length_append,List.length_singleton];lia)
 have q0:=fun σ=>abs_I (K:=F.K P) (x:=x) (σ:=σ)
 have q1:=fun σ=>mod100 (n:=x.natAbs) (σ:=σ)
 have q2:=fun σ=>mod20 (n:=x.natAbs % 100) (σ:=σ)
 have q3:=fun σ=>menu_at (r:=x.natAbs) (σ:=σ)
 have q4:=fun σ=>addS_S (a:=f) (b:=[pick x.natAbs]) (σ:=σ) (by rw [List.length_singleton];lia)
 have q5:=e
 refine ⟨r',?_⟩
 unfold cellF
 unfold b3_law_signs
 repeat walk_at "s"
 walk_at "z"
theorem cell_len (f:List Nat)(x:Int):(cellF f x).length≤max (f.length+1) 12:=by
 walk_at "a"
 have:=more_len 13 x.natAbs (f++[pick x.natAbs])
 rw [List.length_append,List.length_singleton] at this
 exact this
 walk_at "z"
theorem sg_for:∀ (xs:List Int) (f:List Nat) (k:Nat) (x3 x4:Option V),f.length≤12+k→k+xs.length≤30→∃ y3 y4,forM (aJ 3) (b3_law_signs (F.K P) Γ sl sn) (xs.map V.int) (mgSt d f x3 x4 H)=some (some .next,mgSt d (xs.foldl cellF f) y3 y4 H)
 | [],f,k,x3,x4,_,_=>⟨x3,x4,for_nil⟩
 | x::xs,f,k,x3,x4,hf,hk=>by
  walk_at "a"
  rw [List.length_cons] at hk
  obtain ⟨r',e⟩:=sg_turn (P:=P) (Γ:=Γ) (H:=H) (sl:=sl) (sn:=sn) (d:=d) (f:=f) (x:=x) (x4:=x4) (by lia)
  obtain ⟨y3,y4,e2⟩:=sg_for xs (cellF f x) (k+1) (some (.int x)) (some (.int (r':Nat))) (by have:=cell_len f x;lia) (by lia)
  refine ⟨y3,y4,?_⟩
  rw [List.map_cons,fF (σ1:=mgSt d f (some (.int x)) x4 H) sv3 e (.inl rfl)]
  exact e2
  walk_at "z"
theorem fold_len:∀ (xs:List Int) (f:List Nat) (k:Nat),f.length≤12+k→(xs.foldl cellF f).length≤12+k+xs.length
 | [],f,k,h=>by simpa using h
 | x::xs,f,k,h=>by
  have:=fold_len xs (cellF f x) (k+1) (by have:=cell_len f x;lia)
  rw [List.foldl_cons,List.length_cons]
  lia
theorem run_lsigns (hn:sn.length≤1000):∃ σ',x_law_signs (F.K P) Γ sl sn ⟨[some (.const sl),none,none,none,none],H⟩=some (some (.ret (.str (S (signsL sn)))),σ')∧σ'.H=H:=by
 walk_at "a"
 have w1:Str.ofString "#{}an01_x. "=S [35,123,125,97,110,48,49,95,120,46,32]:=by decide
 have w2:Str.ofString "fb=<-"=S [102,98,61,60,45]:=by decide
 have w3:Str.ofString "#{a}"=S [35,123,97,125]:=by decide
 have q0:=fun σ=>addS_S (a:=[39]) (b:=[34]) (σ:=σ) (by decide)
 have q1:=fun σ=>addS_S (a:=[39]++[34]) (b:=[92]) (σ:=σ) (by decide)
 have q2:=fun σ=>addS_S (a:=[39]++[34]++[92]) (b:=[35,123,125,97,110,48,49,95,120,46,32]) (σ:=σ) (by decide)
 have q3:=fun σ=>addS_S (a:=[39]++[34]++[92]++[35,123,125,97,110,48,49,95,120,46,32]) (b:=[10]) (σ:=σ) (by decide)
 have q4:∀ σ,bO .Add (.str (S ([39]++[34]++[92]++[35,123,125,97,110,48,49,95,120,46,32]++[10]))) (.str (S [102,98,61,60,45])) σ=some (some (.str (S cY)),σ):=fun σ=>addS_S (by decide)
 have q5:∀ σ,sliceB sl sn (.const sl) .none (.int 12) σ=some (some (.lst ((sn.take 12).map V.int)),σ):=fun σ=>by
  show ((if sl=sl∧(0:Int)≤12∧sn.length≤100000 then M.ret (.lst ((sn.take 12).map V.int)) else M.stuck:M V) σ)=_
  rw [if_pos ⟨rfl,by decide,by lia⟩,bF]
 have ht:(sn.take 12).length≤12:=by rw [List.length_take];lia
 obtain ⟨y3,y4,e⟩:=sg_for (P:=P) (Γ:=Γ) (H:=H) (sl:=sl) (sn:=sn) (d:=sl) (sn.take 12) [] 0 none none (by simp) (by lia)
 have hfl:=fold_len (sn.take 12) [] 0 (by simp)
 generalize hf:(sn.take 12).foldl cellF []=f at e hfl
 have hf0:f.length≤1000:=by lia
 unfold signsL
 rw [hf]
 refine ⟨mgSt sl f y3 y4 H,?_,rfl⟩
 unfold x_law_signs
 rw [w_q,w1,w2,w3,w_e]
 refine gG (o:=some .next) (σ1:=⟨[some (.const sl),some (.str (S cY)),none,none,none],H⟩) ?_ (gO ?_)
 ·repeat walk_at "s"
 refine gG (o:=some .next) (σ1:=mgSt sl [] none none H) ?_ (gO ?_)
 ·repeat walk_at "s"
 clear q0 q1 q2 q3 q4
 refine gG (o:=some .next) (σ1:=mgSt sl f y3 y4 H) ?_ (gO ?_)
 ·repeat walk_at "s"
  exact e
 by_cases h:f=[]
 ·have f1:(S f != S [])=false:=bne_q h
  rw [if_pos h]
  have q0:=fun σ=>addS_S (a:=[34]) (b:=[35,123,97,125]) (σ:=σ) (by decide)
  have q1:∀ σ,bO .Add (.str (S ([34]++[35,123,97,125]))) (.str (S [34])) σ=some (some (.str (S [34,35,123,97,125,34])),σ):=fun σ=>addS_S (by decide)
  repeat walk_at "s"
 ·have f1:(S f != S [])=true:=bne_n h
  rw [if_neg h]
  have q0:∀ σ,bM (.str (S f)) .none (.int 12) σ=some (some (.str (S (f.take 12))),σ):=fun σ=>sl_ns (b:=12) hf0
  repeat walk_at "s"
 walk_at "z"
end
noncomputable def p_lsigns (sl:Addr)(sn:List Int):PC:=pC fun d H=>if d=sl∧sn.length≤1000 then some (some (.str (S (signsL sn))),H) else none
theorem lsigns_ok {prog:Program}{w:World}{sl:Addr}{sn:List Int}{n:Nat}(G:GOK prog w (KK w) (.ref 59) sl sn Γ n):GOK prog w (KK w) (.ref 59) sl sn (ov F.at_law_signs (p_lsigns sl sn) Γ) (n+1):=by
 walk_at "a"
 refine ok_law_signs G fun vs H r h0=>pC_e h0 fun d e0 h1x=>fL h1x fun hq h2x=>?_
 subst e0
 obtain rfl:=Option.some.inj h2x
 obtain ⟨rfl,hn⟩:=hq
 obtain ⟨σ',e,eH⟩:=run_lsigns (P:=w.params) (Γ:=Γ) (H:=H) (sl:=d) hn
 exact .of (Nat.le_refl _) [.const d] rfl rfl _ _ e (cE (by rw [eH];exact cX.same) (.same rfl))
 walk_at "z"
end
end Mine
end
section
namespace Mine
noncomputable def upC (c:Nat):Nat:=if 97≤c∧c≤122 then c-32 else c
theorem fin_up:∀ c∈cY,digL.contains (upC c)=true∧dgv [upC c]=aZ [c]:=by decide
theorem fin_upper:∀ c∈cY,Txt.upper (S [c])=S [upC c]:=by
 have:(cY.all fun c=>Txt.upper (S [c])==S [upC c])=true:=by kernel_rfl
 exact fun c hc=>by simpa using List.all_eq_true.mp this c hc
theorem up_m {s:List Nat}(h:okMs s=true):∃ u,Txt.upper (S s)=S u∧okDg u=true∧dgv u=aZ s∧u.length≤1:=by
 match s,h with
 | [],_=>exact ⟨[],rfl,rfl,rfl,by decide⟩
 | [c],h =>
  have h1:c∈cY:=by simpa [okMs] using h
  exact ⟨[upC c],fin_upper c h1,(fin_up c h1).1,(fin_up c h1).2,by simp⟩
section
variable {P:Params}{l s:List Nat}{i j k a m:Nat}{H:List aE}{ρ:List (Option V)}{Γ:CT}{rest:List (Str×V)}
theorem llongest_at {d:Addr}{L:List (List Nat)}(k:aH Γ F.at_law_longest fS)(hl:l.length≤60)(hd:tabL d=some L):Γ F.at_law_longest [.str (S l),.int (a:Int),.const d] H=some (some (.str (S (LL L (l.drop a) []))),H):=by
 walk_at "a"
 exact k _ _ _ (by
  show on1 (tabL d) _ _=_
  rw [hd]
  refine (if_pos (show 0≤(a:Int)∧(S l).length≤60 from ⟨by lia,by rw [cD];exact hl⟩)).trans ?_
  rw [lt_S]
  rfl)
 walk_at "z"
theorem longest_at {d:Addr}{L:List (List Nat)}(k:aH Γ F.at_Lexer_longest gS)(hl:l.length≤60)(hd:tabL d=some L):Γ F.at_Lexer_longest [.obj H.length,.int (a:Int),.const d] (lx3 H l 0)=some (some (.str (S (LL L (l.drop a) []))),lx3 H l 0):=by
 walk_at "a"
 exact k _ _ _ (by
  have h:=lx3_sc (H:=H) (l:=l) (b:=0) hl (by lia)
  show dW f_longest _ _=_
  rw [cG (f:=f_longest) h]
  show on1 (tabL d) _ _=_
  rw [hd]
  refine Eq.trans (b:=if (479:Nat)=479∧0≤(a:Int) then some (some (V.str (S (LL L (l.drop (a:Int).toNat) []))),lx3 H l 0) else none) rfl ?_
  rw [if_pos ⟨rfl,by lia⟩]
  rfl)
 walk_at "z"
noncomputable abbrev lwSt (sl:Addr)(l:List Nat)(x2 x3 x4 x5:Option V)(X:List aE):St:=⟨[some (.const sl),some (.str (S l)),x2,x3,x4,x5],X⟩
section
variable {sl:Addr}
theorem lw_known {d:Addr}{L:List (List Nat)}{x4:Option V}(hl:l.length≤60)(hd:tabL d=some L)(kL:aH Γ F.at_Lexer_longest gS)(kM:aH Γ F.at_law_longest fS) :
  b1_law (F.K P) Γ (lwSt sl l (some (.obj H.length)) (some (.int (a:Int))) x4 (some (.const d)) (lx3 H l 0))=some (some .next,lwSt sl l (some (.obj H.length)) (some (.int (a:Int))) x4 (some (.const d)) (lx3 H l 0)):=by
 walk_at "a"
 have h:=lx3_sc (H:=H) (l:=l) (b:=0) hl (by lia)
 have q0:=fun ρ=>aT (ρ:=ρ) h (m_longest P) (by decide)
 have q1:=longest_at (H:=H) (a:=a) kL hl hd
 have q2:=llongest_at (H:=lx3 H l 0) (a:=a) kM hl hd
 have f1:(S (LL L (l.drop a) []) != S (LL L (l.drop a) []))=false:=bne_q rfl
 unfold b1_law
 repeat walk_at "s"
 walk_at "z"
theorem lw_turn {x4 x5:Option V}(hl:l.length≤12)(ha:a≤l.length)(ho:okM l=true)(k1:aH Γ F.at_law_texts_right dQ)(k2:aH Γ F.at_law_steps_right dQ)(k3:aH Γ F.at_law_whole_right dQ)(kD:aH Γ F.at_digit_value p_dgv)(kW:aH Γ F.at_law_worth gZ)
  (kL:aH Γ F.at_Lexer_longest gS) (kM:aH Γ F.at_law_longest fS) :
  b2_law (F.K P) Γ (lwSt sl l (some (.obj H.length)) (some (.int (a:Int))) x4 x5 (lx3 H l 0))=some (some .next,lwSt sl l (some (.obj H.length)) (some (.int (a:Int))) (some (.str (S ((l.drop a).take 1)))) (some (.const 68)) (lx3 H l 0)):=by
 walk_at "a"
 have hl6:l.length≤60:=by lia
 have hms:okMs ((l.drop a).take 1)=true:=take_okMs fun c hc=>okM_at ho (List.mem_of_mem_drop hc)
 obtain ⟨u,hu1,hu2,hu3,hu4⟩:=up_m hms
 have q0:=ltrue_at (H:=lx3 H l 0) k1 hl ha ho
 have q1:=ltrue_at (H:=lx3 H l 0) k2 hl ha ho
 have q2:=ltrue_at (H:=lx3 H l 0) k3 hl ha ho
 have q3:∀ σ,bM (.str (S l)) (.int (a:Int)) (.int ((a:Int)+1)) σ=some (some (.str (S ((l.drop a).take 1))),σ):=fun σ=>by
  have:=sl_ss (l:=l) (a:=a) (b:=a+1) (σ:=σ) (by lia)
  rw [List.drop_take,Nat.add_sub_cancel_left] at this
  exact this
 have q4:=dgv_at (H:=lx3 H l 0) kD (okMs_Dg hms)
 rw [dgv_w hms] at q4
 have q5:=worth_at (H:=lx3 H l 0) kW hms
 have q6:=fun σ=>getM_upper (K:=F.K P) (x:=S ((l.drop a).take 1)) (σ:=σ)
 have q7:∀ σ,bG (F.K P) "str.upper" [.str (S ((l.drop a).take 1))] σ=some (some (.str (S u)),σ):=fun σ=>by
  rw [← hu1]
  exact up_S (by rw [cD,List.length_take];lia)
 have q8:=dgv_at (H:=lx3 H l 0) kD hu2
 rw [hu3] at q8
 have f1:(aZ ((l.drop a).take 1) != aZ ((l.drop a).take 1))=false:=bne_self_eq_false _
 have f2:(!true)=false:=rfl
 have q9:forM (aJ 5) (b1_law (F.K P) Γ) [.const 64,.const 68] (lwSt sl l (some (.obj H.length)) (some (.int (a:Int))) (some (.str (S ((l.drop a).take 1)))) x5 (lx3 H l 0))=some (some .next,lwSt sl l (some (.obj H.length)) (some (.int (a:Int))) (some (.str (S ((l.drop a).take 1)))) (some (.const 68)) (lx3 H l 0)):=by
  rw [fF (σ1:=lwSt sl l (some (.obj H.length)) (some (.int (a:Int))) (some (.str (S ((l.drop a).take 1)))) (some (.const 64)) (lx3 H l 0)) sv5 (lw_known (d:=64) hl6 rfl kL kM) (.inl rfl)]
  rw [fF (σ1:=lwSt sl l (some (.obj H.length)) (some (.int (a:Int))) (some (.str (S ((l.drop a).take 1)))) (some (.const 68)) (lx3 H l 0)) sv5 (lw_known (d:=68) hl6 rfl kL kM) (.inl rfl)]
  exact for_nil
 have hin:∃ b,∀ σ,cmpD (F.K P) .In (.str (S ((l.drop a).take 1))) (.str (Str.ofString "0123456789")) σ=some (some (.bool b),σ):=⟨_,fun σ=>by cases σ;rfl⟩
 obtain ⟨b,q10⟩:=hin
 unfold b2_law
 rw [w_e]
 by_cases he:(l.drop a).take 1=[]
 ·have f3:(S ((l.drop a).take 1) != S [])=false:=bne_q he
  repeat walk_at "s"
  exact q9
  repeat walk_at "s"
 ·have f3:(S ((l.drop a).take 1) != S [])=true:=bne_n he
  cases hb:b with
  | true =>
   subst hb
   repeat walk_at "s"
   exact q9
   repeat walk_at "s"
  | false =>
   subst hb
   repeat walk_at "s"
   exact q9
   repeat walk_at "s"
 walk_at "z"
theorem lw_loop (hl:l.length≤12)(ho:okM l=true)(k1:aH Γ F.at_law_texts_right dQ)(k2:aH Γ F.at_law_steps_right dQ)(k3:aH Γ F.at_law_whole_right dQ)(kD:aH Γ F.at_digit_value p_dgv)(kW:aH Γ F.at_law_worth gZ)
  (kL:aH Γ F.at_Lexer_longest gS) (kM:aH Γ F.at_law_longest fS) :
  ∀ (ns:List Nat),(∀ n∈ns,n≤l.length)→∀ (x3 x4 x5:Option V),∃ y3 y4 y5,forM (aJ 3) (b2_law (F.K P) Γ) (ns.map fun (n:Nat)=>V.int (n:Int)) (lwSt sl l (some (.obj H.length)) x3 x4 x5 (lx3 H l 0))=some (some .next,lwSt sl l (some (.obj H.length)) y3 y4 y5 (lx3 H l 0))
 | [],_,x3,x4,x5=>⟨x3,x4,x5,for_nil⟩
 | n::ns,hn,x3,x4,x5=>by
  obtain ⟨y3,y4,y5,e⟩:=lw_loop hl ho k1 k2 k3 kD kW kL kM ns (fun n h=>hn n (List.mem_cons_of_mem _ h)) (some (.int (n:Int))) (some (.str (S ((l.drop n).take 1)))) (some (.const 68))
  refine ⟨y3,y4,y5,?_⟩
  rw [List.map_cons,fF (σ1:=lwSt sl l (some (.obj H.length)) (some (.int (n:Int))) x4 x5 (lx3 H l 0)) sv3 (lw_turn hl (hn n List.mem_cons_self) ho k1 k2 k3 kD kW kL kM) (.inl rfl)]
  exact e
theorem its_b {b:Int}{σ:St}(h:0≤b∧b<1000000):iI σ (.rng 0 b 1)=some (rngV 0 1 b.toNat):=by
 unfold iI
 exact if_pos h
theorem its_len {n:Nat}{σ:St}(h:n≤1000):iI σ (.rng 0 ((n:Int)+1) 1)=some ((List.range (n+1)).map fun (n:Nat)=>V.int (n:Int)):=by
 walk_at "a"
 rw [its_b ⟨by lia,by lia⟩]
 unfold rngV
 rw [show ((n:Int)+1).toNat=n+1 by lia]
 exact congrArg some (List.map_congr_left fun n _=>by
  show V.int (0+(n:Int)*1)=V.int (n:Int)
  rw [Int.zero_add,Int.mul_one])
 walk_at "z"
theorem run_law {sn:List Int}(hn:sn.length≤1000)(k0:aH Γ F.at_law_signs (p_lsigns sl sn))(kN:aH Γ 479 p_newL)(k1:aH Γ F.at_law_texts_right dQ)(k2:aH Γ F.at_law_steps_right dQ)(k3:aH Γ F.at_law_whole_right dQ)(kD:aH Γ F.at_digit_value p_dgv)(kW:aH Γ F.at_law_worth gZ)
  (kL:aH Γ F.at_Lexer_longest gS) (kM:aH Γ F.at_law_longest fS) :
  ∃ σ' T,x_law (F.K P) Γ ⟨[some (.const sl),none,none,none,none,none],H⟩=some (some (.ret (.bool true)),σ')∧σ'.H=H++T:=by
 walk_at "a"
 obtain ⟨ho,hl⟩:=signs_ok sn
 have q0:Γ F.at_law_signs [.const sl] H=some (some (.str (S (signsL sn))),H):=k0 _ _ _ (by
  show (if sl=sl∧sn.length≤1000 then some (some (V.str (S (signsL sn))),H) else none)=_
  rw [if_pos ⟨rfl,hn⟩])
 generalize signsL sn=l at ho hl q0
 have hl6:l.length≤60:=by lia
 have q1:Γ 479 [.str (S l),.int 1] H=some (some (.obj H.length),lx3 H l 0):=newL_at (H:=H) (m:=1) kN hl6 rfl
 have q2:=fun σ=>call_rng (n:=(l.length:Int)+1) (σ:=σ)
 have f0:l.length≤1000:=by lia
 obtain ⟨y3,y4,y5,e⟩:=lw_loop (P:=P) (H:=H) (sl:=sl) hl ho k1 k2 k3 kD kW kL kM (List.range (l.length+1)) (fun n h=>by rw [List.mem_range] at h;lia) none none none
 have hits:=fun σ=>its_len (n:=l.length) (σ:=σ) (by lia)
 refine ⟨lwSt sl l (some (.obj H.length)) y3 y4 y5 (lx3 H l 0),[aP 479 l 0 1 (gF (H.length+1) (H.length+2)),.list [],.list []],?_,rfl⟩
 unfold x_law
 refine gG (o:=some .next) (σ1:=⟨[some (.const sl),some (.str (S l)),none,none,none,none],H⟩) ?_ (gO ?_)
 ·repeat walk_at "s"
 refine gG (o:=some .next) (σ1:=lwSt sl l (some (.obj H.length)) none none none (lx3 H l 0)) ?_ (gO ?_)
 ·repeat walk_at "s"
 refine gG (o:=some .next) (σ1:=lwSt sl l (some (.obj H.length)) y3 y4 y5 (lx3 H l 0)) ?_ (gO ?_)
 ·refine r_bind (o:=some (.rng 0 ((l.length:Int)+1) 1)) (σ1:=lwSt sl l (some (.obj H.length)) none none none (lx3 H l 0)) ?_ (k_some ?_)
  ·repeat walk_at "s"
  ·rw [hits]
   exact e
 ·repeat walk_at "s"
 walk_at "z"
end
end
end Mine
end
section
namespace Mine
noncomputable abbrev CC:=List V→List aE→Option (Option V×List aE)
noncomputable def All (L:List (Addr×CC))(Γ:CT):Prop:=∀ (k:Nat) (f:Addr) (p:CC),L[k]? = some (f,p)→aH Γ f p
theorem All.put {L:List (Addr×CC)}{Γ:CT}{g:Addr}{q:CC}(h:All L Γ)(hg:(L.map (·.1)).contains g=false):All ((g,q)::L) (ov g q Γ):=by
 walk_at "a"
 exact fun k f p e=>by
  cases k with
  | zero=>cases e;exact aH.self
  | succ k =>
   refine (h k f p e).ov fun q=>?_
   have h2:f∈L.map (·.1):=List.mem_map_of_mem (f:=(·.1)) (List.mem_of_getElem? (l:=L) (i:=k) e)
   rw [q] at h2
   rw [List.contains_iff_mem.mpr h2] at hg
   cases hg
 walk_at "z"
theorem All.tl {L:List (Addr×CC)}{Γ:CT}{x:Addr×CC}(h:All (x::L) Γ):All L Γ:=fun k f p e=>h (k+1) f p e
section
variable {prog:Program}{w:World}{sl:Addr}{sn:List Int}
noncomputable def St2 (prog:Program)(w:World)(sl:Addr)(sn:List Int)(L:List (Addr×CC))(n:Nat):Prop:=∃ Γ,GOK prog w (KK w) (.ref 59) sl sn Γ n∧All L Γ
theorem St2.put {L:List (Addr×CC)}{n:Nat}{g:Addr}{q:CC}(h:St2 prog w sl sn L n)(hg:(L.map (·.1)).contains g=false)
  (k:∀ Γ,All L Γ→GOK prog w (KK w) (.ref 59) sl sn Γ n→GOK prog w (KK w) (.ref 59) sl sn (ov g q Γ) (n+1)):St2 prog w sl sn ((g,q)::L) (n+1):=by
 obtain ⟨Γ,G,A⟩:=h
 exact ⟨_,k Γ A G,A.put hg⟩
noncomputable abbrev LA (w:World):List (Addr×CC):=[(F.at_TextScanner_escaped,p_esc),(F.at_TextScanner_plain_text,p_plain),(248,p_new 248),(199,p_new 199),(F.at_Scanner___init__,p_init),(F.at_Scanner_name,p_name),(F.at_Scanner_begins,p_begins),(F.at_Scanner_step,gN),(F.at_Scanner_sign,eJ),(182,failP (KK w))]
theorem st_0:St2 prog w sl sn (LA w) 11:=by
 walk_at "a"
 have h0:St2 prog w sl sn [] 1:=⟨fun _ _ _=>none,fun _ _ _ _ _ _ _ _ _ _ _ _ _ _ e=>(nomatch e),fun _ _ _ e=>(nomatch e)⟩
 have h1:=h0.put (g:=182) (q:=failP (KK w)) rfl fun Γ A G=>fail_ok (Nat.le_refl _) G
 have h2:=h1.put (g:=F.at_Scanner_sign) (q:=eJ) rfl fun Γ A G=>sign_ok G
 have h3:=h2.put (g:=F.at_Scanner_step) (q:=gN) rfl fun Γ A G=>step_ok G (A 0 _ _ rfl)
 have h4:=h3.put (g:=F.at_Scanner_begins) (q:=p_begins) rfl fun Γ A G=>begins_ok G
 have h5:=h4.put (g:=F.at_Scanner_name) (q:=p_name) rfl fun Γ A G=>name_ok G
 have h6:=h5.put (g:=F.at_Scanner___init__) (q:=p_init) rfl fun Γ A G=>init_ok G
 have h7:=h6.put (g:=199) (q:=p_new 199) rfl fun Γ A G=>new_ok (.inl rfl) G (A 0 _ _ rfl)
 have h8:=h7.put (g:=248) (q:=p_new 248) rfl fun Γ A G=>new_ok (.inr rfl) G (A 1 _ _ rfl)
 have h9:=h8.put (g:=F.at_TextScanner_plain_text) (q:=p_plain) rfl fun Γ A G=>plain_ok G (A 6 _ _ rfl) (A 5 _ _ rfl) (A 7 _ _ rfl)
 exact h9.put (g:=F.at_TextScanner_escaped) (q:=p_esc) rfl fun Γ A G=>esc_ok G (A 6 _ _ rfl) (A 8 _ _ rfl)
 walk_at "z"
noncomputable abbrev LB (w:World)(N:Nat):List (Addr×CC):=(F.at_TextScanner_text_parts,p_parts N)::(F.at_TextScanner_code,p_code N)::(F.at_TextScanner_skip_code,p_skip N)::LA w
theorem E_zero {Γ:CT}:E_parts Γ 0:=fun _ _ _ _ _ _ _ _ _ _ h=>absurd h (Nat.not_lt_zero _)
theorem st_step {n N:Nat}(h:∃ Γ,GOK prog w (KK w) (.ref 59) sl sn Γ n∧All (LA w) Γ∧E_parts Γ N):St2 prog w sl sn (LB w (N+1)) (n+3):=by
 walk_at "a"
 obtain ⟨Γ,G,A,hE⟩:=h
 have h1:St2 prog w sl sn ((F.at_TextScanner_skip_code,p_skip (N+1))::LA w) (n+1) :=
  ⟨_,skip_ok N G (A 8 _ _ rfl) (A 7 _ _ rfl) (A 9 _ _ rfl) (A 1 _ _ rfl) hE,A.put rfl⟩
 have h2:=h1.put (g:=F.at_TextScanner_code) (q:=p_code (N+1)) rfl fun Γ A G=>code_ok (N+1) G (A 0 _ _ rfl)
 exact h2.put (g:=F.at_TextScanner_text_parts) (q:=p_parts (N+1)) rfl fun Γ A G=>parts_ok (N+1) G (A 10 _ _ rfl) (A 9 _ _ rfl) (A 8 _ _ rfl) (A 11 _ _ rfl) (A 2 _ _ rfl) (A 0 _ _ rfl)
 walk_at "z"
theorem st_1:∀ N:Nat,St2 prog w sl sn (LB w (N+1)) (14+3*N)
 | 0=>by
  obtain ⟨Γ,G,A⟩:=st_0 (prog:=prog) (w:=w) (sl:=sl) (sn:=sn)
  exact st_step ⟨Γ,G,A,E_zero⟩
 | N+1=>by
  obtain ⟨Γ,G,A⟩:=st_1 N
  have h:=st_step (N:=N+1) ⟨Γ,G,A.tl.tl.tl,parts_E (A 0 _ _ rfl)⟩
  rw [show 14+3*(N+1)=14+3*N+3 by lia]
  exact h
noncomputable abbrev LC (w:World)(N:Nat):List (Addr×CC):=(F.at_law_single,eC N)::(F.at_law_line,hJ)::LB w 13
theorem lsingle_0 {Γ:CT}:aH Γ F.at_law_single (eC 0):=fun vs H r h=>by
 exact pSI_e h fun t x e h1=>fL h1 fun hq _=>absurd hq.2.2.2 (Nat.not_lt_zero _)
theorem st_2:∀ N:Nat,St2 prog w sl sn (LC w (N+1)) (52+N)
 | 0=>by
  have h1:=(st_1 (prog:=prog) (w:=w) (sl:=sl) (sn:=sn) 12).put (g:=F.at_law_line) (q:=hJ) rfl fun Γ A G=>lline_ok G
  exact h1.put (g:=F.at_law_single) (q:=eC 1) rfl fun Γ A G=>lsingle_ok 0 G lsingle_0
 | N+1=>by
  obtain ⟨Γ,G,A⟩:=st_2 N
  exact ⟨_,lsingle_ok (N+1) G (A 0 _ _ rfl),A.tl.put rfl⟩
noncomputable abbrev LD (w:World)(N:Nat):List (Addr×CC):=(F.at_law_double,eD N)::(F.at_law_code_end,eY N)::LC w 61
theorem lcode_0 {Γ:CT}:aH Γ F.at_law_code_end (eY 0):=fun vs H r h=>by
 exact pSII_e h fun t x y e h1=>fL h1 fun hq _=>absurd hq.2.2.2.2.2 (Nat.not_lt_zero _)
theorem ldouble_0 {Γ:CT}:aH Γ F.at_law_double (eD 0):=fun vs H r h=>by
 exact pSI_e h fun t x e h1=>fL h1 fun hq _=>absurd hq.2.2.2.2 (Nat.not_lt_zero _)
theorem lcode_le {Γ:CT}{N:Nat}(k:aH Γ F.at_law_code_end (eY (N+1))):aH Γ F.at_law_code_end (eY N):=fun vs H r h=>by
 refine k vs H r (pSII_e h fun t x y e h1=>fL h1 fun q h2=>?_)
 subst e
 exact (if_pos ⟨q.1,q.2.1,q.2.2.1,q.2.2.2.1,q.2.2.2.2.1,by lia⟩).trans h2
theorem st_step3 {n N:Nat}(h:∃ Γ,GOK prog w (KK w) (.ref 59) sl sn Γ n∧All (LC w 61) Γ∧aH Γ F.at_law_double (eD N)∧aH Γ F.at_law_code_end (eY N)):St2 prog w sl sn (LD w (N+1)) (n+2):=by
 walk_at "a"
 obtain ⟨Γ,G,A,kD,kC⟩:=h
 have G1:=lcode_ok N G (A 0 _ _ rfl) kD kC
 have A1:All ((F.at_law_code_end,eY (N+1))::LC w 61) _:=A.put rfl
 exact ⟨_,ldouble_ok N G1 (A1 2 _ _ rfl) (kD.ov (by decide)) (lcode_le (A1 0 _ _ rfl)),A1.put rfl⟩
 walk_at "z"
theorem st_3:∀ N:Nat,St2 prog w sl sn (LD w (N+1)) (114+2*N)
 | 0=>by
  obtain ⟨Γ,G,A⟩:=st_2 (prog:=prog) (w:=w) (sl:=sl) (sn:=sn) 60
  exact st_step3 ⟨Γ,G,A,ldouble_0,lcode_0⟩
 | N+1=>by
  obtain ⟨Γ,G,A⟩:=st_3 N
  have h:=st_step3 (N:=N+1) ⟨Γ,G,A.tl.tl,A 0 _ _ rfl,A 1 _ _ rfl⟩
  rw [show 114+2*(N+1)=114+2*N+2 by lia]
  exact h
theorem st_4:∃ Γ,GOK prog w (KK w) (.ref 59) sl sn Γ 160∧aH Γ F.at_law_signs (p_lsigns sl sn)∧aH Γ 479 p_newL∧aH Γ F.at_law_texts_right dQ∧aH Γ F.at_law_steps_right dQ∧aH Γ F.at_law_whole_right dQ∧aH Γ F.at_digit_value p_dgv∧aH Γ F.at_law_worth gZ∧aH Γ F.at_Lexer_longest gS∧aH Γ F.at_law_longest fS:=by
 walk_at "a"
 have h0:=st_3 (prog:=prog) (w:=w) (sl:=sl) (sn:=sn) 12
 have h1:=h0.put (g:=F.at_law_at) (q:=p_lat) rfl fun Γ A G=>lat_ok G (A 9 _ _ rfl) (A 3 _ _ rfl)
 have h2:=h1.put (g:=F.at_law_word) (q:=p_lword) rfl fun Γ A G=>lword_ok G
 have h3:=h2.put (g:=F.at_law_texts_right) (q:=dQ) rfl fun Γ A G=>ltexts_ok G (A 1 _ _ rfl) (A 5 _ _ rfl) (A 4 _ _ rfl) (A 10 _ _ rfl) (A 2 _ _ rfl) (A 6 _ _ rfl) (A 3 _ _ rfl) (A 8 _ _ rfl) (A 7 _ _ rfl)
 have h4:=h3.put (g:=F.at_law_steps_right) (q:=dQ) rfl fun Γ A G=>lsteps_ok G (A 13 _ _ rfl) (A 18 _ _ rfl) (A 16 _ _ rfl) (A 17 _ _ rfl) (A 15 _ _ rfl) (A 1 _ _ rfl)
 have h5:=h4.put (g:=F.at_is_digit) (q:=p_isd) rfl fun Γ A G=>isd_ok G
 have h6:=h5.put (g:=F.at_digit_value) (q:=p_dgv) rfl fun Γ A G=>dgv_ok G (A 0 _ _ rfl)
 have h7:=h6.put (g:=F.at_law_worth) (q:=gZ) rfl fun Γ A G=>worth_ok G
 have h8:=h7.put (g:=F.at_Lexer___init__) (q:=p_linit) rfl fun Γ A G=>linit_ok G (A 18 _ _ rfl)
 have h9:=h8.put (g:=479) (q:=p_newL) rfl fun Γ A G=>newL_ok G (A 0 _ _ rfl)
 have h10:=h9.put (g:=F.at_Token___init__) (q:=p_tinit) rfl fun Γ A G=>tinit_ok G
 have h11:=h10.put (g:=97) (q:=p_tok) rfl fun Γ A G=>tok_ok G (A 0 _ _ rfl)
 have h12:=h11.put (g:=F.at_Lexer_put) (q:=p_put) rfl fun Γ A G=>put_ok G (A 0 _ _ rfl)
 have h13:=h12.put (g:=F.at_Lexer_whole) (q:=p_whole) rfl fun Γ A G=>whole_ok G (A 27 _ _ rfl) (A 6 _ _ rfl) (A 7 _ _ rfl) (A 28 _ _ rfl) (A 0 _ _ rfl)
 have h14:=h13.put (g:=F.at_law_number) (q:=p_lnum) rfl fun Γ A G=>lnum_ok G (A 11 _ _ rfl) (A 6 _ _ rfl)
 have h15:=h14.put (g:=F.at_law_whole_right) (q:=dQ) rfl fun Γ A G=>lwhole_ok G (A 5 _ _ rfl) (A 1 _ _ rfl) (A 0 _ _ rfl) (A 12 _ _ rfl)
 have h16:=h15.put (g:=F.at_Lexer_longest) (q:=gS) rfl fun Γ A G=>longest_ok G
 have h17:=h16.put (g:=F.at_law_longest) (q:=fS) rfl fun Γ A G=>llongest_ok G
 have h18:=h17.put (g:=F.at_law_signs) (q:=p_lsigns sl sn) rfl fun Γ A G=>lsigns_ok G
 obtain ⟨Γ,G,A⟩:=h18
 exact ⟨Γ,G.le (by lia),A 0 _ _ rfl,A 9 _ _ rfl,A 15 _ _ rfl,A 14 _ _ rfl,A 3 _ _ rfl,A 12 _ _ rfl,A 11 _ _ rfl,A 2 _ _ rfl,A 1 _ _ rfl⟩
 walk_at "z"
end
end Mine
end
section
namespace Mine
theorem law_walk {prog:Program}{w:World}{p:Program}{loose:List Str}{mg mb:Str→Option Value}{h0:Heap}{sl f:Addr}{cd:Value}{sv:List Value}{sn:List Int}{m:Str→Option Value}{s:Shared}{Q:Flow→Shared→Prop}{E:Value→Shared→Prop}
  (KX:(KK w).In h0) (T:TopRead p loose mg mb h0) (K0:Below callerA h0 [] h0) (hL:h0.IsList sl sv.toArray) (hI:IntsAre sv sn) (hn:sn.length≤1000)
  (F:Fr h0 h0.objs.size s.heap m) (hm:m (Str.ofString "script")=some (.ref sl))
  (k:∀ h' tk' m',Fr h0 h0.objs.size h' m'→Q (.ret (.bool true)) { s with heap:=h',toks:=tk' }) :
  wpAny (model prog w) (callerA.deeper (envX (Str.ofString "law") Mine.F.scope_law h0.objs.size f cd [])) (execs Mine.F.body_law (envX (Str.ofString "law") Mine.F.scope_law h0.objs.size f cd [])) Q E s:=by
 walk_at "a"
 obtain ⟨Γ,G,k0,kN,k1,k2,k3,kD,kW,kL,kM⟩:=st_4 (prog:=prog) (w:=w) (sl:=sl) (sn:=sn)
 let c:Act prog w (KK w) :=
  {A₀:=callerA,A:=callerA.deeper (envX (Str.ofString "law") Mine.F.scope_law h0.objs.size f cd []),base:=h0,outer:=[],g:=h0,qual:=Str.ofString "law",sc:=Mine.F.scope_law,L:=h0.objs.size,f:=f,cd:=cd,cl:=[],wp:=fun _=>True,wpx:=fun _ h=>h,nm:=nm_law,p:=p,loose:=loose,mg:=mg,mb:=mb,n:=160,
   sl:=sl,sv:=sv,sn:=sn,B:=K0,X₀:=KX,T₀:=T,hk:=rfl,hn:=by decide,hA:=rfl,hd:=by show callerA.depth+1+2*160<recursionLimit;decide,hu:=by show callerA.units+3+8*160+8<cLine;decide,hs₀:=hL,hi:=hI }
 have Gc:COK c (.ref 59) Γ:=G c c.A ⟨rfl,rfl,c.hd,c.hu⟩ rfl rfl
 have Fc:FS c s.heap ⟨[],[],[],[]⟩ ⟨[some (.const sl),none,none,none,none,none],[]⟩:=by
  refine ⟨⟨m,F,fun k x v hk hv=>?_⟩,⟨fun p hp=>(nomatch hp),List.nodup_nil,List.nodup_nil,rfl,rfl,fun i o e=>(nomatch e),fun d hd=>(nomatch hd),fun d hd=>(nomatch hd)⟩,trivial⟩
  match k,hv with
  | 0,hv=>cases hv;cases hk;exact ⟨_,hm,.const sl⟩
  | 1,hv=>cases hv
  | 2,hv=>cases hv
  | 3,hv=>cases hv
  | 4,hv=>cases hv
  | 5,hv=>cases hv
 obtain ⟨σ',T',e,eH⟩:=run_law (P:=w.params) (Γ:=Γ) (H:=[]) (sl:=sl) hn k0 kN k1 k2 k3 kD kW kL kM
 refine (bx_law (c:=c) rfl rfl rfl Gc rfl ⟨[],[],[],[]⟩).go s _ (some (.ret (.bool true)),σ') Fc.up e _ _ ?_
 intro h' tk' W' y FF X hy
 obtain ⟨gg,tt,F1⟩:=FF
 obtain ⟨m',Fm,_⟩:=F1.fr
 cases hy with
 | ret hr =>
  cases hr
  exact k h' tk' m' ⟨Fm.ns,fun b o e=>Fm.keep b o (tt.other b o e (fun h=>(nomatch h))),Nat.le_refl _⟩
 walk_at "z"
end Mine
end
open PySem PySem.W PyProof.Rows PySem.SeqAt PyProof.Rows.KTD PyProof.V
open Mine (law_walk)
set_option maxRecDepth 100000 in
set_option maxHeartbeats 0 in
theorem PySem.Challenge.cw_on0139_01_holds : PySem.Challenge.rw_on0139_01.Holds := by
  w_on
  o_law
  o_head (kHook Mine.F.K Mine.F.as (fun _ => by kernel_rfl))
  (case hw => w_witness2)
  k_go0
  rename Fr _ _ _ _ => F
  rename IntsAre _ _ => hI
  rename Heap.IsList _ _ _ => hL
  rename Below _ _ _ _ => K0
  rename Top _ _ _ _ _ _ => T
  rename Frag.In _ _ => KX
  rename Shared.gens _ = #[] => hg
  rename ¬ _ < _ => hlen
  refine law_walk KX (topRead_of T) K0 hL hI ?_ F rfl fun h' tk' m' F' => ?_
  · have := Int.not_lt.mp hlen
    omega
  · clear T KX K0
    exact goodW_bool F' hg (raisesW_false (by wrow_none_raised)) (by wrow_post) rfl

