import PyProof.Rows.All
import Wide.All
import OpenK.AllK
import Wide.FinOn
import HandS.ForMost
import KE.SortData
import KE.KDictKeyed
import HandS.Exc
import HandS.Lambda
import HandS.ExcCtx
import HandS.ExcInit
import HandS.HotCalls
import HandS.RaiseFrom
import HandS.ExcInitHot
import HandS.ForExc
import HandS.IsInst
import HandS.TupAny
import HandS.TupMul
import HandS.TupLe
import HandS.Style
import HandS.Flow
import HandS.Iter
import KE.DataCmp
import PyProof.Rows.IntBool
import HandS.More
import HandS.Flt
import HandS.RaiseMore
import HandS.SortRule
import HandS.Conv
import HandS.Zip
import KE.GoesEnum
import HandS.NoneIn
import KE.GoesZip
import KE.GoesMore
import HandS.Keys
import HandS.ExcOwn
import HandS.ExcIs
import HandS.ExcField
import HandS.TryMany
import HandS.Finally
import HandS.Comp
import PyProof.CompFree
import HandS.Replace
import HandS.SetFor
import HandS.Remove
import PyProof.CollectIter
import HandS.SortKw
import KE.SortKeyHeap
import HandS.Dict
import HandS.DictComp
import KE.KDictItemsList
import HandS.ListItems
import HandS.Strs
import PyProof.DictCompW
import HandS.DictTup
import KE.KDictPairs
import KE.DataFind
import HandS.Deep
import HandS.OwnEq
import OpenK.KOps
import PyProof.ReprRoads
import HandS.FStr
import PyProof.CallStr
import PyProof.Rows.Range3
import PyProof.RulesDel
import PyProof.RulesDelMore
import PyProof.DelItemList
import HandS.List
import HandS.Defaults
import HandS.EndTab
import HandS.Head0
import HandS.Head1
import HandS.Head2
import HandS.HeadHook1
import HandS.HeadHook2
import HandS.HeadHook3
import HandS.HeadHook4
import PySem.Challenge.RW_treelore_k68_whole_few_new_ties
section
set_option Elab.async false
set_option linter.all false
set_option maxRecDepth 100000
set_option maxHeartbeats 4000000
namespace Ev
open PySem L2
inductive D where
  | non | bl (b : Bool) | int (i : Int) | str (x : Str)
  | tup (xs : List D) | lst (xs : List D)
  | scr (ns : List Int) | dct
  | ref (i : Nat) | fn (i : Nat) | cls (i : Nat) | ty (n : String)
  | xo (c : Nat) (fs : List D)
  | dks (ks : List Str) (ds : List D)
  | tts (ts : List Str)
  | lam (i : Nat)
  | dcn (ks ds : List D)
inductive O where
  | lst (xs : List D)
  | ins (c : Nat) (fs : List (Str × D))
  | dct (kvs : List (List Int × D))
  | dci (kvs : List (Int × D))
  | dcm (kvs : List (D × D))
  | hid
abbrev Mu := List O
abbrev Sl := List (Option D)
inductive R (α : Type) where
  | ok (a : α) (m : Mu) | exc (c : Nat) (fs : List D) (m : Mu) | bad
def R.bind {α β : Type} : R α → (α → Mu → R β) → R β
  | .ok a m, f => f a m
  | .exc c fs m, _ => .exc c fs m
  | .bad, _ => .bad
def seqD (m : Mu) : D → Option (List D)
  | .tup xs => some xs
  | .lst xs => some xs
  | .scr ns => some (ns.map .int)
  | .ref i => match m[i]? with
    | some (.lst xs) => some xs
    | _ => none
  | _ => none
def lsD (m : Mu) : D → Option (List D)
  | .tup _ => none
  | x => seqD m x
def intD : D → Option Int
  | .int i => some i
  | _ => none
def allD {α : Type} (f : D → Option α) : List D → Option (List α)
  | [] => some []
  | x :: r => match f x, allD f r with
    | some a, some l => some (a :: l)
    | _, _ => none
def rowI : D → Option (List Int)
  | .tup xs => allD intD xs
  | _ => none
inductive Bi where
  | len | tuple | list | all | any | sum | max | min | max2 | min2 | min3 | int | repr | str | abs | sorted | ord
  deriving DecidableEq
inductive Mt where
  | append | extend | pop | upper | get2 | join | sindex | insert | remove | lindex | lcount | tindex | starts
  deriving DecidableEq
inductive Tg where
  | nm (i : Nat) | tp (is : List Nat)
mutual
inductive E where
  | cst (d : D) | var (i : Nat) | glob (x : Str) (d : D)
  | tup (es : Es) | lst (es : Es) | lstL (es : Es) | dctE
  | bin (op : Operator) (a b : E) | neg (a : E) | not (a : E)
  | cmp (op : CmpOp) (a b : E) | chain (o1 o2 : CmpOp) (a b c : E)
  | and (es : Es) | or (es : Es) | ite (c a b : E)
  | ix (a b : E) | sl (a lo hi : E) | abs | rev (a : E) | lrg (a : E)
  | call (x : Str) (f : Nat) (es : Es)
  | bi (x : Str) (b : Bi) (es : Es) | mt (k : Mt) (a : E) (es : Es) | isi (a : E) (ts : List String) (tp : Bool)
  | lc (elt : E) (tg : Tg) (it : It) (c : E) | lcV (lv : Bool) (elt : E) (tg : Tg) (a : E) (c : E)
  | new (x : Str) (c f : Nat) (es : Es) | fld (a : E) (f : Str) (cs : List Nat) | meth (a : E) (x : Str) (tb : List (Nat × Nat)) (es : Es) | binL (op : Operator) (a b : E) | orV (a b : E) | callZ (x : Str) (f : Nat) (es : Es) | lcL (elt : E) (tg : Tg) (it : It) (c : E) | lc2 (elt : E) (tg : Tg) (it : It) (tg1 : Tg) (it1 : It) (c : E) | slL (a lo hi : E)
  | dctL | dget (a b : E) | din (neg : Bool) (a b : E) | dg1 (a b : E) | dg2 (a b d : E) | dls (a : E) | dsrt (a : E) | dc (k v : E) (tg : Tg) (it : It) | dcC (k v : E) (tg : Tg) (it : It) (c : E) | dcD (k v : E) (tg : Tg) (i : Nat) (c : E) | dcE (k v : E) (tg : Tg) (i : Nat) (c : E) | dcZ (k v : E) (tg : Tg) (a : E) (c : E) | dil (a : E) | dnC (k v : E) (tg : Tg) (it : It) | dng (a b d : E)
  | callD (x : Str) (f : Nat) (es : Es) | callK (x : Str) (f : Nat) (es : Es) (nm : Str) (e : E) | callN (x : Str) (f : Nat) (es : Es) (d : D)
  | dof (a : E) | lrg2 (a b : E) | trg (a : E) | rpl (es : Es) | tts (es : Es) | ttv (a : E) | srtk (a : E) (x : Str) (f : Nat) | lam (i : Nat) | srtl (lv : Bool) (a : E) (f : Nat) | dig (a b : E) | dii (neg : Bool) (a b : E) | disi (a : E)
  | dmL | dmix (a b : E) | dmin (neg : Bool) (a b : E) | dmsrt (a : E) | dmsd (a k x : E) | dmlen (a : E)
  | ditL | dig1 (a b : E) | dilen (a : E) | lsL (a : E) | lset (a : E) | lcK (elt : E) (tg : Tg) (v : Nat) (c : E)
  | lcX (elt : E) (tg : Tg) (it : It) | eqO (neg : Bool) (a b : E) (tb sb : List (Nat × Nat)) | lenO (a : E) (tb : List (Nat × Nat)) | strO (a : E) (tb : List (Nat × Nat)) | fs1 (a : E) | iin (a : E) (x : Str) (i : Nat) (cs : List Nat) | bad | eis (a : E) (xs : List Str) (cs : List Nat) (tp : Bool) | efl (a : E) (f : Str) (tb : List (Nat × Nat)) | callV (a : E) (es : Es)
inductive Es where
  | nil | cons (e : E) (r : Es)
inductive It where
  | of (e : E) | rng1 (a : E) | rng2 (a b : E) | rng3 (a b c : E) | enum (e : E) | zip (a b : E) | zipS (a b : E) | enumS (e : E) | zipM (a b : E) | zipSM (a b : E)
end
mutual
inductive S where
  | ex (e : E) | set (i : Nat) (e : E) | unp (is : List Nat) (e : E) | sub (a i e : E) | aug (i : Nat) (op : Operator) (e : E)
  | ite (c : E) (a b : Ss) | fo (tg : Tg) (it : It) (b : Ss) | wh (c : E) (b : Ss)
  | ret (e : E) | retN | pass | brk | cont
  | unpL (is : List Nat) (e : E) | par (i j : Nat) (a b : E)
  | dput (a k e : E) | diput (a k e : E) | dmput (a k e : E)
  | setA (a : E) (f : Str) (cs : List Nat) (e : E) | augA (a : E) (f : Str) (cs : List Nat) (op : Operator) (e : E)
  | foR (en : Bool) (tg : Tg) (e : E) (b : Ss) | unpS (is : List Nat) (e : E) | sls (a lo hi e : E)
  | bad | rz (x : Str) (c : Nat) (es : Es) | tr (b : Ss) (h : Hs)
  | trX (b : Ss) (x : Str) (cs hl : List Nat) (i : Nat) (z : Str) (c : Nat) (es : Es) | trN (b f : Ss) | dels (a lo hi : E) | subA (a i : E) (op : Operator) (e : E)
inductive Ss where
  | nil | cons (s : S) (r : Ss)
inductive Hs where
  | nil | cons (x : Str) (cs : List Nat) (i : Option Nat) (b : Ss) (r : Hs)
end
def nEq : Str := "__eq__"
structure Fn where
  nm : Str
  ps : Nat
  nn : Nat
  body : Ss
  keep : Bool
  own : Option Nat
end Ev
namespace Ev
open PySem L2
structure Rh where
  lv : List Addr
  hd : List Addr
def Rh.out (ρ : Rh) (a : Addr) : Prop := a ∉ ρ.lv ∧ a ∉ ρ.hd
end Ev
namespace Ev
open PySem PySem.Spec PyProof.Rows L2
def hotNames : List Str := ["Stopped"]
end Ev
namespace Ev
open PySem PySem.Spec PyProof.Rows L2
section
variable {X : Cx} {g : Gm} {W : WX} {a b c : Expr} {fa fb fc : Sl → Mu → R D} {pos : Pos}
def tyNames : List String := ["NoneType", "bool", "int", "str", "tuple", "list", "dict"]
end
end Ev
namespace Ev
open PySem PySem.Spec PyProof.Rows L2
structure Kl where
  nm : Str
  fl : List Str
  ms : List (Str × Nat)
  sb : List Nat
structure Pg where
  P : List Fn
  gl : List (Str × D)
  nb : List Str
  ct : List (Str × List Nat)
  rz : List (Str × Nat)
  cf : List (List Str)
  ik : List Kl
  lb : Nat → Arguments → Expr → Scope → Bool
  kd : List (Nat × (Str × D))
def hlOf (rz : List (Str × Nat)) : List Nat := (rz.filter fun q => hotNames.contains q.1).map (·.2)
def Pg.no (G : Pg) : Pg := ⟨G.P, G.gl, G.nb, G.ct, G.rz, G.cf, G.ik, fun _ _ _ _ => false, G.kd⟩
end Ev
namespace Ev
open PySem PySem.Spec PyProof.Rows L2
def addrOf (K : PySem.W.Frag) (x : Str) : Option Addr := match PySem.W.nsIn K mainGlobals x with
  | some (some (.ref a)) => some a
  | _ => none
def findOf (K : PySem.W.Frag) (C : Addr) (x : Str) : Option Addr := match PySem.W.findIn K (.ref C) x with
  | some (some (.ref a)) => some a
  | _ => none
structure Tx where
  xs : List Str
  bt : List (Str × String)
def faOf (K : PySem.W.Frag) (G : Pg) (i : Nat) : Option Addr := (G.P[i]?).bind fun F => match F.own with
      | none => addrOf K F.nm
      | some c => if c = 1000 ∨ c = 1001 then none else (G.ik[c]?).bind fun q => (addrOf K q.nm).bind fun C => findOf K C F.nm
section
variable {K : PySem.W.Frag} {g : Gm}
def keysB : List Str → List Str → List DictEntry → Bool
  | [], [], [] => true
  | k :: ks, z :: zs, e :: es => (match e.key, e.val with | .str y _, .str u _ => y == k && u == z | _, _ => false) && keysB ks zs es
  | _, _, _ => false
def litB : D → Value → Bool
  | .str z, .str y _ => y == z
  | .int i, .int j _ => j == i
  | _, _ => false
def litsB : List D → List Value → Bool
  | [], [] => true
  | d :: ds, v :: vs => litB d v && litsB ds vs
  | _, _ => false
def tupB (ds : List D) (o : Obj) : Bool := match o.cls, o.data with
  | .type c, .seq its _ => c == "tuple" && decide (its.size ≤ sizeLine) && litsB ds its.toList && (rowI (.tup ds)).isNone
  | _, _ => false
def keysBD : List Str → List D → List DictEntry → Bool
  | [], [], [] => true
  | k :: ks, d :: ds, e :: es => (match e.key with | .str y _ => y == k | _ => false) && litB d e.val && keysBD ks ds es
  | _, _, _ => false
def refsB : List Str → List Addr → List DictEntry → Bool
  | [], as, es => as.isEmpty && es.isEmpty
  | k :: ks, as, es => match as, es with
    | a :: as, e :: es => (match e.key with | .str y _ => y == k | _ => false) && ((match e.val with | .ref b => b == a | _ => false) && refsB ks as es)
    | _, _ => false
end
def excB (K : PySem.W.Frag) (C : Addr) : Bool :=
  decide (PySem.W.findIn K (.ref C) "__getattribute__" = some (some (.builtin "BaseException.__getattribute__"))) && (decide (PySem.W.findIn K (.ref C) "__getattr__" = some none) && (decide (PySem.W.subIn K (.ref C) (.type "BaseException") = some true) &&
  (PySem.W.hasDictIn K C && (decide (PySem.W.findIn K (.ref C) "__class__" = some (some (.builtin "object.__class__"))) && (decide (PySem.W.specialIn K (.builtin "object.__class__") "__get__" = some (some (.builtin "getset_descriptor.__get__"))) &&
  (decide (PySem.W.takesIn K (.builtin "object.__class__") = some true) && (decide (PySem.W.mroIn K C (.type "object") = some true) && (decide (PySem.W.typeIn K (.ref C) = some (.type "type")) && PySem.W.keepIn K (.ref C)))))))))
def ndB : List Str → Bool
  | [] => true
  | x :: r => !r.contains x && ndB r
def idxAll {α : Type} (f : Nat → α → Bool) : Nat → List α → Bool
  | _, [] => true
  | i, x :: r => f i x && idxAll f (i + 1) r
def xcB (K : PySem.W.Frag) (T : Tx) (cf : List (List Str)) : Bool := idxAll (fun c x => match addrOf K x with
  | some C => excB K C && ndB (cf.getD c []) && (cf.getD c []).all fun f => decide (PySem.W.findIn K (.ref C) f = some none)
  | none => true) 0 T.xs
def ctB1 (K : PySem.W.Frag) (T : Tx) (cv : Value) (cs : List Nat) : Bool := idxAll (fun c x => match addrOf K x with
  | some C => decide (PySem.W.exmOne K (.ref C) cv = some (cs.contains c)) && decide (PySem.W.kitOne K (.ref C) cv = some (cs.contains c))
  | none => true) 0 T.xs && tyNames.all fun t => decide (PySem.W.kitOne K (.type t) cv = some false)
def ctB (K : PySem.W.Frag) (T : Tx) (ct : List (Str × List Nat)) : Bool := ct.all fun q => match PySem.W.nsIn K mainGlobals q.1 with
  | some (some (.ref C)) => ctB1 K T (.ref C) q.2
  | some none => (match T.bt.lookup q.1 with
    | some n => ctB1 K T (.type n) q.2 && !(q.1 == ("__name__" : Str))
    | none => false)
  | _ => false
def oexB (K : PySem.W.Frag) (C : Addr) : Bool := match K.lookup C with
  | some ⟨.type "type", _, .cls cq, sq⟩ => (match cq.mro, sq.toList with
    | .ref C2 :: bq, [_, _, _, _, some (.builtin nq), _] => C2 == C && nq == "ValueError.__new__" && !cq.hasDel && cq.hasDict && PySem.HandSPX.refsVE bq
    | _, _ => false)
  | _ => false
def rzB0 (K : PySem.W.Frag) (T : Tx) (cf : List (List Str)) (rz : List (Str × Nat)) : Bool := rz.all fun q => decide (T.xs[q.2]? = some q.1) && match addrOf K q.1 with
  | some C => (match cf.getD q.2 [] with
    | [] => PySem.W.excIn K C [.type "ValueError", .type "Exception", .type "BaseException", .type "object"] "ValueError.__new__"
    | _ :: _ => oexB K C && decide (PySem.W.findIn K (.ref C) "__setattr__" = some (some (.builtin "object.__setattr__"))))
  | none => false
def hotB1 (K : PySem.W.Frag) (C : Addr) : Bool := hotNames.all fun n => match PySem.W.nsIn K mainGlobals n with
  | some (some v) => decide (v ≠ .ref C)
  | some none => true
  | none => false
def hotB (K : PySem.W.Frag) (T : Tx) (rz : List (Str × Nat)) : Bool := (hlOf rz).isEmpty || idxAll (fun c x => (hlOf rz).contains c || match addrOf K x with
  | some C => hotB1 K C
  | none => true) 0 T.xs
def meth (s : Stmt) (j : Nat) : Stmt := match s with
  | .ClassDef _ _ _ b _ _ _ _ _ _ _ => b.getD j (.Pass ⟨0, 0, 0, 0⟩)
  | _ => .Pass ⟨0, 0, 0, 0⟩
def clsB (K : PySem.W.Frag) (C : Addr) : Bool := PySem.W.plainGet K C Str.empty && (PySem.W.hasDictIn K C && (PySem.W.plainOver K C && decide (PySem.W.findIn K (.ref C) "__setattr__" = some (some (.builtin "object.__setattr__")))))
def methB (K : PySem.W.Frag) (fa : Nat → Option Addr) (C : Addr) (p : Str × Nat) : Bool := match findOf K C p.1 with
  | some a => decide (fa p.2 = some a) && (PySem.W.isFn K (.ref a) && PySem.W.keepIn K (.ref a))
  | none => false
def isiB (K : PySem.W.Frag) (C : Addr) : Bool := decide (PySem.W.findIn K (.ref C) "__class__" = some (some (.builtin "object.__class__"))) && (decide (PySem.W.specialIn K (.builtin "object.__class__") "__get__" = some (some (.builtin "getset_descriptor.__get__"))) &&
  (decide (PySem.W.takesIn K (.builtin "object.__class__") = some true) && decide (PySem.W.mroIn K C (.type "object") = some true)))
def ikB2 (K : PySem.W.Frag) (G : Pg) : Bool := G.ik.all fun q => match addrOf K q.nm with
  | some C => isiB K C && ((tyNames.all fun n => PySem.W.notFirst K C (.type n) && decide (PySem.W.kitOne K (.type n) (.ref C) = some false)) && (((q.ms.lookup nEq).isNone || decide (PySem.W.findIn K (.ref C) "__ne__" = some (some (.builtin "object.__ne__")))) &&
    idxAll (fun j q' => match addrOf K q'.nm with
      | some D => decide (PySem.W.kitOne K (.ref D) (.ref C) = some (q.sb.contains j))
      | none => false) 0 G.ik))
  | none => false
def ikB1 (K : PySem.W.Frag) (G : Pg) : Bool := G.ik.all fun q => match addrOf K q.nm with
  | some C => clsB K C && ((q.fl.all fun f => decide (PySem.W.findIn K (.ref C) f = some none)) && ((q.ms.all fun p => methB K (faOf K G) C p) && ((q.ms.lookup ("__init__" : Str)).isNone || (PySem.W.makesIn K C && PySem.W.keepIn K (.ref C)))))
  | none => false
def ikB (K : PySem.W.Frag) (G : Pg) : Bool := ikB1 K G && ikB2 K G
def rzB (K : PySem.W.Frag) (T : Tx) (cf : List (List Str)) (rz : List (Str × Nat)) : Bool := rzB0 K T cf rz && hotB K T rz
end Ev
namespace He
open PySem PySem.Spec PyProof.Rows L2
def obsZ (as : List Addr) (fa : List Fa) (fn : List DefD) (ts : List Tab) (tf : List Defn) (ex : PySem.W.Frag → Bool) (g : Addr → Option Obj) : AlX := (obsT fa fn ts (frT g as), ex (frT g as) && tabsB g tf (frT g as))
theorem saysZ_of {as : List Addr} {fa : List Fa} {fn : List DefD} {ts : List Tab} {tf : List Defn} {ex : PySem.W.Frag → Bool} {w : World} {h : Heap} (e : obsZ as fa fn ts tf ex h.get? = valX fn ts w) : SaysX fa fn ts tf ex w h (frT h.get? as) := by
  have e1 : obsT fa fn ts (frT h.get? as) = valT fn ts w := congrArg (fun z : AlX => z.1) e
  have e2 : (ex (frT h.get? as) && tabsB h.get? tf (frT h.get? as)) = true := congrArg (fun z : AlX => z.2) e
  obtain ⟨h1, h2⟩ := ba e2
  have key : ∀ p ∈ tf, PySem.W.codeHdIn (frT h.get? as) (cT (frT h.get? as) p).1 (cT (frT h.get? as) p).2 = true ∧ ∃ o, h.get? (cT (frT h.get? as) p).2 = some o ∧ emptyTab o = true := fun p hp => by
    obtain ⟨h3, h4⟩ := ba (List.all_eq_true.mp h2 p hp)
    refine ⟨h3, ?_⟩
    cases q : h.get? (cT (frT h.get? as) p).2 with
    | none =>
      rw [q] at h4
      cases h4
    | some o =>
      rw [q] at h4
      exact ⟨o, rfl, h4⟩
  exact ⟨e1, h1, fun p hp => (key p hp).1, fun p hp => by
    obtain ⟨_, o, q, z⟩ := key p hp
    exact frT_none q z, fun p hp => by
    obtain ⟨_, o, q, z⟩ := key p hp
    rw [q, emptyTab_eq z]⟩
def hookZ (as : List Addr) (fa : List Fa) (fn : List DefD) (ts : List Tab) (tf : List Defn) (ex : PySem.W.Frag → Bool) : PySem.W.Hook where
  α := AlX
  obs := fun s => obsZ as fa fn ts tf ex s.heap.get?
  val := fun w => valX fn ts w
  says := fun w h => ∃ K : PySem.W.Frag, K.In h ∧ SaysX fa fn ts tf ex w h K
  of := fun _ _ e => ⟨_, frT_in, saysZ_of e⟩
  keeps := fun _ _ _ ⟨K, hK, c⟩ k => ⟨K, PySem.W.Frag.In.keeps hK k, ⟨c.t, c.more, c.hd, c.out, fun p hp => k _ _ (c.empty p hp)⟩⟩
theorem obsZ_eq {as : List Addr} {fa : List Fa} {fn : List DefD} {ts : List Tab} {tf : List Defn} {ex : PySem.W.Frag → Bool} {g : Addr → Option Obj} {s : Shared} (h : ∀ a, g a = s.heap.get? a) : obsZ as fa fn ts tf ex g = (hookZ as fa fn ts tf ex).obs s := by
  have e : g = s.heap.get? := funext h
  rw [e] <;> rfl
end He
namespace Ev
open PySem PySem.Spec PyProof.Rows L2
abbrev dfD (x : Str) (st : Stmt) : He.DefD := ⟨(x, none), x, x, defArgs st, defBody st, defScope st, [], []⟩
abbrev mtD (cn x qual : Str) (st : Stmt) : He.DefD := ⟨(cn, some x), x, qual, defArgs st, defBody st, defScope st, [], []⟩
inductive CnF where
  | tup (x : Str) (ds : List D) | dks (x : Str) (ks zs : List Str) | dkd (x : Str) (ks : List Str) (ds : List D) | dkn (x : Str) (ks xs : List Str)
def CnF.nm : CnF → Str
  | .tup x _ => x
  | .dks x _ _ => x
  | .dkd x _ _ => x
  | .dkn x _ _ => x
def esOf (K : PySem.W.Frag) (x : Str) : List DictEntry := match K.lookup (He.ga K x) with
  | some ⟨_, _, .dict es _, _⟩ => es.toList
  | _ => []
def CnF.ok (K : PySem.W.Frag) : CnF → Bool
  | .tup x ds => (match K.lookup (He.ga K x) with | some o => tupB ds o | none => false)
  | .dks x ks zs => keysB ks zs (esOf K x)
  | .dkd x ks ds => keysBD ks ds (esOf K x)
  | .dkn x ks xs => refsB ks (xs.map (He.ga K)) (esOf K x) && xs.all fun y => He.eqO (PySem.W.nsIn K mainGlobals y) (some (some (.ref (He.ga K y))))
def iniOk (K : PySem.W.Frag) (x : Str) : Bool := decide (PySem.W.typeIn K (.ref (He.ma K (He.ga K x) "__init__")) = some (.type "function")) && He.eqO (PySem.W.findIn K (.ref (He.ga K x)) "__init__") (some (some (.ref (He.ma K (He.ga K x) "__init__"))))
structure Hd where
  ns : List Str
  ms : List (Str × Str)
  fr : List Str
  cs : List CnF
  is : List Str
  lm : List Str
def glB (K : PySem.W.Frag) (x : Str) : Bool := He.eqO (PySem.W.nsIn K mainGlobals x) (some (some (.ref (He.ga K x))))
def lmD (lm : List Str) : List He.Defn := lm.map fun x => (x, none)
def tabNd (K : PySem.W.Frag) : List Str → Bool
  | [] => true
  | x :: r => (r.all fun y => !decide ((He.cT K (y, none)).2 = (He.cT K (x, none)).2)) && tabNd K r
def exB (G : Pg) (T : Tx) (h : Hd) (K : PySem.W.Frag) : Bool := h.ns.all (glB K) && ((h.ms.all fun p => He.eqO (PySem.W.findIn K (.ref (He.ga K p.1)) p.2) (some (some (.ref (He.ma K (He.ga K p.1) p.2))))) && ((h.fr.all fun x => He.eqO (PySem.W.nsIn K mainGlobals x) (some none)) &&
  ((h.cs.all (CnF.ok K)) && ((h.is.all (iniOk K)) && (xcB K T G.cf && (ctB K T G.ct && (rzB K T G.cf G.rz && (ikB K G && tabNd K h.lm))))))))
end Ev
namespace Ev
open PySem L2
abbrev Xp := Nat → List D → Mu → Prop
structure Q4 where
  n : Sl → Mu → Prop
  r : D → Mu → Prop
  b : Sl → Mu → Prop := fun _ _ => False
  c : Sl → Mu → Prop := fun _ _ => False
  x : Nat → List D → Sl → Mu → Prop := fun _ _ _ _ => False
abbrev Q4.e (Q : Q4) (s : Sl) : Xp := fun c fs m => Q.x c fs s m
end Ev
namespace K68
open PySem Ev L2
def top (i : Nat) : Stmt := PySem.Challenge.pw_treelore_k68_whole_few_new_ties.main.body.getD i (.Pass ⟨0, 0, 0, 0⟩)
def b0 : Ss := (.cons (.ite (.cmp .Is (.var 0) (.cst .non))
    (.cons (.ret (.cst (.int 0))) .nil)
    .nil) (.cons (.ret (.ix (.var 0) (.cst (.int 3)))) .nil))
def f0 : Fn := ⟨"count_of", 1, 1, b0, false, none⟩
abbrev s0 : Stmt := top 8
def b1 : Ss := (.cons (.ret (.tup (.cons (.var 0) (.cons (.var 1) (.cons (.var 2) (.cons (.bin .Add (.bin .Add (.call "count_of" 0 (.cons (.var 0) .nil)) (.cst (.int 1))) (.call "count_of" 0 (.cons (.var 2) .nil))) .nil)))))) .nil)
def f1 : Fn := ⟨"tie_over", 3, 3, b1, false, none⟩
abbrev s1 : Stmt := top 9
def b2 : Ss := (.cons (.ret (.and (.cons (.cmp .LtE (.bin .Add (.var 0) (.cst (.int 1))) (.bin .Mult (.glob "HEAVIER" (.int 3)) (.bin .Add (.var 1) (.cst (.int 1))))) (.cons (.cmp .LtE (.bin .Add (.var 1) (.cst (.int 1))) (.bin .Mult (.glob "HEAVIER" (.int 3)) (.bin .Add (.var 0) (.cst (.int 1))))) .nil)))) .nil)
def f2 : Fn := ⟨"are_even", 2, 2, b2, false, none⟩
abbrev s2 : Stmt := top 10
def b3 : Ss := (.cons (.ret (.call "are_even" 2 (.cons (.call "count_of" 0 (.cons (.var 0) .nil)) (.cons (.call "count_of" 0 (.cons (.var 1) .nil)) .nil)))) .nil)
def f3 : Fn := ⟨"is_even_top", 2, 2, b3, false, none⟩
abbrev s3 : Stmt := top 11
def b4 : Ss := (.cons (.ite (.cmp .Eq (.var 0) (.lst .nil))
    (.cons (.ret (.cst .non)) .nil)
    .nil) (.cons (.set 1 (.bin .FloorDiv (.bi "len" .len (.cons (.var 0) .nil)) (.cst (.int 2)))) (.cons (.ret (.call "tie_over" 1 (.cons (.call "by_halves" 4 (.cons (.sl (.var 0) .abs (.var 1)) .nil)) (.cons (.ix (.var 0) (.var 1)) (.cons (.call "by_halves" 4 (.cons (.sl (.var 0) (.bin .Add (.var 1) (.cst (.int 1))) .abs) .nil)) .nil))))) .nil)))
def f4 : Fn := ⟨"by_halves", 1, 2, b4, false, none⟩
abbrev s4 : Stmt := top 12
def b5 : Ss := (.cons (.unp [3, 4, 5, 6] (.var 2)) (.cons (.ite (.and (.cons (.call "are_even" 2 (.cons (.call "count_of" 0 (.cons (.var 0) .nil)) (.cons (.call "count_of" 0 (.cons (.var 3) .nil)) .nil))) (.cons (.call "are_even" 2 (.cons (.bin .Add (.bin .Add (.call "count_of" 0 (.cons (.var 0) .nil)) (.cst (.int 1))) (.call "count_of" 0 (.cons (.var 3) .nil))) (.cons (.call "count_of" 0 (.cons (.var 5) .nil)) .nil))) .nil)))
    (.cons (.ret (.call "tie_over" 1 (.cons (.call "tie_over" 1 (.cons (.var 0) (.cons (.var 1) (.cons (.var 3) .nil)))) (.cons (.var 4) (.cons (.var 5) .nil))))) .nil)
    .nil) (.cons (.unp [7, 8, 9, 10] (.var 3)) (.cons (.ret (.call "tie_over" 1 (.cons (.call "tie_over" 1 (.cons (.var 0) (.cons (.var 1) (.cons (.var 7) .nil)))) (.cons (.var 8) (.cons (.call "tie_over" 1 (.cons (.var 9) (.cons (.var 4) (.cons (.var 5) .nil)))) .nil))))) .nil))))
def f5 : Fn := ⟨"turned_left", 3, 11, b5, false, none⟩
abbrev s5 : Stmt := top 13
def b6 : Ss := (.cons (.unp [3, 4, 5, 6] (.var 0)) (.cons (.ite (.and (.cons (.call "are_even" 2 (.cons (.call "count_of" 0 (.cons (.var 2) .nil)) (.cons (.call "count_of" 0 (.cons (.var 5) .nil)) .nil))) (.cons (.call "are_even" 2 (.cons (.bin .Add (.bin .Add (.call "count_of" 0 (.cons (.var 2) .nil)) (.cst (.int 1))) (.call "count_of" 0 (.cons (.var 5) .nil))) (.cons (.call "count_of" 0 (.cons (.var 3) .nil)) .nil))) .nil)))
    (.cons (.ret (.call "tie_over" 1 (.cons (.var 3) (.cons (.var 4) (.cons (.call "tie_over" 1 (.cons (.var 5) (.cons (.var 1) (.cons (.var 2) .nil)))) .nil))))) .nil)
    .nil) (.cons (.unp [7, 8, 9, 10] (.var 5)) (.cons (.ret (.call "tie_over" 1 (.cons (.call "tie_over" 1 (.cons (.var 3) (.cons (.var 4) (.cons (.var 7) .nil)))) (.cons (.var 8) (.cons (.call "tie_over" 1 (.cons (.var 9) (.cons (.var 1) (.cons (.var 2) .nil)))) .nil))))) .nil))))
def f6 : Fn := ⟨"turned_right", 3, 11, b6, false, none⟩
abbrev s6 : Stmt := top 14
def b7 : Ss := (.cons (.ite (.call "is_even_top" 3 (.cons (.var 0) (.cons (.var 2) .nil)))
    (.cons (.ret (.call "tie_over" 1 (.cons (.var 0) (.cons (.var 1) (.cons (.var 2) .nil))))) .nil)
    .nil) (.cons (.ite (.cmp .Lt (.call "count_of" 0 (.cons (.var 0) .nil)) (.call "count_of" 0 (.cons (.var 2) .nil)))
    (.cons (.ret (.call "turned_left" 5 (.cons (.var 0) (.cons (.var 1) (.cons (.var 2) .nil))))) .nil)
    .nil) (.cons (.ret (.call "turned_right" 6 (.cons (.var 0) (.cons (.var 1) (.cons (.var 2) .nil))))) .nil)))
def f7 : Fn := ⟨"evened", 3, 3, b7, false, none⟩
abbrev s7 : Stmt := top 15
def b8 : Ss := (.cons (.ite (.call "is_even_top" 3 (.cons (.var 0) (.cons (.var 2) .nil)))
    (.cons (.ret (.call "tie_over" 1 (.cons (.var 0) (.cons (.var 1) (.cons (.var 2) .nil))))) .nil)
    .nil) (.cons (.ite (.cmp .Lt (.call "count_of" 0 (.cons (.var 0) .nil)) (.call "count_of" 0 (.cons (.var 2) .nil)))
    (.cons (.unp [5, 4, 3, 6] (.var 2)) (.cons (.ret (.call "evened" 7 (.cons (.call "linked" 8 (.cons (.var 0) (.cons (.var 1) (.cons (.var 5) .nil)))) (.cons (.var 4) (.cons (.var 3) .nil))))) .nil))
    .nil) (.cons (.unp [3, 4, 5, 6] (.var 0)) (.cons (.ret (.call "evened" 7 (.cons (.var 3) (.cons (.var 4) (.cons (.call "linked" 8 (.cons (.var 5) (.cons (.var 1) (.cons (.var 2) .nil)))) .nil))))) .nil))))
def f8 : Fn := ⟨"linked", 3, 7, b8, false, none⟩
abbrev s8 : Stmt := top 16
def b9 : Ss := (.cons (.ite (.cmp .Is (.var 0) (.cst .non))
    (.cons (.ret (.call "tie_over" 1 (.cons (.cst .non) (.cons (.var 2) (.cons (.cst .non) .nil))))) .nil)
    .nil) (.cons (.unp [3, 4, 5, 6] (.var 0)) (.cons (.ite (.cmp .LtE (.var 1) (.call "count_of" 0 (.cons (.var 3) .nil)))
    (.cons (.ret (.call "evened" 7 (.cons (.call "with_more" 9 (.cons (.var 3) (.cons (.var 1) (.cons (.var 2) .nil)))) (.cons (.var 4) (.cons (.var 5) .nil))))) .nil)
    .nil) (.cons (.ret (.call "evened" 7 (.cons (.var 3) (.cons (.var 4) (.cons (.call "with_more" 9 (.cons (.var 5) (.cons (.bin .Sub (.bin .Sub (.var 1) (.call "count_of" 0 (.cons (.var 3) .nil))) (.cst (.int 1))) (.cons (.var 2) .nil)))) .nil))))) .nil))))
def f9 : Fn := ⟨"with_more", 3, 7, b9, false, none⟩
abbrev s9 : Stmt := top 17
def b10 : Ss := (.cons (.unp [1, 2, 3, 4] (.var 0)) (.cons (.ite (.cmp .Is (.var 1) (.cst .non))
    (.cons (.ret (.tup (.cons (.var 2) (.cons (.var 3) .nil)))) .nil)
    .nil) (.cons (.unp [5, 6] (.call "without_first" 10 (.cons (.var 1) .nil))) (.cons (.ret (.tup (.cons (.var 5) (.cons (.call "evened" 7 (.cons (.var 6) (.cons (.var 2) (.cons (.var 3) .nil)))) .nil)))) .nil))))
def f10 : Fn := ⟨"without_first", 1, 7, b10, false, none⟩
abbrev s10 : Stmt := top 18
def b11 : Ss := (.cons (.ite (.cmp .Is (.var 1) (.cst .non))
    (.cons (.ret (.var 0)) .nil)
    .nil) (.cons (.unp [2, 3] (.call "without_first" 10 (.cons (.var 1) .nil))) (.cons (.ret (.call "linked" 8 (.cons (.var 0) (.cons (.var 2) (.cons (.var 3) .nil))))) .nil)))
def f11 : Fn := ⟨"one_behind", 2, 4, b11, false, none⟩
abbrev s11 : Stmt := top 19
def b12 : Ss := (.cons (.unp [2, 3, 4, 5] (.var 0)) (.cons (.ite (.cmp .Lt (.var 1) (.call "count_of" 0 (.cons (.var 2) .nil)))
    (.cons (.ret (.call "evened" 7 (.cons (.call "without_item" 12 (.cons (.var 2) (.cons (.var 1) .nil))) (.cons (.var 3) (.cons (.var 4) .nil))))) .nil)
    .nil) (.cons (.ite (.cmp .Gt (.var 1) (.call "count_of" 0 (.cons (.var 2) .nil)))
    (.cons (.ret (.call "evened" 7 (.cons (.var 2) (.cons (.var 3) (.cons (.call "without_item" 12 (.cons (.var 4) (.cons (.bin .Sub (.bin .Sub (.var 1) (.call "count_of" 0 (.cons (.var 2) .nil))) (.cst (.int 1))) .nil))) .nil))))) .nil)
    .nil) (.cons (.ite (.or (.cons (.cmp .Is (.var 2) (.cst .non)) (.cons (.cmp .Is (.var 4) (.cst .non)) .nil)))
    (.cons (.ret (.orV (.var 2) (.var 4))) .nil)
    .nil) (.cons (.unp [6, 7] (.call "without_first" 10 (.cons (.var 4) .nil))) (.cons (.ret (.call "evened" 7 (.cons (.var 2) (.cons (.var 6) (.cons (.var 7) .nil))))) .nil))))))
def f12 : Fn := ⟨"without_item", 2, 8, b12, false, none⟩
abbrev s12 : Stmt := top 20
def b13 : Ss := (.cons (.ite (.cmp .Is (.var 0) (.cst .non))
    (.cons (.ret (.tup (.cons (.cst .non) (.cons (.cst .non) .nil)))) .nil)
    .nil) (.cons (.unp [2, 3, 4, 5] (.var 0)) (.cons (.ite (.cmp .LtE (.var 1) (.call "count_of" 0 (.cons (.var 2) .nil)))
    (.cons (.unp [6, 7] (.call "cut_at" 13 (.cons (.var 2) (.cons (.var 1) .nil)))) (.cons (.ret (.tup (.cons (.var 6) (.cons (.call "linked" 8 (.cons (.var 7) (.cons (.var 3) (.cons (.var 4) .nil)))) .nil)))) .nil))
    .nil) (.cons (.unp [6, 7] (.call "cut_at" 13 (.cons (.var 4) (.cons (.bin .Sub (.bin .Sub (.var 1) (.call "count_of" 0 (.cons (.var 2) .nil))) (.cst (.int 1))) .nil)))) (.cons (.ret (.tup (.cons (.call "linked" 8 (.cons (.var 2) (.cons (.var 3) (.cons (.var 6) .nil)))) (.cons (.var 7) .nil)))) .nil)))))
def f13 : Fn := ⟨"cut_at", 2, 8, b13, false, none⟩
abbrev s13 : Stmt := top 21
def b14 : Ss := (.cons (.ret (.and (.cons (.isi (.var 0) ["int", "str"] true) (.cons (.not (.isi (.var 0) ["bool"] false)) .nil)))) .nil)
def f14 : Fn := ⟨"is_plain", 1, 1, b14, false, none⟩
abbrev s14 : Stmt := top 25
def b15 : Ss := (.cons (.ite (.isi (.var 0) ["tuple"] false)
    (.cons (.ret (.and (.cons (.cmp .LtE (.bi "len" .len (.cons (.var 0) .nil)) (.glob "WIDEST" (.int 8))) (.cons (.bi "all" .all (.cons (.lc (.call "is_plain" 14 (.cons (.var 1) .nil)) (.nm 1) (.of (.var 0)) (.cst (.bl true))) .nil)) .nil)))) .nil)
    .nil) (.cons (.ret (.call "is_plain" 14 (.cons (.var 0) .nil))) .nil))
def f15 : Fn := ⟨"is_item", 1, 2, b15, false, none⟩
abbrev s15 : Stmt := top 26
def b16 : Ss := (.cons (.ite (.cmp .Is (.var 0) (.cst .non))
    (.cons (.ret (.cst (.int 0))) .nil)
    .nil) (.cons (.ite (.or (.cons (.not (.isi (.var 0) ["tuple"] false)) (.cons (.cmp .NotEq (.bi "len" .len (.cons (.var 0) .nil)) (.cst (.int 4))) (.cons (.not (.isi (.ix (.var 0) (.cst (.int 3))) ["int"] false)) (.cons (.isi (.ix (.var 0) (.cst (.int 3))) ["bool"] false) .nil)))))
    (.cons (.ret (.neg (.cst (.int 1)))) .nil)
    .nil) (.cons (.ret (.bi "max" .max2 (.cons (.neg (.cst (.int 1))) (.cons (.ix (.var 0) (.cst (.int 3))) .nil)))) .nil)))
def f16 : Fn := ⟨"told_count", 1, 1, b16, false, none⟩
abbrev s16 : Stmt := top 27
def b17 : Ss := (.cons (.ite (.cmp .Eq (.var 1) (.cst (.int 0)))
    (.cons (.ret (.cmp .Is (.var 0) (.cst .non))) .nil)
    .nil) (.cons (.unp [3, 4, 5, 6] (.var 0)) (.cons (.set 2 (.lst (.cons (.call "told_count" 16 (.cons (.var 3) .nil)) (.cons (.call "told_count" 16 (.cons (.var 5) .nil)) .nil)))) (.cons (.ite (.or (.cons (.cmp .Lt (.bi "min" .min (.cons (.var 2) .nil)) (.cst (.int 0))) (.cons (.cmp .NotEq (.bin .Add (.bi "sum" .sum (.cons (.var 2) .nil)) (.cst (.int 1))) (.var 1)) (.cons (.not (.call "are_even" 2 (.cons (.ix (.var 2) (.cst (.int 0))) (.cons (.ix (.var 2) (.cst (.int 1))) .nil)))) (.cons (.not (.call "is_item" 15 (.cons (.var 4) .nil))) .nil)))))
    (.cons (.ret (.cst (.bl false))) .nil)
    .nil) (.cons (.ret (.and (.cons (.call "is_even_of" 17 (.cons (.var 3) (.cons (.ix (.var 2) (.cst (.int 0))) .nil))) (.cons (.call "is_even_of" 17 (.cons (.var 5) (.cons (.ix (.var 2) (.cst (.int 1))) .nil))) .nil)))) .nil)))))
def f17 : Fn := ⟨"is_even_of", 2, 7, b17, false, none⟩
abbrev s17 : Stmt := top 28
def b18 : Ss := (.cons (.ret (.and (.cons (.chain .LtE .LtE (.cst (.int 0)) (.call "told_count" 16 (.cons (.var 0) .nil)) (.glob "TIED" (.int 1000))) (.cons (.call "is_even_of" 17 (.cons (.var 0) (.cons (.call "told_count" 16 (.cons (.var 0) .nil)) .nil))) .nil)))) .nil)
def f18 : Fn := ⟨"is_even", 1, 1, b18, false, none⟩
abbrev s18 : Stmt := top 29
def b19 : Ss := (.cons (.ite (.not (.call "is_even" 18 (.cons (.var 0) .nil)))
    (.cons (.rz "NoTie" 3 .nil) .nil)
    .nil) .nil)
def f19 : Fn := ⟨"look_tie", 1, 1, b19, false, none⟩
abbrev s19 : Stmt := top 30
def b20 : Ss := (.cons (.ite (.or (.cons (.not (.isi (.var 1) ["int"] false)) (.cons (.isi (.var 1) ["bool"] false) (.cons (.not (.chain .LtE .LtE (.cst (.int 0)) (.var 1) (.var 2))) .nil))))
    (.cons (.rz "NoItem" 4 (.cons (.var 1) .nil)) .nil)
    .nil) .nil)
def f20 : Fn := ⟨"look_item", 3, 3, b20, false, none⟩
abbrev s20 : Stmt := top 31
def b21 : Ss := (.cons (.ite (.or (.cons (.not (.isi (.var 0) ["list", "tuple"] true)) (.cons (.cmp .Gt (.bi "len" .len (.cons (.var 0) .nil)) (.glob "TIED" (.int 1000))) (.cons (.not (.bi "all" .all (.cons (.lc (.call "is_item" 15 (.cons (.var 1) .nil)) (.nm 1) (.of (.var 0)) (.cst (.bl true))) .nil))) .nil))))
    (.cons (.rz "NoTie" 3 .nil) .nil)
    .nil) (.cons (.ret (.call "by_halves" 4 (.cons (.bi "list" .list (.cons (.var 0) .nil)) .nil))) .nil))
def f21 : Fn := ⟨"tied", 1, 2, b21, false, none⟩
abbrev s21 : Stmt := top 32
def b22 : Ss := (.cons (.ex (.call "look_tie" 19 (.cons (.var 0) .nil))) (.cons (.ex (.call "look_item" 20 (.cons (.var 0) (.cons (.var 1) (.cons (.call "count_of" 0 (.cons (.var 0) .nil)) .nil))))) (.cons (.ite (.or (.cons (.not (.call "is_item" 15 (.cons (.var 2) .nil))) (.cons (.cmp .Eq (.call "count_of" 0 (.cons (.var 0) .nil)) (.glob "TIED" (.int 1000))) .nil)))
    (.cons (.rz "NoTie" 3 .nil) .nil)
    .nil) (.cons (.ret (.call "with_more" 9 (.cons (.var 0) (.cons (.var 1) (.cons (.var 2) .nil))))) .nil))))
def f22 : Fn := ⟨"put_at", 3, 3, b22, false, none⟩
abbrev s22 : Stmt := top 33
def b23 : Ss := (.cons (.ex (.call "look_tie" 19 (.cons (.var 0) .nil))) (.cons (.ex (.call "look_item" 20 (.cons (.var 0) (.cons (.var 1) (.cons (.bin .Sub (.call "count_of" 0 (.cons (.var 0) .nil)) (.cst (.int 1))) .nil))))) (.cons (.ret (.call "without_item" 12 (.cons (.var 0) (.cons (.var 1) .nil)))) .nil)))
def f23 : Fn := ⟨"out_at", 2, 2, b23, false, none⟩
abbrev s23 : Stmt := top 34
def b24 : Ss := (.cons (.ex (.call "look_tie" 19 (.cons (.var 0) .nil))) (.cons (.ex (.call "look_item" 20 (.cons (.var 0) (.cons (.var 1) (.cons (.call "count_of" 0 (.cons (.var 0) .nil)) .nil))))) (.cons (.ret (.call "cut_at" 13 (.cons (.var 0) (.cons (.var 1) .nil)))) .nil)))
def f24 : Fn := ⟨"parted", 2, 2, b24, false, none⟩
abbrev s24 : Stmt := top 35
def b25 : Ss := (.cons (.ex (.call "look_tie" 19 (.cons (.var 0) .nil))) (.cons (.ex (.call "look_tie" 19 (.cons (.var 1) .nil))) (.cons (.ite (.cmp .Gt (.bin .Add (.call "count_of" 0 (.cons (.var 0) .nil)) (.call "count_of" 0 (.cons (.var 1) .nil))) (.glob "TIED" (.int 1000)))
    (.cons (.rz "NoTie" 3 .nil) .nil)
    .nil) (.cons (.ret (.call "one_behind" 11 (.cons (.var 0) (.cons (.var 1) .nil)))) .nil))))
def f25 : Fn := ⟨"tied_both", 2, 2, b25, false, none⟩
abbrev s25 : Stmt := top 36
def b26 : Ss := (.cons (.set 1 (.cst (.int 1))) (.cons (.set 2 (.bin .Add (.var 0) (.cst (.int 1)))) (.cons (.wh (.cmp .GtE (.var 2) (.cst (.int 2)))
    (.cons (.set 2 (.bin .FloorDiv (.bin .Mult (.var 2) (.cst (.int 3))) (.cst (.int 4)))) (.cons (.aug 1 .Add (.cst (.int 1))) .nil))) (.cons (.ret (.var 1)) .nil))))
def f26 : Fn := ⟨"steps_of", 1, 3, b26, false, none⟩
abbrev s26 : Stmt := top 37
def b27 : Ss := (.cons (.ite (.cmp .Is (.var 0) (.cst .non))
    (.cons (.ret (.cst (.int 0))) .nil)
    .nil) (.cons (.unp [3, 4, 5, 6] (.var 0)) (.cons (.set 2 (.tup (.cons (.call "number_tie" 27 (.cons (.var 3) (.cons (.var 1) .nil))) (.cons (.bi "repr" .repr (.cons (.var 4) .nil)) (.cons (.call "number_tie" 27 (.cons (.var 5) (.cons (.var 1) .nil))) .nil))))) (.cons (.ret (.dmsd (.var 1) (.var 2) (.bin .Add (.dmlen (.var 1)) (.cst (.int 1))))) .nil))))
def f27 : Fn := ⟨"number_tie", 2, 7, b27, false, none⟩
abbrev s27 : Stmt := top 38
def b28 : Ss := (.cons (.ex (.call "look_tie" 19 (.cons (.var 0) .nil))) (.cons (.fo (.nm 2) (.of (.var 1))
    (.cons (.ex (.call "look_tie" 19 (.cons (.var 2) .nil))) .nil)) (.cons (.set 3 .dmL) (.cons (.fo (.nm 2) (.of (.var 1))
    (.cons (.ex (.call "number_tie" 27 (.cons (.var 2) (.cons (.var 3) .nil)))) .nil)) (.cons (.set 4 (.dmlen (.var 3))) (.cons (.ex (.call "number_tie" 27 (.cons (.var 0) (.cons (.var 3) .nil)))) (.cons (.ret (.bin .Sub (.dmlen (.var 3)) (.var 4))) .nil)))))))
def f28 : Fn := ⟨"fresh", 2, 5, b28, false, none⟩
abbrev s28 : Stmt := top 39
def b29 : Ss := (.cons (.ite (.cmp .Gt (.ix (.var 0) (.cst (.int 2))) (.cst (.int 0)))
    (.cons (.set 3 (.bin .Mod (.ix (.var 0) (.cst (.int 2))) (.var 1))) (.cons (.sub (.var 0) (.cst (.int 2)) (.bin .FloorDiv (.ix (.var 0) (.cst (.int 2))) (.var 1))) (.cons (.ret (.var 3)) .nil)))
    .nil) (.cons (.set 2 (.ix (.var 0) (.cst (.int 1)))) (.cons (.ite (.cmp .NotEq (.ix (.var 0) (.cst (.int 0))) (.lst .nil))
    (.cons (.set 2 (.ix (.ix (.var 0) (.cst (.int 0))) (.bin .Mod (.ix (.var 0) (.cst (.int 1))) (.bi "len" .len (.cons (.ix (.var 0) (.cst (.int 0))) .nil))))) .nil)
    .nil) (.cons (.sub (.var 0) (.cst (.int 1)) (.bin .Add (.ix (.var 0) (.cst (.int 1))) (.cst (.int 1)))) (.cons (.ite (.and (.cons (.cmp .GtE (.var 2) (.bin .Pow (.cst (.int 10)) (.cst (.int 18)))) (.cons (.cmp .LtE (.ix (.var 0) (.cst (.int 1))) (.bi "len" .len (.cons (.ix (.var 0) (.cst (.int 0))) .nil))) .nil)))
    (.cons (.sub (.var 0) (.cst (.int 2)) (.bin .FloorDiv (.var 2) (.var 1))) (.cons (.ret (.bin .Mod (.var 2) (.var 1))) .nil))
    .nil) (.cons (.set 2 (.bin .Mod (.var 2) (.cst (.int 2305843009213693951)))) (.cons (.sub (.var 0) (.cst (.int 3)) (.bin .Mod (.bin .Add (.bin .Add (.bin .Mult (.ix (.var 0) (.cst (.int 3))) (.cst (.int 48271))) (.bin .Mult (.var 2) (.cst (.int 69621)))) (.ix (.var 0) (.cst (.int 1)))) (.cst (.int 2305843009213693951)))) (.cons (.ret (.bin .Mod (.bin .FloorDiv (.bin .Mod (.bin .Mult (.ix (.var 0) (.cst (.int 3))) (.ix (.var 0) (.cst (.int 3)))) (.cst (.int 2147483629))) (.cst (.int 8))) (.var 1))) .nil))))))))
def f29 : Fn := ⟨"_law_take", 2, 4, b29, false, none⟩
abbrev s29 : Stmt := top 41
def b30 : Ss := (.cons (.ite (.cmp .Is (.var 0) (.cst .non))
    (.cons (.ret (.cst (.int 0))) .nil)
    .nil) (.cons (.ret (.ix (.var 0) (.cst (.int 3)))) .nil))
def f30 : Fn := ⟨"_law_count", 1, 1, b30, false, none⟩
abbrev s30 : Stmt := top 42
def b31 : Ss := (.cons (.ret (.tup (.cons (.var 0) (.cons (.var 1) (.cons (.var 2) (.cons (.bin .Add (.bin .Add (.call "_law_count" 30 (.cons (.var 0) .nil)) (.cst (.int 1))) (.call "_law_count" 30 (.cons (.var 2) .nil))) .nil)))))) .nil)
def f31 : Fn := ⟨"_law_over", 3, 3, b31, false, none⟩
abbrev s31 : Stmt := top 43
def b32 : Ss := (.cons (.ite (.cmp .Eq (.var 1) (.lst .nil))
    (.cons (.ret (.cst .non)) .nil)
    .nil) (.cons (.set 2 (.bin .Sub (.bi "len" .len (.cons (.var 1) .nil)) (.cst (.int 1)))) (.cons (.set 3 (.bi "max" .max2 (.cons (.cst (.int 0)) (.cons (.bin .Sub (.bin .FloorDiv (.bin .Add (.var 2) (.cst (.int 5))) (.cst (.int 4))) (.cst (.int 1))) .nil)))) (.cons (.set 4 (.bin .FloorDiv (.var 2) (.cst (.int 2)))) (.cons (.ite (.and (.cons (.cmp .Gt (.bin .Sub (.var 2) (.bin .Mult (.cst (.int 2)) (.var 3))) (.cst (.int 0))) (.cons (.cmp .Eq (.call "_law_take" 29 (.cons (.var 0) (.cons (.cst (.int 3)) .nil))) (.cst (.int 0))) .nil)))
    (.cons (.set 4 (.bin .Add (.var 3) (.call "_law_take" 29 (.cons (.var 0) (.cons (.bin .Add (.bin .Sub (.var 2) (.bin .Mult (.cst (.int 2)) (.var 3))) (.cst (.int 1))) .nil))))) .nil)
    .nil) (.cons (.ret (.call "_law_over" 31 (.cons (.call "_law_made" 32 (.cons (.var 0) (.cons (.sl (.var 1) .abs (.var 4)) .nil))) (.cons (.ix (.var 1) (.var 4)) (.cons (.call "_law_made" 32 (.cons (.var 0) (.cons (.sl (.var 1) (.bin .Add (.var 4) (.cst (.int 1))) .abs) .nil))) .nil))))) .nil))))))
def f32 : Fn := ⟨"_law_made", 2, 5, b32, false, none⟩
abbrev s32 : Stmt := top 44
def b33 : Ss := (.cons (.ite (.cmp .Is (.var 0) (.cst .non))
    (.cons (.ret (.cst (.int 0))) .nil)
    .nil) (.cons (.set 2 (.tup (.cons (.call "_law_number" 33 (.cons (.ix (.var 0) (.cst (.int 0))) (.cons (.var 1) .nil))) (.cons (.ix (.var 0) (.cst (.int 1))) (.cons (.call "_law_number" 33 (.cons (.ix (.var 0) (.cst (.int 2))) (.cons (.var 1) .nil))) .nil))))) (.cons (.ret (.dmsd (.var 1) (.var 2) (.bin .Add (.dmlen (.var 1)) (.cst (.int 1))))) .nil)))
def f33 : Fn := ⟨"_law_number", 2, 3, b33, false, none⟩
abbrev s33 : Stmt := top 45
def b34 : Ss := (.cons (.ite (.cmp .Is (.var 0) (.cst .non))
    (.cons (.ret (.cst (.int 0))) .nil)
    .nil) (.cons (.ret (.bin .Add (.cst (.int 1)) (.bi "max" .max2 (.cons (.call "_law_deep" 34 (.cons (.ix (.var 0) (.cst (.int 0))) .nil)) (.cons (.call "_law_deep" 34 (.cons (.ix (.var 0) (.cst (.int 2))) .nil)) .nil))))) .nil))
def f34 : Fn := ⟨"_law_deep", 1, 1, b34, false, none⟩
abbrev s34 : Stmt := top 46
def b35 : Ss := (.cons (.set 2 .dmL) (.cons (.fo (.nm 3) (.of (.var 1))
    (.cons (.ex (.call "_law_number" 33 (.cons (.var 3) (.cons (.var 2) .nil)))) .nil)) (.cons (.set 4 (.dmlen (.var 2))) (.cons (.ex (.call "_law_number" 33 (.cons (.var 0) (.cons (.var 2) .nil)))) (.cons (.ret (.bin .Sub (.dmlen (.var 2)) (.var 4))) .nil)))))
def f35 : Fn := ⟨"_law_new", 2, 5, b35, false, none⟩
abbrev s35 : Stmt := top 47
def b36 : Ss := (.cons (.set 2 (.bin .Add (.bi "sum" .sum (.cons (.lc (.call "_law_count" 30 (.cons (.var 6) .nil)) (.nm 6) (.of (.var 1)) (.cst (.bl true))) .nil)) (.cst (.int 1)))) (.cons (.fo (.nm 3) (.of (.var 0))
    (.cons (.set 4 (.call "_law_new" 35 (.cons (.var 3) (.cons (.var 1) .nil)))) (.cons (.set 5 (.bin .Add (.cst (.int 8)) (.bin .Mult (.cst (.int 8)) (.call "steps_of" 26 (.cons (.bi "min" .min2 (.cons (.cst (.int 1000)) (.cons (.var 2) .nil))) .nil))))) (.cons (.ite (.or (.cons (.cmp .Gt (.var 4) (.var 5)) (.cons (.cmp .NotEq (.call "fresh" 28 (.cons (.var 3) (.cons (.var 1) .nil))) (.var 4)) (.cons (.cmp .Gt (.call "_law_deep" 34 (.cons (.var 3) .nil)) (.call "steps_of" 26 (.cons (.call "_law_count" 30 (.cons (.var 3) .nil)) .nil))) .nil))))
    (.cons (.ret (.cst (.bl false))) .nil)
    .nil) .nil)))) (.cons (.ret (.cst (.bl true))) .nil)))
def f36 : Fn := ⟨"_law_is_cheap", 2, 7, b36, false, none⟩
abbrev s36 : Stmt := top 48
def b37 : Ss := (.cons (.set 1 (.lstL (.cons (.var 0) (.cons (.cst (.int 0)) (.cons (.cst (.int 0)) (.cons (.cst (.int 68)) .nil)))))) (.cons (.set 2 (.call "_law_take" 29 (.cons (.var 1) (.cons (.cst (.int 61)) .nil)))) (.cons (.ite (.cmp .Eq (.call "_law_take" 29 (.cons (.var 1) (.cons (.cst (.int 4)) .nil))) (.cst (.int 0)))
    (.cons (.set 2 (.bin .Add (.cst (.int 500)) (.call "_law_take" 29 (.cons (.var 1) (.cons (.cst (.int 500)) .nil))))) .nil)
    .nil) (.cons (.set 3 (.ix (.lst (.cons (.call "tied" 21 (.cons (.lrg (.var 2)) .nil)) (.cons (.call "_law_made" 32 (.cons (.var 1) (.cons (.lrg (.var 2)) .nil))) .nil))) (.call "_law_take" 29 (.cons (.var 1) (.cons (.cst (.int 2)) .nil))))) (.cons (.fo (.nm 4) (.rng1 (.ix (.lst (.cons (.cst (.int 12)) (.cons (.cst (.int 3)) .nil))) (.bi "int" .int (.cons (.cmp .Gt (.var 2) (.cst (.int 60))) .nil))))
    (.cons (.set 5 (.call "_law_take" 29 (.cons (.var 1) (.cons (.cst (.int 4)) .nil)))) (.cons (.set 6 (.call "_law_count" 30 (.cons (.var 3) .nil))) (.cons (.set 7 (.call "_law_take" 29 (.cons (.var 1) (.cons (.bin .Add (.var 6) (.cst (.int 1))) .nil)))) (.cons (.ite (.and (.cons (.cmp .Eq (.var 5) (.cst (.int 0))) (.cons (.cmp .Lt (.var 6) (.cst (.int 1000))) .nil)))
    (.cons (.set 9 (.lst (.cons (.call "put_at" 22 (.cons (.var 3) (.cons (.var 7) (.cons (.bin .Add (.cst (.int 5000)) (.var 4)) .nil)))) .nil))) .nil)
    (.cons (.ite (.and (.cons (.cmp .Eq (.var 5) (.cst (.int 1))) (.cons (.cmp .Lt (.var 7) (.var 6)) .nil)))
    (.cons (.set 9 (.lst (.cons (.call "out_at" 23 (.cons (.var 3) (.cons (.var 7) .nil))) .nil))) .nil)
    (.cons (.set 9 (.bi "list" .list (.cons (.call "parted" 24 (.cons (.var 3) (.cons (.var 7) .nil))) .nil))) .nil)) .nil)) (.cons (.ite (.not (.call "_law_is_cheap" 36 (.cons (.var 9) (.cons (.lst (.cons (.var 3) .nil)) .nil))))
    (.cons (.ret (.cst (.bl false))) .nil)
    .nil) (.cons (.set 8 (.lst .nil)) (.cons (.ite (.cmp .Eq (.bi "len" .len (.cons (.var 9) .nil)) (.cst (.int 2)))
    (.cons (.set 8 (.lst (.cons (.call "tied_both" 25 (.cons (.ix (.var 9) (.cst (.int 1))) (.cons (.ix (.var 9) (.cst (.int 0))) .nil))) .nil))) .nil)
    .nil) (.cons (.ite (.not (.call "_law_is_cheap" 36 (.cons (.var 8) (.cons (.var 9) .nil))))
    (.cons (.ret (.cst (.bl false))) .nil)
    .nil) (.cons (.set 3 (.ix (.bin .Add (.var 8) (.var 9)) (.cst (.int 0)))) .nil)))))))))) (.cons (.ret (.cst (.bl true))) .nil))))))
def f37 : Fn := ⟨"law", 1, 10, b37, false, none⟩
abbrev s37 : Stmt := top 49
def P : List Fn := [f0, f1, f2, f3, f4, f5, f6, f7, f8, f9, f10, f11, f12, f13, f14, f15, f16, f17, f18, f19, f20, f21, f22, f23, f24, f25, f26, f27, f28, f29, f30, f31, f32, f33, f34, f35, f36, f37]
def G : Pg := ⟨P, [("HEAVIER", (.int 3)), ("TIED", (.int 1000)), ("WIDEST", (.int 8))], ["all", "bool", "int", "isinstance", "len", "list", "max", "min", "range", "repr", "str", "sum", "tuple"], [], [("NoItem", 4), ("NoTie", 3)], [[], [], [], [], ["at"]], [], fun _ _ _ _ => false, []⟩
def T : Tx := ⟨["TreeError", "NoThing", "NoFit", "NoTie", "NoItem"], []⟩
abbrev i0 : Stmt := meth (top 5) 0
end K68
namespace K68
open PySem PySem.Spec PySem.W PySem.Calls PyProof.Rows HandSHeadRun L2 Ev
def fnL0_ : List He.DefD := [dfD "count_of" s0, dfD "tie_over" s1, dfD "are_even" s2, dfD "is_even_top" s3, dfD "by_halves" s4, dfD "turned_left" s5, dfD "turned_right" s6, dfD "evened" s7, dfD "linked" s8, dfD "with_more" s9, dfD "without_first" s10, dfD "one_behind" s11, dfD "without_item" s12, dfD "cut_at" s13, dfD "is_plain" s14, dfD "is_item" s15, dfD "told_count" s16, dfD "is_even_of" s17, dfD "is_even" s18, dfD "look_tie" s19, dfD "look_item" s20, dfD "tied" s21, dfD "put_at" s22, dfD "out_at" s23, dfD "parted" s24, dfD "tied_both" s25, dfD "steps_of" s26, dfD "number_tie" s27, dfD "fresh" s28, dfD "_law_take" s29]
def fnL1_ : List He.DefD := [dfD "_law_count" s30, dfD "_law_over" s31, dfD "_law_made" s32, dfD "_law_number" s33, dfD "_law_deep" s34, dfD "_law_new" s35, dfD "_law_is_cheap" s36, dfD "law" s37, mtD "NoItem" "__init__" "NoItem.__init__" i0]
def fnL : List He.DefD := fnL0_ ++ fnL1_
def faL : List He.Fa := [.int "HEAVIER" 3, .int "TIED" 1000, .int "WIDEST" 8]
def tsL : List He.Tab := []
def nsL0_ : List Str := ["count_of", "tie_over", "are_even", "is_even_top", "by_halves", "turned_left", "turned_right", "evened", "linked", "with_more", "without_first", "one_behind", "without_item", "cut_at", "is_plain", "is_item", "told_count", "is_even_of", "is_even", "look_tie", "look_item", "tied", "put_at", "out_at", "parted", "tied_both", "steps_of", "number_tie", "fresh", "_law_take"]
def nsL1_ : List Str := ["_law_count", "_law_over", "_law_made", "_law_number", "_law_deep", "_law_new", "_law_is_cheap", "law", "NoItem"]
def nsL : List Str := nsL0_ ++ nsL1_
def looseL0_ : List Str := ["TreeError", "NoThing", "NoFit", "NoTie", "NoItem", "HEAVIER", "count_of", "tie_over", "are_even", "is_even_top", "by_halves", "turned_left", "turned_right", "evened", "linked", "with_more", "without_first", "one_behind", "without_item", "cut_at", "TIED", "WIDEST", "is_plain", "is_item", "told_count", "is_even_of", "is_even", "look_tie", "look_item", "tied"]
def looseL1_ : List Str := ["put_at", "out_at", "parted", "tied_both", "steps_of", "number_tie", "fresh", "_law_take", "_law_count", "_law_over", "_law_made", "_law_number", "_law_deep", "_law_new", "_law_is_cheap"]
def looseL : List Str := looseL0_ ++ looseL1_
def msL : List (Str × Str) := []
def hd : Hd := ⟨nsL, msL, ["all", "bool", "int", "isinstance", "len", "list", "max", "min", "range", "repr", "str", "sum", "tuple"], [], ["NoItem"], []⟩
abbrev RwX : PySem.W.OpenRow := PySem.W.OpenLaw.row PySem.Challenge.rw_treelore_k68_whole_few_new_ties
abbrev qv : Program := PySem.W.view RwX.prog [49]
def asL0_ : List PySem.Addr := [3, 6, 4, 24, 37, 49, 61, 80, 89, 96, 103, 110, 117, 124, 131, 138, 145, 152, 159, 166, 173, 180, 187, 192, 199, 206, 213, 220, 227, 232]
def asL1_ : List PySem.Addr := [239, 246, 253, 260, 267, 274, 281, 288, 295, 302, 309, 316, 323, 330, 335, 342, 0, 23, 36, 48, 60, 79, 88, 95, 102, 109, 116, 123, 130, 137]
def asL2_ : List PySem.Addr := [144, 151, 158, 165, 172, 179, 186, 191, 198, 205, 212, 219, 226, 231, 238, 245, 252, 259, 266, 273, 280, 287, 294, 301, 308, 315, 322, 329, 334, 341]
def asL3_ : List PySem.Addr := [22, 25, 35, 47, 59, 77, 78, 83, 84, 85, 86, 87, 90, 91, 92, 93, 94, 97, 98, 99, 100, 101, 104, 105, 106, 107, 108, 111, 112, 113]
def asL4_ : List PySem.Addr := [114, 115, 118, 119, 120, 121, 122, 125, 126, 127, 128, 129, 132, 133, 134, 135, 136, 139, 140, 141, 142, 143, 146, 147, 148, 149, 150, 153, 154, 155]
def asL5_ : List PySem.Addr := [156, 157, 160, 161, 162, 163, 164, 167, 168, 169, 170, 171, 174, 175, 176, 177, 178, 181, 182, 183, 184, 185, 188, 189, 190, 193, 194, 195, 196, 197]
def asL6_ : List PySem.Addr := [200, 201, 202, 203, 204, 207, 208, 209, 210, 211, 214, 215, 216, 217, 218, 221, 222, 223, 224, 225, 228, 229, 230, 233, 234, 235, 236, 237, 240, 241]
def asL7_ : List PySem.Addr := [242, 243, 244, 247, 248, 249, 250, 251, 254, 255, 256, 257, 258, 261, 262, 263, 264, 265, 268, 269, 270, 271, 272, 275, 276, 277, 278, 279, 282, 283]
def asL8_ : List PySem.Addr := [284, 285, 286, 289, 290, 291, 292, 293, 296, 297, 298, 299, 300, 303, 304, 305, 306, 307, 310, 311, 312, 313, 314, 317, 318, 319, 320, 321, 324, 325]
def asL9_ : List PySem.Addr := [326, 327, 328, 331, 332, 333, 336, 337, 338, 339, 340, 76]
def asL : List PySem.Addr := asL0_ ++ asL1_ ++ asL2_ ++ asL3_ ++ asL4_ ++ asL5_ ++ asL6_ ++ asL7_ ++ asL8_ ++ asL9_
abbrev hk : PySem.W.Hook := He.hookZ asL faL fnL tsL (lmD hd.lm) (exB G T hd)
def ob (s : PySem.W.SharedT) : He.AlX := He.obsZ asL faL fnL tsL (lmD hd.lm) (exB G T hd) (HandSHeadRun.getT s)
theorem ob_eq (s : PySem.W.SharedT) : ob s = hk.obs s.abs := He.obsZ_eq (HandSHeadRun.getT_eq s)
theorem run_join {σ β γ : Type} {o : Option σ} {A : σ → Bool} {B : σ → β} {C : σ → γ} {a : Bool} {b : β} {c : γ} (h1 : o.map A = some a) (h2 : o.map B = some b) (h3 : o.map C = some c) : o.map (fun s => (A s, B s, C s)) = some (a, b, c) := by
  cases o with
  | none => cases h1
  | some s => cases h1; cases h2; cases h3; rfl
theorem runA0 (w : World) : ∀ os : PySem.OsState, (HandSHeadRun.endF (HandSHeadRun.stepQ (HandSHeadRun.denQ HandSHeadRun.tabQ) RwX.prog (w.withFollow "special-get-raises" false)) 20000 RwX.prog (w.withFollow "special-get-raises" false) os).map (fun s => looksF RwX.prog (boot_heap (w.withFollow "special-get-raises" false).params) s.abs) = some true := by
  intro os; kernel_rfl
theorem runB0 (w : World) : ∀ os : PySem.OsState, (HandSHeadRun.endF (HandSHeadRun.stepQ (HandSHeadRun.denQ HandSHeadRun.tabQ) RwX.prog (w.withFollow "special-get-raises" false)) 20000 RwX.prog (w.withFollow "special-get-raises" false) os).map (fun s => seenQ qv looseL (importedModules RwX.prog.main.body) (fun s => xlAt qv [] s && recOk RwX.toRowW.records s) s.abs) = some (openGood qv looseL) := by
  intro os; kernel_rfl
theorem runC0 (w : World) : ∀ os : PySem.OsState, (HandSHeadRun.endF (HandSHeadRun.stepQ (HandSHeadRun.denQ HandSHeadRun.tabQ) RwX.prog (w.withFollow "special-get-raises" false)) 20000 RwX.prog (w.withFollow "special-get-raises" false) os).map (fun s => ob s) = some (hk.val (w.withFollow "special-get-raises" false)) := by
  intro os; kernel_rfl
theorem runA1 (w : World) : ∀ os : PySem.OsState, (HandSHeadRun.endF (HandSHeadRun.stepQ (HandSHeadRun.denQ HandSHeadRun.tabQ) RwX.prog (w.withFollow "special-get-raises" true)) 20000 RwX.prog (w.withFollow "special-get-raises" true) os).map (fun s => looksF RwX.prog (boot_heap (w.withFollow "special-get-raises" true).params) s.abs) = some true := by
  intro os; kernel_rfl
theorem runB1 (w : World) : ∀ os : PySem.OsState, (HandSHeadRun.endF (HandSHeadRun.stepQ (HandSHeadRun.denQ HandSHeadRun.tabQ) RwX.prog (w.withFollow "special-get-raises" true)) 20000 RwX.prog (w.withFollow "special-get-raises" true) os).map (fun s => seenQ qv looseL (importedModules RwX.prog.main.body) (fun s => xlAt qv [] s && recOk RwX.toRowW.records s) s.abs) = some (openGood qv looseL) := by
  intro os; kernel_rfl
theorem runC1 (w : World) : ∀ os : PySem.OsState, (HandSHeadRun.endF (HandSHeadRun.stepQ (HandSHeadRun.denQ HandSHeadRun.tabQ) RwX.prog (w.withFollow "special-get-raises" true)) 20000 RwX.prog (w.withFollow "special-get-raises" true) os).map (fun s => ob s) = some (hk.val (w.withFollow "special-get-raises" true)) := by
  intro os; kernel_rfl
theorem run (w : World) : HandSHeadRun.RunEq RwX qv hk ob 20000 looseL w := by
  exact PySem.W.byRow2 "special-get-raises" (P := fun w => HandSHeadRun.RunEq RwX qv hk ob 20000 looseL w) (fun w os => run_join (runA0 w os) (runB0 w os) (runC0 w os)) (fun w os => run_join (runA1 w os) (runB1 w os) (runC1 w os)) w
end K68
open PySem PySem.W PySem.Calls PyProof.Rows
end
set_option Elab.async false
set_option linter.all false
set_option maxRecDepth 100000
set_option maxHeartbeats 4000000
namespace Ev
open PySem L2
@[simp] theorem bind_k {α β : Type} (a : α) (m : Mu) (f : α → Mu → R β) : (R.ok a m).bind f = f a m := rfl
@[simp] theorem bind_x {α β : Type} (c : Nat) (fs : List D) (m : Mu) (f : α → Mu → R β) : (R.exc c fs m : R α).bind f = .exc c fs m := rfl
@[simp] theorem bind_b {α β : Type} (f : α → Mu → R β) : (R.bad : R α).bind f = .bad := rfl
def opt {α : Type} (m : Mu) : Option α → R α
  | some a => .ok a m
  | none => .bad
@[simp] theorem opt_s {α : Type} (m : Mu) (a : α) : opt m (some a) = .ok a m := rfl
@[simp] theorem opt_n {α : Type} (m : Mu) : (opt m none : R α) = .bad := rfl
def lstD (m : Mu) : D → Option (List D)
  | .lst xs => some xs
  | .ref i => match m[i]? with
    | some (.lst xs) => some xs
    | _ => none
  | _ => none
def blD : D → Option Bool
  | .bl b => some b
  | _ => none
def strD : D → Option Str
  | .str x => some x
  | _ => none
mutual
def pyD (m : Mu) : D → Option PyData
  | .non => some .none
  | .bl b => some (.bool b)
  | .int i => some (.int i)
  | .str x => some (.str x)
  | .tup xs => (pyDs m xs).map .tuple
  | .lst xs => (pyDs m xs).map .list
  | .scr ns => some (.list (ns.map .int))
  | .dct => some (.dict [])
  | _ => none
def pyDs (m : Mu) : List D → Option (List PyData)
  | [] => some []
  | x :: r => match pyD m x, pyDs m r with
    | some a, some l => some (a :: l)
    | _, _ => none
end
def pyM (m : Mu) : D → Option PyData
  | .ref i => match m[i]? with
    | some (.lst xs) => (pyDs m xs).map .list
    | _ => none
  | d => pyD m d
def addF (m : Mu) : D → D → Option D
  | .int a, .int b => some (.int (a + b))
  | .bl a, .int b => some (.int ((if a = true then (1 : Int) else 0) + b))
  | .str a, .str b => if a.length + b.length ≤ sizeLine then some (.str (a ++ b)) else none
  | .tup a, .tup b => if a.length + b.length ≤ sizeLine then some (.tup (a ++ b)) else none
  | x, y => match lstD m x, lstD m y with
    | some a, some b => if a.length + b.length ≤ sizeLine then some (.lst (a ++ b)) else none
    | _, _ => none
def subF : D → D → Option D
  | .int a, .int b => some (.int (a - b))
  | _, _ => none
def mulOk (a b : Int) : Bool := (decide (-(2 ^ 64) < a) && decide (a < 2 ^ 64)) || (decide (-(2 ^ 64) < b) && decide (b < 2 ^ 64))
def mulF : D → D → Option D
  | .int a, .int b => if mulOk a b then some (.int (a * b)) else none
  | .tup a, .int k => if 0 ≤ k ∧ k ≤ 1000 ∧ a.length ≤ 1000 then some (.tup (List.replicate k.toNat a).flatten) else none
  | .str a, .int k => if 0 ≤ k ∧ k ≤ 1000 ∧ a.length ≤ 1000 then some (.str (Txt.mul a k)) else none
  | .lst a, .int k => if 0 ≤ k ∧ k ≤ 1000 ∧ a.length ≤ 1000 then some (.lst (List.replicate k.toNat a).flatten) else none
  | _, _ => none
def fdivF : D → D → Option D
  | .int a, .int b => if 0 < b ∧ b < 1073741824 then some (.int (a / b)) else none
  | _, _ => none
def modF : D → D → Option D
  | .int a, .int b => if 0 < b then some (.int (a % b)) else none
  | _, _ => none
def powF : D → D → Option D
  | .int a, .int b => if 0 ≤ b ∧ b ≤ 1000000 ∧ a.natAbs < 2 ^ 64 then some (.int (a ^ b.toNat)) else none
  | _, _ => none
def binF (m : Mu) : Operator → D → D → Option D
  | .Add, x, y => addF m x y
  | .Sub, x, y => subF x y
  | .Mult, x, y => mulF x y
  | .FloorDiv, x, y => fdivF x y
  | .Mod, x, y => modF x y
  | .Pow, x, y => powF x y
  | _, _, _ => none
def eqL (m : Mu) (x y : D) : Option Bool := match lsD m x, lsD m y with
  | some xs, some ys => if xs.length = ys.length then none else some false
  | _, _ => none
def eqE (m : Mu) (x : D) : D → Option Bool
  | .tup [] => match x with
    | .tup xs => some xs.isEmpty
    | _ => none
  | y => eqL m x y
def eqG (m : Mu) (x y : D) : Option Bool := match pyM m x, pyM m y with
  | some a, some b => if SeqAt.shaped a && SeqAt.shaped b then some (PyData.eqv a b) else eqE m x y
  | _, _ => eqE m x y
def eqF (m : Mu) : D → D → Option Bool
  | .str a, .str b => some (decide (a = b))
  | x, y => eqG m x y
def ordF (f : Int → Int → Bool) : D → D → Option Bool
  | .int a, .int b => some (f a b)
  | _, _ => none
def prI : D → Option (List Int × List Int)
  | .tup [a, b] => match rowI a, rowI b with
    | some x, some y => some (x, y)
    | _, _ => none
  | _ => none
def ltI : List Int → List Int → Bool
  | _, [] => false
  | [], _ :: _ => true
  | a :: r, b :: q => if a = b then ltI r q else decide (a < b)
def geI : List Int → List Int → Bool
  | _, [] => true
  | [], _ :: _ => false
  | a :: r, b :: q => if a = b then geI r q else decide (b ≤ a)
def geP (a b : List Int × List Int) : Bool := if a.1 = b.1 then (if a.2 = b.2 then true else geI a.2 b.2) else geI a.1 b.1
def ltT (x y : D) : Option Bool := match rowI x, rowI y with
  | some a, some b => some (ltI a b)
  | _, _ => none
def tupP : PyData → Bool
  | .tuple _ => true
  | .list _ => true
  | _ => false
def ordP (f : PyData → PyData → Bool) (x y : D) : Option Bool := match pyD [] x, pyD [] y with
  | some a, some b => if ((((PySem.W.alike a b && tupP a) && a.canLay0) && b.canLay0) && decide (a.depth ≤ 60)) = true then some (f a b) else none
  | _, _ => none
def geT (x y : D) : Option Bool := match rowI x, rowI y with
  | some a, some b => some (geI a b)
  | _, _ => match prI x, prI y with
    | some a, some b => some (geP a b)
    | _, _ => ordP (fun a b => !PySem.W.dataLt a b) x y
def gtT (x y : D) : Option Bool := ordP (fun a b => PySem.W.dataLt b a) x y
def ordT (f : Int → Int → Bool) (h : D → D → Option Bool) : D → D → Option Bool
  | .int a, .int b => some (f a b)
  | x, y => h x y
def isF : D → D → Option Bool
  | x, .non => some (match x with | .non => true | _ => false)
  | .bl a, .bl b => some (a == b)
  | _, _ => none
def flatD : D → Option V
  | .non => some .non
  | .bl b => some (.bl b)
  | .int i => some (.int i)
  | .str x => some (.str x)
  | _ => none
def inDeep (m : Mu) (x y : D) : Option Bool := match pyD m x, pyM m y with
  | some d, some (.list ds) => if SeqAt.shaped d && SeqAt.shaped (.list ds) && decide (d.depth ≤ 60) then some (ds.any fun z => PyData.eqv z d) else none
  | some d, some (.tuple ds) => if SeqAt.shaped d && SeqAt.shaped (.tuple ds) && decide (d.depth ≤ 60) then some (ds.any fun z => PyData.eqv z d) else none
  | _, _ => none
def inFl (m : Mu) (x y : D) : Option Bool := match flatD x, seqD m y with
  | some v, some ys => (allD flatD ys).map (inV v)
  | _, _ => none
def dksG (ks : List Str) (ds : List D) (z : Str) : Option D := (ks.zip ds).lookup z
def inF (m : Mu) : D → D → Option Bool
  | .str c, .str z => some (!(Builtin.Str.occurrences z c 0 z.length 1).isEmpty)
  | .str c, .dks ks ds => some (dksG ks ds c).isSome
  | .tup xs, y => inDeep m (.tup xs) y
  | .lst xs, y => inDeep m (.lst xs) y
  | .non, y => match inFl m .non y with
    | some b => some b
    | none => inDeep m .non y
  | .int i, y => match inFl m (.int i) y with
    | some b => some b
    | none => inDeep m (.int i) y
  | x, y => match flatD x, seqD m y with
    | some v, some ys => (allD flatD ys).map (inV v)
    | _, _ => none
def cmpF (m : Mu) : CmpOp → D → D → Option Bool
  | .Eq, x, y => eqF m x y
  | .NotEq, x, y => (eqF m x y).map (!·)
  | .Lt, x, y => ordT (fun i j => decide (i < j)) ltT x y
  | .LtE, x, y => ordF (fun i j => decide (i ≤ j)) x y
  | .Gt, x, y => ordT (fun i j => decide (j < i)) gtT x y
  | .GtE, x, y => ordT (fun i j => decide (j ≤ i)) geT x y
  | .Is, x, y => isF x y
  | .IsNot, x, y => (isF x y).map (!·)
  | .In, x, y => inF m x y
  | .NotIn, x, y => (inF m x y).map (!·)
def truthD (m : Mu) : D → Option Bool
  | .non => some false
  | .bl b => some b
  | .int i => some (i != 0)
  | .str x => if x.length ≤ sizeLine then some (x.length != 0) else none
  | x => (seqD m x).map fun xs => !xs.isEmpty
def ixF (m : Mu) : D → D → Option D
  | .dks ks ds, .str z => dksG ks ds z
  | .str z, .int i => if z.length ≤ sizeLine then (atI z.cps.toList i).map fun c => .str ⟨#[c]⟩ else none
  | x, .int i => (seqD m x).bind fun xs => atI xs i
  | _, _ => none
def cutL {α : Type} (xs : List α) (lo hi : Option Int) : List α := (xs.drop (HT.sIx xs.length 0 lo)).take (HT.sIx xs.length xs.length hi - HT.sIx xs.length 0 lo)
def slF (m : Mu) : D → Option Int → Option Int → Option D
  | .tup xs, lo, hi => some (.tup (cutL xs lo hi))
  | .str z, lo, hi => if z.length ≤ sizeLine then some (.str ⟨(cutL z.cps.toList lo hi).toArray⟩) else none
  | x, lo, hi => (seqD m x).map fun xs => .lst (cutL xs lo hi)
def revF (m : Mu) : D → Option D
  | .tup xs => some (.tup xs.reverse)
  | x => (lsD m x).map fun xs => .lst xs.reverse
def tyD (m : Mu) : D → Option String
  | .non => some "NoneType"
  | .bl _ => some "bool"
  | .int _ => some "int"
  | .str _ => some "str"
  | .tup _ => some "tuple"
  | .lst _ => some "list"
  | .scr _ => some "list"
  | .dct => some "dict"
  | .dks _ _ => some "dict"
  | .ref i => match m[i]? with
    | some (.lst _) => some "list"
    | _ => none
  | _ => none
def isiT (t : String) (ts : List String) : Bool := ts.any fun u => u == t || (t == "bool" && u == "int")
def maxL : List Int → Option Int
  | [] => none
  | x :: r => some (r.foldl max x)
def minL : List Int → Option Int
  | [] => none
  | x :: r => some (r.foldl min x)
def lenF (m : Mu) : D → Option D
  | .str z => if z.length ≤ sizeLine then some (.int z.length) else none
  | x => (seqD m x).map fun xs => .int xs.length
mutual
def flatT : PyData → Bool
  | .dict kvs => kvs.isEmpty
  | .list _ => false
  | .tuple ps => flatTs ps
  | .str x => (PyData.str x).canLay0
  | _ => true
def flatTs : List PyData → Bool
  | [] => true
  | p :: r => flatT p && flatTs r
end
def plainP : PyData → Bool
  | .dict [] => true
  | p => p.canLay0 || flatT p
def reprF (m : Mu) (x : D) : Option D := match pyM m x with
  | some p => if plainP p && p.showable && decide (p.depth ≤ 60) && decide (p.shown.length ≤ sizeLine) then some (.str p.shown) else none
  | none => none
mutual
def noLs : PyData → Bool
  | .list _ => false
  | .dict _ => false
  | .tuple ps => noLss ps
  | _ => true
def noLss : List PyData → Bool
  | [] => true
  | p :: r => noLs p && noLss r
end
def flatP : PyData → Bool
  | .dict [] => true
  | p => (p.canLay0 && noLs p) || flatT p
def reprLF (m : Mu) (ds : List D) : Option D := match pyDs m ds with
  | some ps => if (PyData.canLayAll0 ps || ps.all flatP) && (PyData.list ps).showable && decide ((PyData.list ps).depth ≤ 60) && decide ((PyData.list ps).shown.length ≤ sizeLine) then some (.str (PyData.list ps).shown) else none
  | none => none
def rowP : PyData → Bool
  | .tuple ps => ps.all fun p => match p with | .int _ => true | _ => false
  | _ => false
def pyd (m : Mu) (d : D) : PyData := (pyD m d).getD .none
def rowLe (m : Mu) (a b : D) : Bool := !PySem.W.dataLt (pyd m b) (pyd m a)
def prP : PyData → Bool
  | .tuple [a, b] => rowP a && rowP b
  | _ => false
def piP : PyData → Bool
  | .tuple [a, .int _] => rowP a
  | _ => false
def rowsB (m : Mu) (ds : List D) : Bool := ((ds.all fun y => (pyD m y).isSome && rowP (pyd m y)) || ds.all fun y => (pyD m y).isSome && prP (pyd m y)) || ds.all fun y => (pyD m y).isSome && piP (pyd m y)
def intsB (ds : List D) : Bool := ds.all fun y => match y with
  | .int _ => true
  | _ => false
def sortF (m : Mu) (x : D) : Option D := match x with
  | .tup ds => if rowsB m ds then some (.lst (ds.mergeSort (rowLe m))) else none
  | x => match lstD m x with
  | some ds => if rowsB m ds then some (.lst (ds.mergeSort (rowLe m))) else if intsB ds then some (.lst (ds.mergeSort (rowLe m))) else none
  | _ => none
def strF (m : Mu) : D → Option D
  | .str z => some (.str z)
  | x => reprF m x
def biF (m : Mu) : Bi → List D → Option D
  | .str, [x] => strF m x
  | .len, [x] => lenF m x
  | .tuple, [x] => (seqD m x).map .tup
  | .list, [x] => (seqD m x).map .lst
  | .all, [x] => ((lsD m x).bind (allD blD)).map fun bs => .bl (bs.all id)
  | .any, [x] => ((lsD m x).bind (allD blD)).map fun bs => .bl (bs.any id)
  | .sum, [x] => ((lsD m x).bind (allD intD)).map fun ns => .int ns.sum
  | .max, [x] => (((lsD m x).bind (allD intD)).bind maxL).map .int
  | .min, [x] => (((lsD m x).bind (allD intD)).bind minL).map .int
  | .max2, [.int a, .int b] => some (.int (if b > a then b else a))
  | .min2, [.int a, .int b] => some (.int (if b < a then b else a))
  | .min3, [.int a, .int b, .int c] => some (.int (if c < (if b < a then b else a) then c else (if b < a then b else a)))
  | .int, [.int a] => some (.int a)
  | .int, [.bl b] => some (.int (if b then 1 else 0))
  | .repr, [x] => reprF m x
  | .sorted, [x] => sortF m x
  | .ord, [.str z] => if z.length = 1 then some (.int (z.cps.getD 0 0 : Nat)) else none
  | _, _ => none
def joinF (z : Str) (ts : List Str) : Option D := if (ts.map (·.length)).sum + ts.length * z.length ≤ 16777216 then some (.str (Txt.join z ts)) else none
def sindexF (z y : Str) : Option D := match Builtin.Str.occurrences z y 0 z.length 1 with
  | i :: _ => some (.int (i : Nat))
  | [] => none
def lindexF (m : Mu) (x y : D) : Option D := match pyM m x, pyD m y with
  | some (.list ds), some d => if SeqAt.shaped d && SeqAt.shaped (.list ds) then (ds.findIdx? fun z => PyData.eqv z d).map fun j => .int (j : Nat) else none
  | _, _ => none
def tindexF (ts : List Str) (z : Str) : Option D := (ts.findIdx? fun y => decide (y = z)).map fun j => .int (j : Nat)
def ttsF (ds : List D) : Option D := match allD strD ds with
  | some (t :: ts) => some (.tts (t :: ts))
  | _ => none
def ttvF : D → Option D
  | .tts ts => some (.tup (ts.map .str))
  | _ => none
def lcountF (m : Mu) (x y : D) : Option D := match pyM m x, pyD m y with
  | some (.list ds), some d => if PyData.canLayAll0 ds && d.canLay0 && decide (d.depth ≤ 60) then some (.int (ds.countP fun z => PyData.eqv z d : Nat)) else none
  | _, _ => none
def mtF (m : Mu) : Mt → D → List D → Option (D × Mu)
  | .append, .ref i, [x] => match m[i]? with
    | some (.lst xs) => if xs.length < sizeLine then some (.non, m.set i (.lst (xs ++ [x]))) else none
    | _ => none
  | .extend, .ref i, [y] => match m[i]?, lstD m y with
    | some (.lst xs), some ys => if xs.length + ys.length ≤ sizeLine then some (.non, m.set i (.lst (xs ++ ys))) else none
    | _, _ => none
  | .insert, .ref i, [.int k, x] => match m[i]? with
    | some (.lst xs) => if xs.length < sizeLine ∧ 0 ≤ k ∧ k < 1073741824 then some (.non, m.set i (.lst (xs.take k.toNat ++ [x] ++ xs.drop k.toNat))) else none
    | _ => none
  | .remove, .ref i, [.int k] => match m[i]? with
    | some (.lst xs) => match allD intD xs with
      | some ns => if k ∈ ns then some (.non, m.set i (.lst ((ns.erase k).map .int))) else none
      | none => none
    | _ => none
  | .pop, .ref i, [] => match m[i]? with
    | some (.lst xs) => match xs[xs.length - 1]? with
      | some y => some (y, m.set i (.lst xs.dropLast))
      | none => none
    | _ => none
  | .pop, .ref i, [.int k] => match m[i]? with
    | some (.lst xs) => if 0 ≤ k ∧ k < 1073741824 then match xs[k.toNat]? with
      | some y => some (y, m.set i (.lst (xs.eraseIdx k.toNat)))
      | none => none
      else none
    | _ => none
  | .upper, .str x, [] => if x.length ≤ 5592405 then some (.str (Txt.upper x), m) else none
  | .get2, .dks ks ds, [.str z, y] => some ((dksG ks ds z).getD y, m)
  | .join, .str z, [x] => (((seqD m x).bind (allD strD)).bind (joinF z)).map fun d => (d, m)
  | .sindex, .str z, [.str y] => (sindexF z y).map fun d => (d, m)
  | .lindex, x, [y] => (lindexF m x y).map fun d => (d, m)
  | .tindex, .tts ts, [.str z] => (tindexF ts z).map fun d => (d, m)
  | .lcount, x, [y] => (lcountF m x y).map fun d => (d, m)
  | .starts, .str x, [.str y] => some (.bl (Txt.startswith x y), m)
  | _, _, _ => none
def mtT (m : Mu) : Mt → D → Option Unit
  | .upper, .str _ => some ()
  | .upper, _ => none
  | .starts, .str _ => some ()
  | .starts, _ => none
  | .join, .str _ => some ()
  | .join, _ => none
  | .sindex, .str _ => some ()
  | .sindex, _ => none
  | .lindex, .lst _ => some ()
  | .lcount, .lst _ => some ()
  | .tindex, .tts _ => some ()
  | .tindex, _ => none
  | .get2, .dks _ _ => some ()
  | .get2, _ => none
  | _, .ref i => match m[i]? with
    | some (.lst _) => some ()
    | _ => none
  | _, _ => none
abbrev Cl := Nat → List D → Mu → R D
def tst : Bool → R D → R D
  | false, r => r
  | true, r => r.bind fun x m => opt m ((truthD m x).map .bl)
@[simp] theorem tst_f (r : R D) : tst false r = r := rfl
@[simp] theorem tst_t (r : R D) : tst true r = r.bind fun x m => opt m ((truthD m x).map .bl) := rfl
def setT : Tg → D → Mu → Sl → Option Sl
  | .nm i, x, _, s => some (s.set i (some x))
  | .tp is, .tup xs, _, s => if xs.length = is.length then some ((is.zip xs).foldl (fun s p => s.set p.1 (some p.2)) s) else none
  | .tp is, .lst xs, _, s => if xs.length = is.length then some ((is.zip xs).foldl (fun s p => s.set p.1 (some p.2)) s) else none
  | _, _, _, _ => none
def unpF (is : List Nat) : D → Mu → Sl → Option Sl
  | .tup xs, m, s => setT (.tp is) (.tup xs) m s
  | _, _, _ => none
def setS (is : List Nat) : D → Sl → Option Sl
  | .tup xs, s => if is.length ≤ xs.length + 1 ∧ 0 < is.length then some ((is.zip (xs.take (is.length - 1) ++ [.lst (xs.drop (is.length - 1))])).foldl (fun s p => s.set p.1 (some p.2)) s) else none
  | _, _ => none
def setL (is : List Nat) : D → Sl → Option Sl
  | .lst xs, s => if xs.length = is.length then some ((is.zip xs).foldl (fun s p => s.set p.1 (some p.2)) s) else none
  | _, _ => none
def ownT : Tg → List Nat
  | .nm i => [i]
  | .tp is => is
def wipeS (s : Sl) : List Nat → Sl
  | [] => s
  | v :: vs => (wipeS s vs).set v none
def goL (f : D → Mu → R (Option D)) : List D → Mu → R (List D)
  | [], m => .ok [] m
  | x :: xs, m => (f x m).bind fun o m => (goL f xs m).bind fun ys m => .ok (o.toList ++ ys) m
def goLL (f : D → Mu → R (List D)) : List D → Mu → R (List D)
  | [], m => .ok [] m
  | x :: xs, m => (f x m).bind fun ys m => (goLL f xs m).bind fun zs m => .ok (ys ++ zs) m
def enumD (i : Nat) : List D → List D
  | [] => []
  | x :: r => .tup [.int i, x] :: enumD (i + 1) r
def zipD : List D → List D → List D
  | x :: xs, y :: ys => .tup [x, y] :: zipD xs ys
  | _, _ => []
def rngD (lo : Int) (n : Nat) : List D := (List.range n).map fun (i : Nat) => .int (lo + (i : Int))
def small62 (i : Int) : Bool := decide (-(2 ^ 62) ≤ i) && decide (i < 2 ^ 62)
def small24 (i : Int) : Bool := decide (0 ≤ i) && decide (i ≤ 16777216)
def lrgF (x : D) : Option D := (intD x).bind fun n => if small24 n then some (.lst (rngD 0 n.toNat)) else none
def lrg2F (x y : D) : Option D := (intD x).bind fun i => (intD y).bind fun j => if small24 i && small24 j then some (.lst (rngD i (j - i).toNat)) else none
def trgF (x : D) : Option D := (intD x).bind fun n => if small24 n then some (.tup (rngD 0 n.toNat)) else none
def strItems (z : Str) : List D := z.cps.toList.map fun c => .str ⟨#[c]⟩
def itF : D → Option (List D)
  | .tup xs => some xs
  | .lst xs => some xs
  | .scr ns => some (ns.map .int)
  | .str z => some (strItems z)
  | _ => none
def sqF : D → Option (List D)
  | .tup xs => some xs
  | .lst xs => some xs
  | .scr ns => some (ns.map .int)
  | _ => none
def lstF : D → Option (List D)
  | .lst xs => some xs
  | .scr ns => some (ns.map .int)
  | _ => none
def tupF : D → Option (List D)
  | .tup xs => some xs
  | _ => none
def zipF (x y : D) : Option (List D) := match lstF x, lstF y with
  | some xs, some ys => some (zipD xs ys)
  | _, _ => match tupF x, tupF y with
    | some xs, some ys => some (zipD xs ys)
    | _, _ => none
def zipSF : D → D → Option (List D)
  | .str z, .tup ys => some (zipD (strItems z) ys)
  | _, _ => none
def zipSMF : D → D → Option (List D)
  | .str z, .lst ys => some (zipD (strItems z) ys)
  | _, _ => none
def zipMF : D → D → Option (List D)
  | .tup xs, .lst ys => some (zipD xs ys)
  | _, _ => none
def eisF (m : Mu) (cs : List Nat) : D → Option Bool
  | .xo c _ => some (cs.contains c)
  | d => (tyD m d).map fun _ => false
def eflF (tb : List (Nat × Nat)) : D → Option D
  | .xo c fs => (tb.lookup c).bind fun j => fs[j]?
  | _ => none
def fnF : D → Option Nat
  | .fn i => some i
  | .lam i => some i
  | _ => none
def nLen : Str := "__len__"
def nStr : Str := "__str__"
def putD (f : Str) (d : D) : List (Str × D) → List (Str × D)
  | [] => [(f, d)]
  | (g, x) :: r => if g = f then (g, d) :: r else (g, x) :: putD f d r
def fldF (m : Mu) (cs : List Nat) (f : Str) : D → Option D
  | .ref i => match m[i]? with
    | some (.ins c fs) => if cs.contains c then fs.lookup f else none
    | _ => none
  | _ => none
def setFld (m : Mu) (cs : List Nat) (f : Str) (d : D) : D → Option Mu
  | .ref i => match m[i]? with
    | some (.ins c fs) => if cs.contains c = true ∧ fs.length < 1000 then some (m.set i (.ins c (putD f d fs))) else none
    | _ => none
  | _ => none
def methF (m : Mu) (tb : List (Nat × Nat)) (x : Str) : D → Option Nat
  | .ref i => match m[i]? with
    | some (.ins c fs) => if (fs.lookup x).isNone then tb.lookup c else none
    | _ => none
  | _ => none
def insC (m : Mu) : D → List Nat
  | .ref i => match m[i]? with
    | some (.ins c _) => [c]
    | _ => []
  | _ => []
def isNon : D → Bool
  | .non => true
  | _ => false
def newF (C : Cl) (c f : Nat) (ds : List D) (m : Mu) : R D := (C f (.ref m.length :: ds) (m ++ [.ins c []])).bind fun r m' => if isNon r then .ok (.ref m.length) m' else .bad
def binLF (m : Mu) : Operator → D → D → Option (List D)
  | .Add, x, y => match lstD m x, lstD m y with
    | some a, some b => if a.length + b.length ≤ sizeLine then some (a ++ b) else none
    | _, _ => none
  | .Mult, x, .int k => match lstD m x with
    | some a => if 0 ≤ k ∧ k ≤ 1000 ∧ a.length ≤ 1000 then some (List.replicate k.toNat a).flatten else none
    | none => none
  | _, _, _ => none
def iinF (m : Mu) (cs : List Nat) (d : D) : Option Bool := match insC m d with
  | c :: _ => some (cs.contains c)
  | [] => (tyD m d).map fun _ => false
def eqRt (m : Mu) (tb : List (Nat × Nat)) (y : D) : Bool := (tyD m y).isSome || (match insC m y with
  | [d] => (tb.lookup d).isSome
  | _ => false)
def rFst (m : Mu) (sb : List (Nat × Nat)) (x y : D) : Bool := match insC m x, insC m y with
  | [c], [d] => sb.contains (d, c)
  | _, _ => false
def noX {α : Type} : R α → R α
  | .ok a m => .ok a m
  | _ => .bad
@[simp] theorem noX_k {α : Type} (a : α) (m : Mu) : noX (.ok a m) = .ok a m := rfl
def ownEqF (C : Cl) (neg : Bool) (tb sb : List (Nat × Nat)) (x y : D) (m : Mu) : R D :=
  if rFst m sb x y then (if neg then .bad else match methF m tb Ev.nEq y with
    | some f => (noX (C f [y, x] m)).bind fun r m => match r with
      | .bl b => .ok (.bl b) m
      | _ => .bad
    | none => .bad)
  else if eqRt m tb y then match methF m tb Ev.nEq x with
    | some f => (noX (C f [x, y] m)).bind fun r m => match r with
      | .bl b => .ok (.bl (b != neg)) m
      | _ => .bad
    | none => .bad
  else .bad
def ownLenF (C : Cl) (tb : List (Nat × Nat)) (x : D) (m : Mu) : R D := match methF m tb Ev.nLen x with
  | some f => (noX (C f [x] m)).bind fun r m => match r with
    | .int n => if 0 ≤ n ∧ n < 9223372036854775808 then .ok (.int n) m else .bad
    | _ => .bad
  | none => .bad
def ownStrF (C : Cl) (tb : List (Nat × Nat)) (x : D) (m : Mu) : R D := match methF m tb Ev.nStr x with
  | some f => (noX (C f [x] m)).bind fun r m => match r with
    | .str z => .ok (.str z) m
    | _ => .bad
  | none => .bad
def fs1F (x : D) (m : Mu) : R D := match x with
  | .str z => if z.length ≤ sizeLine then .ok (.str z) m else .bad
  | _ => .bad
def rngDown (lo hi : Int) : List D := (List.range (lo - hi).toNat).map fun (i : Nat) => .int (lo + (i : Int) * (-1))
def isAbs : E → Bool
  | .abs => true
  | _ => false
def partD : Bool → D → Option (Option Int)
  | true, _ => some none
  | false, .int i => some (some i)
  | _, _ => none
mutual
def closD (n : Nat) : D → Bool
  | .ref i => decide (i < n)
  | .tup xs => closDs n xs
  | .lst xs => closDs n xs
  | .xo _ xs => closDs n xs
  | .dks _ xs => closDs n xs
  | .dcn ks xs => closDs n ks && closDs n xs
  | _ => true
def closDs (n : Nat) : List D → Bool
  | [] => true
  | x :: r => closD n x && closDs n r
end
def zapD (m : Mu) : D → Option D
  | .ref i => match m[i]? with
    | some (.lst xs) => if closDs 0 xs then some (.lst xs) else none
    | _ => none
  | d => if closD 0 d then some d else none
def zapDs (m : Mu) : List D → Option (List D)
  | [] => some []
  | d :: r => match zapD m d, zapDs m r with
    | some a, some b => some (a :: b)
    | _, _ => none
def zapF (C : Cl) (f : Nat) (ds : List D) (m : Mu) : R D := match zapDs m ds with
  | some es => match C f es [] with
    | .ok d [] => match flatD d with
      | some _ => .ok d m
      | none => .bad
    | _ => .bad
  | none => .bad
def zapT (m : Mu) : Nat → D → Option D
  | 0, _ => none
  | n + 1, .ref i => match m[i]? with
    | some (.lst xs) => (allD (zapT m n) xs).map .lst
    | _ => none
  | _ + 1, d => if closD 0 d then some d else none
mutual
def stillD : D → Bool
  | .non => true
  | .bl _ => true
  | .int _ => true
  | .str _ => true
  | .tup xs => stillDs xs
  | _ => false
def stillDs : List D → Bool
  | [] => true
  | x :: r => stillD x && stillDs r
end
def zapTF (C : Cl) (f : Nat) (ds : List D) (m : Mu) : R D := match allD (zapT m 200) ds with
  | some es => match C f es [] with
    | .ok d [] => if stillD d then .ok d m else .bad
    | _ => .bad
  | none => .bad
def lsLF (m : Mu) (x : D) : R D := match seqD m x with
  | some xs => .ok (.ref m.length) (m ++ [.lst xs])
  | none => .bad
def slLF (m : Mu) (x : D) (lo hi : Option Int) : R D := match lstD m x with
  | some xs => .ok (.ref m.length) (m ++ [.lst (cutL xs lo hi)])
  | none => .bad
def getR : List (List Int × D) → List Int → Option D
  | [], _ => none
  | p :: r, k => if p.1 = k then some p.2 else getR r k
def putR (kvs : List (List Int × D)) (k : List Int) (v : D) : List (List Int × D) :=
  if (getR kvs k).isSome then kvs.map fun p => if p.1 = k then (p.1, v) else p else kvs ++ [(k, v)]
def dctD (m : Mu) : D → Option (List (List Int × D))
  | .ref i => match m[i]? with
    | some (.dct kvs) => some kvs
    | _ => none
  | _ => none
def dgetF (m : Mu) (x k : D) : Option D := (dctD m x).bind fun kvs => (rowI k).bind fun r => getR kvs r
mutual
def nkD : D → Option NestedKey
  | .non => some .none
  | .bl b => some (.num (if b = true then 1 else 0))
  | .int i => some (.num i)
  | .str x => some (.text x)
  | .tup xs => (nkDs xs).map .tup
  | _ => none
def nkDs : List D → Option (List NestedKey)
  | [] => some []
  | x :: r => match nkD x, nkDs r with
    | some a, some l => some (a :: l)
    | _, _ => none
end
def keyN : D → Option NestedKey
  | .tup xs => (nkDs xs).bind fun ks => if (NestedKey.tup ks).depth ≤ 8 then some (.tup ks) else none
  | _ => none
def getP : List (D × D) → NestedKey → Option D
  | [], _ => none
  | p :: r, k => if keyN p.1 = some k then some p.2 else getP r k
def putP (kvs : List (D × D)) (y : D) (k : NestedKey) (v : D) : List (D × D) :=
  if (getP kvs k).isSome then kvs.map fun p => if keyN p.1 = some k then (p.1, v) else p else kvs ++ [(y, v)]
def dcnOf (kvs : List (D × D)) : D := .dcn (kvs.map (·.1)) (kvs.map (·.2))
def dngF (x k z : D) : Option D := match x with
  | .dcn ks ds => (keyN k).map fun n => (getP (ks.zip ds) n).getD z
  | _ => none
def dcnT : D → Option Unit
  | .dcn _ _ => some ()
  | _ => none
def goN (f : D → Mu → R (D × NestedKey × D)) : List D → List (D × D) → Mu → R (List (D × D))
  | [], kvs, m => .ok kvs m
  | x :: xs, kvs, m => (f x m).bind fun p m => goN f xs (putP kvs p.1 p.2.1 p.2.2) m
def dcnB (t : Tg) (fk fe : Sl → Mu → R D) (s : Sl) (x : D) (m : Mu) : R (D × NestedKey × D) := match setT t x m (wipeS s (ownT t)) with
  | some s' => (fk s' m).bind fun y m => (opt m (keyN y)).bind fun k m => (fe s' m).bind fun d m => .ok (y, k, d) m
  | none => .bad
def dcnF (t : Tg) (fi : Sl → Mu → R (List D)) (fk fe : Sl → Mu → R D) (s : Sl) (m : Mu) : R D := (fi s m).bind fun xs m =>
  (noX (goN (dcnB t fk fe s) xs [] m)).bind fun kvs m => if xs.length ≤ sizeLine then .ok (dcnOf kvs) m else .bad
def dinF (m : Mu) (neg : Bool) (k x : D) : Option Bool := match x with
  | .dcn ks ds => (keyN k).map fun n => ((getP (ks.zip ds) n).isSome != neg)
  | x => (dctD m x).bind fun kvs => (rowI k).map fun r => ((getR kvs r).isSome != neg)
def dcmD (m : Mu) : D → Option (List (D × D))
  | .ref i => match m[i]? with
    | some (.dcm kvs) => some kvs
    | _ => none
  | _ => none
def dmixF (m : Mu) (x k : D) : Option D := (dcmD m x).bind fun kvs => (keyN k).bind fun n => getP kvs n
def dminF (m : Mu) (neg : Bool) (k x : D) : Option Bool := (dcmD m x).bind fun kvs => (keyN k).map fun n => ((getP kvs n).isSome != neg)
def setDcm (m : Mu) (k : D) (n : NestedKey) (v : D) : D → Option Mu
  | .ref i => match m[i]? with
    | some (.dcm kvs) => if kvs.length < sizeLine then some (m.set i (.dcm (putP kvs k n v))) else none
    | _ => none
  | _ => none
def dmputF (m : Mu) (x k v : D) : Option Mu := (keyN k).bind fun n => setDcm m k n v x
def dmsdF (m : Mu) (x k z : D) : Option (D × Mu) := (dcmD m x).bind fun kvs => (keyN k).bind fun n => if kvs.length < sizeLine then
  match x, getP kvs n with
  | _, some d => some (d, m)
  | .ref i, none => some (z, m.set i (.dcm (putP kvs k n z)))
  | _, none => none else none
def dmlenF (m : Mu) (x : D) : Option D := (dcmD m x).map fun kvs => .int kvs.length
def alikeB (m : Mu) (ks : List D) : Bool := (ks.all fun k => (pyD m k).isSome && (pyd m k).canLay0 && decide ((pyd m k).depth ≤ 60) && (match pyd m k with | .tuple _ => true | _ => false)) && (ks.all fun a => ks.all fun b => PySem.W.alike (pyd m a) (pyd m b))
def dmsrtF (m : Mu) (x : D) : Option D := (dcmD m x).bind fun kvs => if alikeB m (kvs.map (·.1)) then some (.lst ((kvs.map (·.1)).mergeSort (rowLe m))) else none
def dg2F (m : Mu) (x k z : D) : Option D := (dctD m x).bind fun kvs => (rowI k).map fun r => (getR kvs r).getD z
def dg1F (m : Mu) (x k : D) : Option D := (dctD m x).bind fun kvs => (rowI k).map fun r => (getR kvs r).getD .non
def setDct (m : Mu) (r : List Int) (v : D) : D → Option Mu
  | .ref i => match m[i]? with
    | some (.dct kvs) => if kvs.length < sizeLine then some (m.set i (.dct (putR kvs r v))) else none
    | _ => none
  | _ => none
def dputF (m : Mu) (x k v : D) : Option Mu := (rowI k).bind fun r => setDct m r v x
def prD : D → Option (List Int × D)
  | .tup [k, v] => (rowI k).map fun r => (r, v)
  | _ => none
def dofF (m : Mu) (x : D) : Option (List (List Int × D)) := ((lstD m x).bind (allD prD)).map fun ps => ps.foldl (fun kvs p => putR kvs p.1 p.2) []
def rowD (ns : List Int) : D := .tup (ns.map .int)
def dsrtF (m : Mu) (x : D) : Option D := (dctD m x).map fun kvs => .lst ((kvs.map fun p => rowD p.1).mergeSort (rowLe m))
def getZ : List (Int × D) → Int → Option D
  | [], _ => none
  | p :: r, k => if p.1 = k then some p.2 else getZ r k
def putZ (kvs : List (Int × D)) (k : Int) (v : D) : List (Int × D) :=
  if (getZ kvs k).isSome then kvs.map fun p => if p.1 = k then (p.1, v) else p else kvs ++ [(k, v)]
def dciD (m : Mu) : D → Option (List (Int × D))
  | .ref i => match m[i]? with
    | some (.dci kvs) => some kvs
    | _ => none
  | _ => none
def keyZ : D → Option Int
  | .int k => some k
  | _ => none
def digF (m : Mu) (x k : D) : Option D := (dciD m x).bind fun kvs => (keyZ k).bind fun r => getZ kvs r
def diiF (m : Mu) (neg : Bool) (k x : D) : Option Bool := (dciD m x).bind fun kvs => (keyZ k).map fun r => ((getZ kvs r).isSome != neg)
def disP (kvs : List (Int × D)) : List D := kvs.map fun p => .tup [.int p.1, p.2]
def dlsF (m : Mu) (x : D) : Option D := match dctD m x with
  | some kvs => some (.lst (kvs.map fun p => rowD p.1))
  | none => (dciD m x).map fun kvs => .lst (kvs.map fun p => .int p.1)
def disiF (m : Mu) (x : D) : Option D := (dciD m x).bind fun kvs => if kvs.isEmpty then some (.lst []) else if rowsB m (disP kvs) then some (.lst ((disP kvs).mergeSort (rowLe m))) else none
def dig1F (m : Mu) (x k : D) : Option D := (dciD m x).bind fun kvs => (keyZ k).map fun r => (getZ kvs r).getD .non
def setDci (m : Mu) (r : Int) (v : D) : D → Option Mu
  | .ref i => match m[i]? with
    | some (.dci kvs) => if kvs.length < sizeLine then some (m.set i (.dci (putZ kvs r v))) else none
    | _ => none
  | _ => none
def diputF (m : Mu) (x k v : D) : Option Mu := (keyZ k).bind fun r => setDci m r v x
def seen (val : Nat → Str) (i : Nat) : Str → Bool := fun k => (List.range i).any fun j => val j == k
def dn (val : Nat → Str) : Nat → Nat
  | 0 => 0
  | i + 1 => if seen val i (val i) then dn val i else dn val i + 1
def lsetF (m : Mu) (x : D) : Option D := ((lstD m x).bind (allD strD)).bind fun ts => if ts.length ≤ 1000 then some (.int (dn (fun i => ts.getD i Str.empty) ts.length : Nat)) else none
def dilenF (m : Mu) (x : D) : Option D := (dciD m x).map fun kvs => .int kvs.length
def plainD : D → Bool
  | .non | .bl _ | .int _ | .str _ => true
  | _ => false
def plainS (s : Sl) : Sl := s.map fun o => o.bind fun d => if plainD d then some d else none
def lckB (t : Tg) (fc fe : Sl → Mu → R D) (s : Sl) (x : D) (m : Mu) : R (Option D) := match setT t x m (wipeS (plainS s) (ownT t)) with
  | some s' => (fc s' m).bind fun k m => match k with
    | .bl true => (fe s' m).bind fun d m => .ok (some d) m
    | .bl false => .ok none m
    | _ => .bad
  | none => .bad
def lckF (v : Nat) (t : Tg) (fc fe : Sl → Mu → R D) (s : Sl) (m : Mu) : R D := match s[v]? with
  | some (some x) => match dciD m x with
    | some kvs => match goL (lckB t fc fe s) (kvs.map fun p => .int p.1) [] with
      | .ok ys [] => if ys.length ≤ sizeLine ∧ ys.all plainD = true then .ok (.lst ys) m else .bad
      | _ => .bad
    | none => .bad
  | _ => .bad
def goD (f : D → Mu → R (List Int × D)) : List D → List (List Int × D) → Mu → R (List (List Int × D))
  | [], kvs, m => .ok kvs m
  | x :: xs, kvs, m => (f x m).bind fun p m => goD f xs (putR kvs p.1 p.2) m
def dcIB (t : Tg) (fc fk fe : Sl → Mu → R D) (s : Sl) (x : D) (m : Mu) : R (Option (List Int × D)) := match setT t x m (wipeS s (ownT t)) with
  | some s' => (fc s' m).bind fun k m => match k with
    | .bl true => (fk s' m).bind fun y m => (opt m (rowI y)).bind fun r m => (fe s' m).bind fun d m => .ok (some (r, d)) m
    | .bl false => .ok none m
    | _ => .bad
  | none => .bad
def putO (kvs : List (List Int × D)) : Option (List Int × D) → List (List Int × D)
  | some p => putR kvs p.1 p.2
  | none => kvs
def goDI (f : D → Mu → R (Option (List Int × D))) : List D → List (List Int × D) → Mu → R (List (List Int × D))
  | [], kvs, m => .ok kvs m
  | x :: xs, kvs, m => (f x m).bind fun p m => goDI f xs (putO kvs p) m
def dcDF (v : Nat) (t : Tg) (fc fk fe : Sl → Mu → R D) (s : Sl) (m : Mu) : R D := match s[v]? with
  | some (some (.ref i)) => match m[i]? with
    | some (.dct kvs) => match goDI (dcIB t fc fk fe s) (kvs.map fun p => rowD p.1) [] (m.set i .hid) with
      | .ok kvs' m2 => match m2[i]? with
        | some .hid => if kvs.length ≤ sizeLine then .ok (.ref m2.length) (m2.set i (.dct kvs) ++ [.dct kvs']) else .bad
        | _ => .bad
      | _ => .bad
    | _ => .bad
  | _ => .bad
def disT (kvs : List (List Int × D)) : List D := kvs.map fun p => .tup [rowD p.1, p.2]
def dilF (m : Mu) (x : D) : Option D := (dctD m x).map fun kvs => .lst (disT kvs)
def dcEF (v : Nat) (t : Tg) (fc fk fe : Sl → Mu → R D) (s : Sl) (m : Mu) : R D := match s[v]? with
  | some (some (.ref i)) => match m[i]? with
    | some (.dct kvs) => match goDI (dcIB t fc fk fe s) (disT kvs) [] (m.set i .hid) with
      | .ok kvs' m2 => match m2[i]? with
        | some .hid => if kvs.length ≤ sizeLine then .ok (.ref m2.length) (m2.set i (.dct kvs) ++ [.dct kvs']) else .bad
        | _ => .bad
      | _ => .bad
    | _ => .bad
  | _ => .bad
def dcZG (t : Tg) (fc fk fe : Sl → Mu → R D) (s : Sl) (x : D) (m : Mu) : R D := match x with
  | .ref i => match m[i]? with
    | some (.dct kvs) => match goDI (dcIB t fc fk fe s) (kvs.map fun p => rowD p.1) [] (m.set i .hid) with
      | .ok kvs' m2 => if kvs.length ≤ sizeLine then .ok (.ref m2.length) (m2 ++ [.dct kvs']) else .bad
      | _ => .bad
    | _ => .bad
  | _ => .bad
def dcZF (fa : Sl → Mu → R D) (t : Tg) (fc fk fe : Sl → Mu → R D) (s : Sl) (m : Mu) : R D := (fa s m).bind fun x m => dcZG t fc fk fe s x m
def keyF (C : Cl) (f : Nat) (m : Mu) (d : D) : Option D := match zapD m d with
  | some e => match C f [e] [] with
    | .ok k _ => if closD 0 k then some k else none
    | _ => none
  | none => none
def keysF (C : Cl) (f : Nat) (m : Mu) : List D → Option (List D)
  | [] => some []
  | d :: r => match keyF C f m d, keysF C f m r with
    | some k, some ks => some (k :: ks)
    | _, _ => none
def keysOk (ks : List D) : Bool := (ks.all fun k => (pyD [] k).isSome && (pyd [] k).canLay0 && decide ((pyd [] k).depth ≤ 60)) && (ks.all fun a => ks.all fun b => PySem.W.alike (pyd [] a) (pyd [] b)) &&
  ((ks.all fun a => match pyd [] a with | .tuple (_ :: _) => true | _ => false) || ks.all fun a => match pyd [] a with | .none => false | .tuple _ => false | _ => true)
def sortK (ds ks : List D) : List D := ((ds.zip ks).mergeSort fun a b => rowLe [] a.2 b.2).map (·.1)
def srtkF (C : Cl) (f : Nat) (m : Mu) (x : D) : Option D := match lstD m x with
  | some ds => match keysF C f m ds with
    | some ks => if keysOk ks then some (.lst (sortK ds ks)) else none
    | none => none
  | none => none
def srtlF (C : Cl) (lv : Bool) (f : Nat) (m : Mu) (x : D) : R D := match srtkF C f m x with
  | some (.lst xs) => if lv then .ok (.ref m.length) (m ++ [.lst xs]) else .ok (.lst xs) m
  | _ => .bad
def SameM (m : Mu) : R (Option D) → Prop
  | .ok _ m1 => m1 = m
  | _ => False
open Classical in
noncomputable def lcvF (lv : Bool) (t : Tg) (fc fe : Sl → Mu → R D) (s : Sl) (x : D) (m : Mu) : R D := match x with
  | .ref i => match m[i]? with
    | some (.lst xs) => (noX (goL (fun y m1 => if SameM m (match setT t y m1 (wipeS s (ownT t)) with
        | some s' => (fc s' m1).bind fun k m => match k with
          | .bl true => (fe s' m).bind fun d m => .ok (some d) m
          | .bl false => .ok none m
          | _ => .bad
        | none => .bad) then (match setT t y m1 (wipeS s (ownT t)) with
        | some s' => (fc s' m1).bind fun k m => match k with
          | .bl true => (fe s' m).bind fun d m => .ok (some d) m
          | .bl false => .ok none m
          | _ => .bad
        | none => .bad) else .bad) xs m)).bind fun ys m => if ys.length ≤ sizeLine then (if lv then .ok (.ref m.length) (m ++ [.lst ys]) else .ok (.lst ys) m) else .bad
    | _ => .bad
  | _ => .bad
noncomputable section
mutual
def evE (C : Cl) : E → Bool → Sl → Mu → R D
  | .cst d, t, _, m => tst t (.ok d m)
  | .var i, t, s, m => tst t (match s[i]? with | some (some d) => .ok d m | _ => .bad)
  | .glob _ d, t, _, m => tst t (.ok d m)
  | .tup es, t, s, m => tst t ((evEs C es s m).bind fun ds m => .ok (.tup ds) m)
  | .lst es, t, s, m => tst t ((evEs C es s m).bind fun ds m => .ok (.lst ds) m)
  | .lstL es, t, s, m => tst t ((evEs C es s m).bind fun ds m => .ok (.ref m.length) (m ++ [.lst ds]))
  | .dctE, t, _, m => tst t (.ok .dct m)
  | .bin op a b, t, s, m => tst t ((evE C a false s m).bind fun x m => (evE C b false s m).bind fun y m => opt m (binF m op x y))
  | .neg a, t, s, m => tst t ((evE C a false s m).bind fun x m => opt m ((intD x).map fun i => .int (-i)))
  | .not a, t, s, m => (evE C a t s m).bind fun x m => opt m ((blD x).map fun b => .bl (!b))
  | .cmp op a b, t, s, m => tst t ((evE C a false s m).bind fun x m => (evE C b false s m).bind fun y m => opt m ((cmpF m op x y).map .bl))
  | .chain o1 o2 a b c, t, s, m => tst t ((evE C a false s m).bind fun x m => (evE C b false s m).bind fun y m => (opt m (cmpF m o1 x y)).bind fun k m =>
      if k then (evE C c false s m).bind fun z m => opt m ((cmpF m o2 y z).map .bl) else .ok (.bl false) m)
  | .and es, t, s, m => evAnd C es t s m
  | .or es, t, s, m => evOr C es t s m
  | .ite c a b, t, s, m => tst t ((evE C c true s m).bind fun k m => match k with
      | .bl true => evE C a false s m
      | .bl false => evE C b false s m
      | _ => .bad)
  | .ix a b, t, s, m => tst t ((evE C a false s m).bind fun x m => (evE C b false s m).bind fun y m => opt m (ixF m x y))
  | .sl a lo hi, t, s, m => tst t ((evE C a false s m).bind fun x m => (evE C lo false s m).bind fun l m => (opt m (partD (isAbs lo) l)).bind fun l m =>
      (evE C hi false s m).bind fun h m => (opt m (partD (isAbs hi) h)).bind fun h m => opt m (slF m x l h))
  | .slL a lo hi, t, s, m => tst t ((evE C a false s m).bind fun x m => (evE C lo false s m).bind fun l m => (opt m (partD (isAbs lo) l)).bind fun l m =>
      (evE C hi false s m).bind fun h m => (opt m (partD (isAbs hi) h)).bind fun h m => slLF m x l h)
  | .abs, t, _, m => tst t (.ok .non m)
  | .rev a, t, s, m => tst t ((evE C a false s m).bind fun x m => opt m (revF m x))
  | .lrg a, t, s, m => tst t ((evE C a false s m).bind fun x m => opt m (lrgF x))
  | .call _ f es, t, s, m => tst t ((evEs C es s m).bind fun ds m => C f ds m)
  | .callZ _ f es, t, s, m => tst t ((evEs C es s m).bind fun ds m => zapF C f ds m)
  | .callD _ f es, t, s, m => tst t ((evEs C es s m).bind fun ds m => zapTF C f ds m)
  | .callK _ f es _ e, t, s, m => tst t ((evEs C es s m).bind fun ds m => (evE C e false s m).bind fun d m => C f (ds ++ [d]) m)
  | .callN _ f es d, t, s, m => tst t ((evEs C es s m).bind fun ds m => C f (ds ++ [d]) m)
  | .bi _ b es, t, s, m => tst t ((evEs C es s m).bind fun ds m => opt m (biF m b ds))
  | .mt k a es, t, s, m => tst t ((evE C a false s m).bind fun x m => (opt m (mtT m k x)).bind fun _ m => (evEs C es s m).bind fun ds m => match mtF m k x ds with
      | some (y, m) => .ok y m
      | none => .bad)
  | .isi a ts _, t, s, m => tst t ((evE C a false s m).bind fun x m => opt m ((tyD m x).map fun u => .bl (isiT u ts)))
  | .lc elt tg it c, t, s, m => tst t ((evI C it s m).bind fun xs m =>
      (noX (goL (fun x m => match setT tg x m (wipeS s (ownT tg)) with
        | some s' => (evE C c true s' m).bind fun k m => match k with
          | .bl true => (evE C elt false s' m).bind fun d m => .ok (some d) m
          | .bl false => .ok none m
          | _ => .bad
        | none => .bad) xs m)).bind fun ys m => if ys.length ≤ sizeLine then .ok (.lst ys) m else .bad)
  | .lcV lv elt tg a c, t, s, m => tst t ((evE C a false s m).bind fun x m => lcvF lv tg (fun s m => evE C c true s m) (fun s m => evE C elt false s m) s x m)
  | .lcX elt tg it, t, s, m => tst t ((evI C it s m).bind fun xs m => if xs.length ≤ sizeLine then
      (goL (fun x m => match setT tg x m (wipeS s (ownT tg)) with
        | some s' => (evE C elt false s' m).bind fun d m => .ok (some d) m
        | none => .bad) xs m).bind fun ys m => if ys.length ≤ sizeLine then .ok (.lst ys) m else .bad else .bad)
  | .lcL elt tg it c, t, s, m => tst t ((evI C it s m).bind fun xs m =>
      (noX (goL (fun x m => match setT tg x m (wipeS s (ownT tg)) with
        | some s' => (evE C c true s' m).bind fun k m => match k with
          | .bl true => (evE C elt false s' m).bind fun d m => .ok (some d) m
          | .bl false => .ok none m
          | _ => .bad
        | none => .bad) xs m)).bind fun ys m => if ys.length ≤ sizeLine then .ok (.ref m.length) (m ++ [.lst ys]) else .bad)
  | .lc2 elt tg it tg1 it1 c, t, s, m => tst t ((evI C it s m).bind fun xs m =>
      (noX (goLL (fun x m => match setT tg x m (wipeS s (ownT tg ++ ownT tg1)) with
        | some s1 => (evI C it1 s1 m).bind fun ys m => goL (fun y m => match setT tg1 y m (wipeS s1 (ownT tg1)) with
          | some s2 => (evE C c true s2 m).bind fun k m => match k with
            | .bl true => (evE C elt false s2 m).bind fun d m => .ok (some d) m
            | .bl false => .ok none m
            | _ => .bad
          | none => .bad) ys m
        | none => .bad) xs m)).bind fun zs m => if zs.length ≤ sizeLine then .ok (.lst zs) m else .bad)
  | .dctL, t, _, m => tst t (.ok (.ref m.length) (m ++ [.dct []]))
  | .lrg2 a b, t, s, m => tst t ((evE C a false s m).bind fun x m => (evE C b false s m).bind fun y m => opt m (lrg2F x y))
  | .rpl es, t, s, m => tst t ((evEs C es s m).bind fun ds m => opt m (reprLF m ds))
  | .tts es, t, s, m => tst t ((evEs C es s m).bind fun ds m => opt m (ttsF ds))
  | .ttv a, t, s, m => tst t ((evE C a false s m).bind fun x m => opt m (ttvF x))
  | .lam i, t, _, m => tst t (.ok (.lam i) m)
  | .srtl lv a f, t, s, m => tst t ((evE C a false s m).bind fun x m => srtlF C lv f m x)
  | .srtk a _ f, t, s, m => tst t ((evE C a false s m).bind fun x m => opt m (srtkF C f m x))
  | .dig a b, t, s, m => tst t ((evE C a false s m).bind fun x m => (evE C b false s m).bind fun y m => opt m (digF m x y))
  | .dii neg a b, t, s, m => tst t ((evE C a false s m).bind fun x m => (evE C b false s m).bind fun y m => opt m ((diiF m neg x y).map .bl))
  | .disi a, t, s, m => tst t ((evE C a false s m).bind fun x m => opt m (disiF m x))
  | .trg a, t, s, m => tst t ((evE C a false s m).bind fun x m => opt m (trgF x))
  | .dof a, t, s, m => tst t ((evE C a false s m).bind fun x m => (opt m (dofF m x)).bind fun kvs m => .ok (.ref m.length) (m ++ [.dct kvs]))
  | .dget a b, t, s, m => tst t ((evE C a false s m).bind fun x m => (evE C b false s m).bind fun y m => opt m (dgetF m x y))
  | .din neg a b, t, s, m => tst t ((evE C a false s m).bind fun x m => (evE C b false s m).bind fun y m => opt m ((dinF m neg x y).map .bl))
  | .dmL, t, _, m => tst t (.ok (.ref m.length) (m ++ [.dcm []]))
  | .dmix a b, t, s, m => tst t ((evE C a false s m).bind fun x m => (evE C b false s m).bind fun y m => opt m (dmixF m x y))
  | .dmin neg a b, t, s, m => tst t ((evE C a false s m).bind fun x m => (evE C b false s m).bind fun y m => opt m ((dminF m neg x y).map .bl))
  | .dmsd a b d, t, s, m => tst t ((evE C a false s m).bind fun x m => (opt m (dcmD m x)).bind fun _ m => (evE C b false s m).bind fun y m => (evE C d false s m).bind fun z m => match dmsdF m x y z with
    | some (d, m') => .ok d m'
    | none => .bad)
  | .dmlen a, t, s, m => tst t ((evE C a false s m).bind fun x m => opt m (dmlenF m x))
  | .dmsrt a, t, s, m => tst t ((evE C a false s m).bind fun x m => opt m (dmsrtF m x))
  | .ditL, t, _, m => tst t (.ok (.ref m.length) (m ++ [.dci []]))
  | .dig1 a b, t, s, m => tst t ((evE C a false s m).bind fun x m => (opt m (dciD m x)).bind fun _ m => (evE C b false s m).bind fun y m => opt m (dig1F m x y))
  | .lsL a, t, s, m => tst t ((evE C a false s m).bind fun x m => lsLF m x)
  | .lset a, t, s, m => tst t ((evE C a false s m).bind fun x m => opt m (lsetF m x))
  | .dilen a, t, s, m => tst t ((evE C a false s m).bind fun x m => opt m (dilenF m x))
  | .lcK elt tg v c, t, s, m => tst t (lckF v tg (fun s m => evE C c true s m) (fun s m => evE C elt false s m) s m)
  | .dg2 a b d, t, s, m => tst t ((evE C a false s m).bind fun x m => (opt m (dctD m x)).bind fun _ m => (evE C b false s m).bind fun y m => (evE C d false s m).bind fun z m => opt m (dg2F m x y z))
  | .dg1 a b, t, s, m => tst t ((evE C a false s m).bind fun x m => (opt m (dctD m x)).bind fun _ m => (evE C b false s m).bind fun y m => opt m (dg1F m x y))
  | .dls a, t, s, m => tst t ((evE C a false s m).bind fun x m => opt m (dlsF m x))
  | .dsrt a, t, s, m => tst t ((evE C a false s m).bind fun x m => opt m (dsrtF m x))
  | .dc k v tg it, t, s, m => tst t ((evI C it s m).bind fun xs m =>
      (noX (goD (fun x m => match setT tg x m (wipeS s (ownT tg)) with
        | some s' => (evE C k false s' m).bind fun y m => (opt m (rowI y)).bind fun r m => (evE C v false s' m).bind fun d m => .ok (r, d) m
        | none => .bad) xs [] m)).bind fun kvs m => if xs.length ≤ sizeLine then .ok (.ref m.length) (m ++ [.dct kvs]) else .bad)
  | .dcC k v tg it c, t, s, m => tst t ((evI C it s m).bind fun xs m => (noX (goDI (dcIB tg (fun s m => evE C c true s m) (fun s m => evE C k false s m) (fun s m => evE C v false s m) s) xs [] m)).bind fun kvs m => if xs.length ≤ sizeLine then .ok (.ref m.length) (m ++ [.dct kvs]) else .bad)
  | .dcD k v tg i c, t, s, m => tst t (dcDF i tg (fun s m => evE C c true s m) (fun s m => evE C k false s m) (fun s m => evE C v false s m) s m)
  | .dcE k v tg i c, t, s, m => tst t (dcEF i tg (fun s m => evE C c true s m) (fun s m => evE C k false s m) (fun s m => evE C v false s m) s m)
  | .dcZ k v tg a c, t, s, m => tst t (dcZF (fun s m => evE C a false s m) tg (fun s m => evE C c true s m) (fun s m => evE C k false s m) (fun s m => evE C v false s m) s m)
  | .dnC k v tg it, t, s, m => tst t (dcnF tg (fun s m => evI C it s m) (fun s m => evE C k false s m) (fun s m => evE C v false s m) s m)
  | .dng a b d, t, s, m => tst t ((evE C a false s m).bind fun x m => (opt m (dcnT x)).bind fun _ m => (evE C b false s m).bind fun y m => (evE C d false s m).bind fun z m => opt m (dngF x y z))
  | .dil a, t, s, m => tst t ((evE C a false s m).bind fun x m => opt m (dilF m x))
  | .new _ c f es, t, s, m => tst t ((evEs C es s m).bind fun ds m => newF C c f ds m)
  | .fld a f cs, t, s, m => tst t ((evE C a false s m).bind fun x m => opt m (fldF m cs f x))
  | .meth a x tb es, t, s, m => tst t ((evE C a false s m).bind fun y m => (opt m (methF m tb x y)).bind fun f m => (evEs C es s m).bind fun ds m => C f (y :: ds) m)
  | .binL op a b, t, s, m => tst t ((evE C a false s m).bind fun x m => (evE C b false s m).bind fun y m => (opt m (binLF m op x y)).bind fun zs m => .ok (.ref m.length) (m ++ [.lst zs]))
  | .orV a b, t, s, m => tst t ((evE C a false s m).bind fun x m => (opt m (truthD m x)).bind fun k m => if k then .ok x m else evE C b false s m)
  | .bad, _, _, _ => .bad
  | .eqO neg a b tb sb, t, s, m => tst t ((evE C a false s m).bind fun x m => (evE C b false s m).bind fun y m => ownEqF C neg tb sb x y m)
  | .lenO a tb, t, s, m => tst t ((evE C a false s m).bind fun x m => ownLenF C tb x m)
  | .strO a tb, t, s, m => tst t ((evE C a false s m).bind fun x m => ownStrF C tb x m)
  | .fs1 a, t, s, m => tst t ((evE C a false s m).bind fun x m => fs1F x m)
  | .iin a _ _ cs, t, s, m => tst t ((evE C a false s m).bind fun x m => opt m ((iinF m cs x).map .bl))
  | .eis a _ cs _, t, s, m => tst t ((evE C a false s m).bind fun x m => opt m ((eisF m cs x).map .bl))
  | .efl a _ tb, t, s, m => tst t ((evE C a false s m).bind fun x m => opt m (eflF tb x))
  | .callV a es, t, s, m => tst t ((evE C a false s m).bind fun x m => (opt m (fnF x)).bind fun f m => (evEs C es s m).bind fun ds m => C f ds m)
def evEs (C : Cl) : Es → Sl → Mu → R (List D)
  | .nil, _, m => .ok [] m
  | .cons e r, s, m => (evE C e false s m).bind fun d m => (evEs C r s m).bind fun ds m => .ok (d :: ds) m
def evAnd (C : Cl) : Es → Bool → Sl → Mu → R D
  | .nil, _, _, m => .bad
  | .cons a .nil, t, s, m => evE C a t s m
  | .cons a (.cons b r), t, s, m => (evE C a t s m).bind fun x m => match x with
      | .bl true => evAnd C (.cons b r) t s m
      | .bl false => .ok (.bl false) m
      | _ => .bad
def evOr (C : Cl) : Es → Bool → Sl → Mu → R D
  | .nil, _, _, m => .bad
  | .cons a .nil, t, s, m => evE C a t s m
  | .cons a (.cons b r), t, s, m => (evE C a t s m).bind fun x m => match x with
      | .bl false => evOr C (.cons b r) t s m
      | .bl true => .ok (.bl true) m
      | _ => .bad
def evI (C : Cl) : It → Sl → Mu → R (List D)
  | .of e, s, m => (evE C e false s m).bind fun x m => opt m (itF x)
  | .rng1 a, s, m => (evE C a false s m).bind fun x m => opt m ((intD x).bind fun n => if small62 n then some (rngD 0 n.toNat) else none)
  | .rng2 a b, s, m => (evE C a false s m).bind fun x m => (evE C b false s m).bind fun y m =>
      opt m ((intD x).bind fun i => (intD y).bind fun j => if small62 i && small62 j then some (rngD i (j - i).toNat) else none)
  | .rng3 a b c, s, m => (evE C a false s m).bind fun x m => (evE C b false s m).bind fun y m => (evE C c false s m).bind fun z m =>
      opt m ((intD x).bind fun i => (intD y).bind fun j => (intD z).bind fun k => if k = -1 ∧ small62 i = true ∧ small62 j = true then some (rngDown i j) else none)
  | .enum e, s, m => (evE C e false s m).bind fun x m => opt m ((sqF x).map (enumD 0))
  | .zip a b, s, m => (evE C a false s m).bind fun x m => (evE C b false s m).bind fun y m => opt m (zipF x y)
  | .zipS a b, s, m => (evE C a false s m).bind fun x m => (evE C b false s m).bind fun y m => opt m (zipSF x y)
  | .zipM a b, s, m => (evE C a false s m).bind fun x m => (evE C b false s m).bind fun y m => opt m (zipMF x y)
  | .zipSM a b, s, m => (evE C a false s m).bind fun x m => (evE C b false s m).bind fun y m => opt m (zipSMF x y)
  | .enumS e, s, m => (evE C e false s m).bind fun x m => opt m ((strD x).map fun z => enumD 0 (strItems z))
end
inductive RS where
  | nx (s : Sl) (m : Mu) | rt (d : D) (m : Mu) | bk (s : Sl) (m : Mu) | ct (s : Sl) (m : Mu) | exc (c : Nat) (fs : List D) (s : Sl) (m : Mu) | bad
def R.toS {α : Type} (s : Sl) : R α → (α → Mu → RS) → RS
  | .ok d m, f => f d m
  | .exc c fs m, _ => .exc c fs s m
  | .bad, _ => .bad
@[simp] theorem toS_k {α : Type} (s : Sl) (d : α) (m : Mu) (f : α → Mu → RS) : (R.ok d m).toS s f = f d m := rfl
@[simp] theorem toS_x {α : Type} (s : Sl) (c : Nat) (fs : List D) (m : Mu) (f : α → Mu → RS) : (R.exc c fs m : R α).toS s f = .exc c fs s m := rfl
@[simp] theorem toS_b {α : Type} (s : Sl) (f : α → Mu → RS) : (R.bad : R α).toS s f = .bad := rfl
def RS.thn : RS → (Sl → Mu → RS) → RS
  | .nx s m, f => f s m
  | .rt d m, _ => .rt d m
  | .bk s m, _ => .bk s m
  | .ct s m, _ => .ct s m
  | .exc c fs s m, _ => .exc c fs s m
  | .bad, _ => .bad
@[simp] theorem thn_n (s : Sl) (m : Mu) (f : Sl → Mu → RS) : (RS.nx s m).thn f = f s m := rfl
@[simp] theorem thn_r (d : D) (m : Mu) (f : Sl → Mu → RS) : (RS.rt d m).thn f = .rt d m := rfl
@[simp] theorem thn_k (s : Sl) (m : Mu) (f : Sl → Mu → RS) : (RS.bk s m).thn f = .bk s m := rfl
@[simp] theorem thn_c (s : Sl) (m : Mu) (f : Sl → Mu → RS) : (RS.ct s m).thn f = .ct s m := rfl
@[simp] theorem thn_x (c : Nat) (fs : List D) (s : Sl) (m : Mu) (f : Sl → Mu → RS) : (RS.exc c fs s m).thn f = .exc c fs s m := rfl
@[simp] theorem thn_b (f : Sl → Mu → RS) : (RS.bad).thn f = .bad := rfl
def goF (f : D → Sl → Mu → RS) : List D → Sl → Mu → RS
  | [], s, m => .nx s m
  | x :: xs, s, m => match f x s m with
    | .nx s m => goF f xs s m
    | .ct s m => goF f xs s m
    | .bk s m => .nx s m
    | r => r
def goW (c : Sl → Mu → R D) (f : Sl → Mu → RS) : Nat → Sl → Mu → RS
  | 0, _, _ => .bad
  | n + 1, s, m => (c s m).toS s fun k m => match k with
    | .bl true => match f s m with
      | .nx s m => goW c f n s m
      | .ct s m => goW c f n s m
      | .bk s m => .nx s m
      | r => r
    | .bl false => .nx s m
    | _ => .bad
def wFuel : Nat := 100000
def itmR (en : Bool) (k : Nat) (x : D) : D := if en then .tup [.int k, x] else x
def goR (en : Bool) (f : D → Sl → Mu → RS) (i : Nat) : Nat → Nat → Sl → Mu → RS
  | 0, _, _, _ => .bad
  | n + 1, k, s, m => match m[i]? with
    | some (.lst xs) => match xs[k]? with
      | none => .nx s m
      | some x => match f (itmR en k x) s m with
        | .nx s m => goR en f i n (k + 1) s m
        | .ct s m => goR en f i n (k + 1) s m
        | .bk s m => .nx s m
        | r => r
    | _ => .bad
def goRD (en : Bool) (f : D → Sl → Mu → RS) (n k : Nat) (s : Sl) (m : Mu) : D → RS
  | .ref i => goR en f i n k s m
  | _ => .bad
def neRef (i : Nat) : D → Bool
  | .ref j => decide (j ≠ i)
  | _ => true
def slsF (m : Mu) (p q : Int) : D → D → Option Mu
  | .ref i, d => match m[i]?, lstD m d with
    | some (.lst xs), some ys => if 0 ≤ p ∧ p ≤ q ∧ q ≤ xs.length ∧ xs.length + ys.length ≤ sizeLine ∧ neRef i d = true then some (m.set i (.lst (xs.take p.toNat ++ ys ++ xs.drop q.toNat))) else none
    | _, _ => none
  | _, _ => none
def delsF (m : Mu) (p q : Int) : D → Option Mu
  | .ref i => match m[i]? with
    | some (.lst xs) => if 0 ≤ p ∧ p ≤ q ∧ q ≤ xs.length then some (m.set i (.lst (xs.take p.toNat ++ xs.drop q.toNat))) else none
    | _ => none
  | _ => none
def itA (m : Mu) : D → D → Option D
  | .ref p, .int k => match m[p]? with
    | some (.lst xs) => if 0 ≤ k ∧ k < 1073741824 then xs[k.toNat]? else none
    | _ => none
  | _, _ => none
def setSub (m : Mu) : D → D → D → Option Mu
  | .ref p, .int i, v => match m[p]? with
    | some (.lst xs) => (ixN xs.length i).map fun j => m.set p (.lst (xs.set j v))
    | _ => none
  | _, _, _ => none
def dropI (i : Option Nat) (s : Sl) : Sl := match i with
  | some i => s.set i none
  | none => s
def endTr (i : Option Nat) : RS → RS
  | .nx s m => .nx (dropI i s) m
  | .bk s m => .bk (dropI i s) m
  | .ct s m => .ct (dropI i s) m
  | .rt d m => .rt d m
  | _ => .bad
def putI (i : Option Nat) (d : D) (s : Sl) : Sl := match i with
  | some i => s.set i (some d)
  | none => s
def trF (fb : Sl → Mu → RS) (fh : Nat → List D → Sl → Mu → RS) : Sl → Mu → RS := fun s m => match fb s m with
  | .exc c fs s1 m1 => fh c fs s1 m1
  | r => r
def trXF (fb : Sl → Mu → RS) (cs hl : List Nat) (i c2 : Nat) (fr : Sl → Mu → R (List D)) : Sl → Mu → RS := fun s m => match fb s m with
  | .exc c fs s1 m1 => if cs.contains c then (if hl.contains c then .bad else match fr (s1.set i none) m1 with
      | .ok ds m2 => .exc c2 ds.reverse (s1.set i none) m2
      | _ => .bad) else .exc c fs s1 m1
  | r => r
def finF (fb ff : Sl → Mu → RS) : Sl → Mu → RS := fun s m => match fb s m with
  | .nx s m => match ff s m with
    | .nx s m => .nx s m
    | _ => .bad
  | _ => .bad
def augF : Operator → D → D → Option D
  | .Add, .int a, .int b => some (.int (a + b))
  | .Sub, .int a, .int b => some (.int (a - b))
  | _, _, _ => none
mutual
def evS (C : Cl) : S → Sl → Mu → RS
  | .ex e, s, m => (evE C e false s m).toS s fun _ m => .nx s m
  | .set i e, s, m => (evE C e false s m).toS s fun d m => .nx (s.set i (some d)) m
  | .unp is e, s, m => (evE C e false s m).toS s fun d m => match unpF is d m s with
      | some s => .nx s m
      | none => .bad
  | .sub a i e, s, m => (evE C e false s m).toS s fun d m => (evE C a false s m).toS s fun x m => (evE C i false s m).toS s fun y m => match setSub m x y d with
      | some m => .nx s m
      | none => .bad
  | .subA a i op e, s, m => (evE C a false s m).toS s fun x m => (evE C i false s m).toS s fun y m => match itA m x y with
      | some v => (evE C e false s m).toS s fun w m => match augF op v w with
        | some z => match setSub m x y z with
          | some m => .nx s m
          | none => .bad
        | none => .bad
      | none => .bad
  | .aug i op e, s, m => match s[i]? with
      | some (some x) => (evE C e false s m).toS s fun y m => match augF op x y with
        | some z => .nx (s.set i (some z)) m
        | none => .bad
      | _ => .bad
  | .ite c a b, s, m => (evE C c true s m).toS s fun k m => match k with
      | .bl true => evSs C a s m
      | .bl false => evSs C b s m
      | _ => .bad
  | .fo tg it b, s, m => (evI C it s m).toS s fun xs m => goF (fun x s m => match setT tg x m s with
      | some s => evSs C b s m
      | none => .bad) xs s m
  | .wh c b, s, m => goW (fun s m => evE C c true s m) (fun s m => evSs C b s m) wFuel s m
  | .ret e, s, m => (evE C e false s m).toS s fun d m => .rt d m
  | .retN, _, m => .rt .non m
  | .pass, s, m => .nx s m
  | .brk, s, m => .bk s m
  | .cont, s, m => .ct s m
  | .par i j a b, s, m => (evE C a false s m).toS s fun x m => (evE C b false s m).toS s fun y m => .nx ((s.set i (some x)).set j (some y)) m
  | .dput a k e, s, m => (evE C e false s m).toS s fun d m => (evE C a false s m).toS s fun x m => (evE C k false s m).toS s fun y m => match dputF m x y d with
      | some m => .nx s m
      | none => .bad
  | .diput a k e, s, m => (evE C e false s m).toS s fun d m => (evE C a false s m).toS s fun x m => (evE C k false s m).toS s fun y m => match diputF m x y d with
      | some m => .nx s m
      | none => .bad
  | .dmput a k e, s, m => (evE C e false s m).toS s fun d m => (evE C a false s m).toS s fun x m => (evE C k false s m).toS s fun y m => match dmputF m x y d with
      | some m => .nx s m
      | none => .bad
  | .foR en tg e b, s, m => (evE C e false s m).toS s fun d m => goRD en (fun x s m => match setT tg x m s with
      | some s => evSs C b s m
      | none => .bad) wFuel 0 s m d
  | .unpS is e, s, m => (evE C e false s m).toS s fun d m => match setS is d s with
      | some s => .nx s m
      | none => .bad
  | .sls a lo hi e, s, m => (evE C e false s m).toS s fun d m => (evE C a false s m).toS s fun x m => ((evE C lo false s m).bind fun l m => opt m (intD l)).toS s fun i m => ((evE C hi false s m).bind fun h m => opt m (intD h)).toS s fun j m => match slsF m i j x d with
      | some m => .nx s m
      | none => .bad
  | .unpL is e, s, m => (evE C e false s m).toS s fun d m => match setL is d s with
      | some s => .nx s m
      | none => .bad
  | .setA a f cs e, s, m => (evE C e false s m).toS s fun d m => (evE C a false s m).toS s fun x m => match setFld m cs f d x with
      | some m => .nx s m
      | none => .bad
  | .augA a f cs op e, s, m => (evE C a false s m).toS s fun x m => match fldF m cs f x with
      | some v => (evE C e false s m).toS s fun y m1 => match augF op v y with
        | some z => match setFld m1 (insC m x) f z x with
          | some m => .nx s m
          | none => .bad
        | none => .bad
      | none => .bad
  | .bad, _, _ => .bad
  | .rz _ c es, s, m => (evEs C es s m).toS s fun ds m => .exc c ds.reverse s m
  | .tr b h, s, m => trF (fun s m => evSs C b s m) (fun c fs s m => evHs C h c fs s m) s m
  | .dels a lo hi, s, m => (evE C a false s m).toS s fun x m => ((evE C lo false s m).bind fun l m => opt m (intD l)).toS s fun i m => ((evE C hi false s m).bind fun h m => opt m (intD h)).toS s fun j m => match delsF m i j x with
      | some m => .nx s m
      | none => .bad
  | .trN b f, s, m => finF (fun s m => evSs C b s m) (fun s m => evSs C f s m) s m
  | .trX b _ cs hl i _ c es, s, m => trXF (fun s m => evSs C b s m) cs hl i c (fun s m => evEs C es s m) s m
def evSs (C : Cl) : Ss → Sl → Mu → RS
  | .nil, s, m => .nx s m
  | .cons a r, s, m => (evS C a s m).thn fun s m => evSs C r s m
def evHs (C : Cl) : Hs → Nat → List D → Sl → Mu → RS
  | .nil, c, fs, s, m => .exc c fs s m
  | .cons _ cs i b r, c, fs, s, m => if cs.contains c then endTr i (evSs C b (putI i (.xo c fs) s) m) else evHs C r c fs s m
end
end
def closO (n : Nat) : O → Bool
  | .lst xs => closDs n xs
  | .ins _ fs => closDs n (fs.map (·.2))
  | .dct kvs => closDs n (kvs.map (·.2))
  | .dci kvs => closDs n (kvs.map (·.2))
  | .dcm kvs => closDs n (kvs.map (·.1)) && closDs n (kvs.map (·.2))
  | .hid => true
def fzE (n : Nat) (m : Mu) : D → Option D
  | .ref i => if i < n then some (.ref i) else match m[i]? with
    | some (.lst xs) => if closDs n xs then some (.lst xs) else none
    | _ => none
  | d => if closD n d then some d else none
def fzD (n : Nat) (m : Mu) : D → Option D
  | .lst xs => if closD n (.lst xs) then some (.lst xs) else (allD (fzE n m) xs).map .lst
  | .tup xs => if closD n (.tup xs) then some (.tup xs) else (allD (fzE n m) xs).map .tup
  | .ref i => if i < n then some (.ref i) else match m[i]? with
    | some (.lst xs) => if closDs n xs then some (.lst xs) else (allD (fzE n m) xs).map .lst
    | _ => none
  | d => if closD n d then some d else none
def dropOk (n : Nat) (m m' : Mu) : Prop := ∀ i o, i < n → m'[i]? = some o → m[i]? = some o ∨ closO n o = true
open Classical in
noncomputable def fin (keep : Bool) (m : Mu) : RS → R D
  | .nx _ m' => fin0 .non m'
  | .rt d m' => fin0 d m'
  | .exc c fs _ m' => if m'.length = m.length then .exc c fs m' else if dropOk m.length m m' ∧ closDs m.length fs = true then .exc c fs (m'.take m.length) else .bad
  | _ => .bad
where
  fin0 (d : D) (m' : Mu) : R D := if keep = true ∨ m'.length = m.length then .ok d m' else
    match fzD m.length m' d with
    | some d' => if dropOk m.length m m' then .ok d' (m'.take m.length) else .bad
    | none => .bad
noncomputable def callF (P : List Fn) : Nat → Cl
  | 0, _, _, _ => .bad
  | n + 1, f, ds, m => match P[f]? with
    | some F => if ds.length = F.ps then fin F.keep m (evSs (callF P n) F.body (ds.map some ++ List.replicate (F.nn - F.ps) none) m) else .bad
    | none => .bad
end Ev
namespace Ev
open PySem L2
structure Gm where
  fa : Nat → Option Addr
  ca : Nat → Option Addr
  ia : Nat → Option Addr
  cf : Nat → List Str
  pr : Params
  lo : Nat → Arguments → Expr → Scope → Str → Prop
  tb : List (Addr × Str)
abbrev Rh.add (ρ : Rh) (p : Addr) : Rh := ⟨ρ.lv ++ [p], ρ.hd⟩
abbrev Rh.hide (ρ : Rh) (p : Addr) : Rh := ⟨ρ.lv, p :: ρ.hd⟩
def SqS (K : PySem.W.Frag) (ρ : Rh) (H : Hp) (a : Addr) (vs : List V) : Prop :=
  (H a = some (.lst vs) ∧ ρ.out a) ∨ (∃ o, H a = some (.frz o (.lst vs))) ∨
    ∃ (o : Obj) (its : Array Value) (n : Nat), K.lookup a = some o ∧ o.cls = .type "list" ∧ o.dict = none ∧ o.data = .seq its n ∧ its.size ≤ sizeLine ∧ Vals vs its.toList
def XO (cls : Value) (d : Option Addr) (a : Addr) : HO := .ext fun h => ∃ (oe : Obj) (vs : Array Value), h.get? a = some oe ∧ Zc cls d oe ∧ oe.data = .fields vs
def KeyIs : List Str → List DictEntry → Prop
  | [], [] => True
  | k :: ks, e :: es => (∃ t, e.key = .str k t) ∧ KeyIs ks es
  | _, _ => False
def TkT (K : PySem.W.Frag) (H : Hp) (a : Addr) (vs : List V) (xs : List D) : Prop := SqT K H a vs ∧ ((rowI (.tup xs)).isSome = true → H a = some (.tup vs))
theorem TkT.of {K : PySem.W.Frag} {H : Hp} {a : Addr} {vs : List V} {xs : List D} (h : H a = some (.tup vs)) : TkT K H a vs xs := ⟨SqT.of h, fun _ => h⟩
def LamO (a c : Addr) (params : Arguments) (body : Expr) (scope : Scope) (q : Str) : HO := .ext fun h => ∃ pm ctv, h.get? a = some (PySem.W.kla_obj "<lambda>" q params body scope [] pm c ctv)
mutual
def hsP (pr : Params) : NestedKey → Int
  | .none => reduceHash 0xFCA86420
  | .num i => hashInt i
  | .text x => if x.cps.isEmpty = true then 0 else reduceHash (pr.strHash x.cps)
  | .tup ks => reduceHash (Builtin.Tuple.tupleHashOf (hsPs pr ks))
def hsPs (pr : Params) : List NestedKey → List Int
  | [] => []
  | k :: ks => hsP pr k :: hsPs pr ks
end
mutual
theorem hsP_eq (w : World) : ∀ k : NestedKey, k.hash w = hsP w.params k
  | .none => rfl
  | .num _ => rfl
  | .text _ => rfl
  | .tup ks => by rw [NestedKey.hash, hsP, hsPs_eq w ks]
theorem hsPs_eq (w : World) : ∀ ks : List NestedKey, NestedKey.hashes w ks = hsPs w.params ks
  | [] => rfl
  | k :: ks => by rw [NestedKey.hashes, hsPs, hsP_eq w k, hsPs_eq w ks]
end
def entP (pr : Params) (x : NestedKey × Addr × Value) : DictEntry := ⟨hsP pr x.1, .ref x.2.1, x.2.2⟩
def DnO (pr : Params) (a : Addr) (xs : List (NestedKey × Addr × Value)) : HO := .ext fun h => ∃ (o : Obj) (es : Array DictEntry) (ep : Nat), h.get? a = some o ∧ o.ExactDict ∧ o.data = .dict es ep ∧ es.toList = xs.map (entP pr)
def IsDn (φ : Heap → Prop) : Prop := ∃ pr a xs, HO.ext φ = DnO pr a xs
def dnHeap (a : Addr) (es : Array DictEntry) : Heap := { objs := Array.replicate (a + 1) { cls := .type "dict", data := .dict es 0 } }
theorem dnHeap_get {a b : Addr} {es : Array DictEntry} {o : Obj} (h : (dnHeap a es).get? b = some o) : o = { cls := .type "dict", data := .dict es 0 } := by
  unfold Heap.get? dnHeap at h
  simp only [Array.getElem?_replicate] at h
  by_cases hb : b < a + 1
  · simp only [if_pos hb] at h
    exact (Option.some.inj h).symm
  · simp only [if_neg hb] at h
    cases h
theorem dnHeap_at (a : Addr) (es : Array DictEntry) : (dnHeap a es).get? a = some { cls := .type "dict", data := .dict es 0 } := by
  unfold Heap.get? dnHeap
  simp
theorem isDn_heap {φ : Heap → Prop} (h : IsDn φ) : ∃ a es, φ (dnHeap a es) := by
  obtain ⟨pr, a, xs, e⟩ := h
  refine ⟨a, (xs.map (entP pr)).toArray, ?_⟩
  injection e with e
  rw [e]
  exact ⟨_, _, 0, dnHeap_at _ _, ⟨rfl, rfl, rfl⟩, rfl, rfl⟩
theorem codeO_dn {c : Addr} {q : Str} {φ : Heap → Prop} (e : LamX.CodeO c q = .ext φ) : ¬ IsDn φ := fun h => by
  obtain ⟨a, es, z⟩ := isDn_heap h
  injection e with e
  rw [← e] at z
  obtain ⟨oc, vs, t, h1, h2, _⟩ := z
  rw [dnHeap_get h1] at h2
  cases h2
mutual
inductive RV (K : PySem.W.Frag) (g : Gm) (ρ : Rh) (H : Hp) : D → V → Prop
  | non : RV K g ρ H .non .non
  | bl (b : Bool) : RV K g ρ H (.bl b) (.bl b)
  | int (i : Int) : RV K g ρ H (.int i) (.int i)
  | str (x : Str) : RV K g ρ H (.str x) (.str x)
  | tup {a : Addr} {vs : List V} {xs : List D} : TkT K H a vs xs → RVs K g ρ H xs vs → RV K g ρ H (.tup xs) (.ref a)
  | lst {a : Addr} {vs : List V} {xs : List D} : H a = some (.lst vs) → ρ.out a → RVs K g ρ H xs vs → RV K g ρ H (.lst xs) (.ref a)
  | scr {a : Addr} {ns : List Int} : SqS K ρ H a (ns.map V.int) → RV K g ρ H (.scr ns) (.ref a)
  | dct {a : Addr} : H a = some (.dK []) → ρ.out a → RV K g ρ H .dct (.ref a)
  | ref {i : Nat} {a : Addr} : ρ.lv[i]? = some a → RV K g ρ H (.ref i) (.ref a)
  | fn {i : Nat} {a : Addr} : g.fa i = some a → RV K g ρ H (.fn i) (.ref a)
  | cls {i : Nat} {a : Addr} : g.ca i = some a → RV K g ρ H (.cls i) (.ref a)
  | ty (n : String) : RV K g ρ H (.ty n) (.ty n)
  | xo0 {a C : Addr} {c : Nat} : H a = some (XO (.ref C) none a) → ρ.out a → g.ca c = some C → RV K g ρ H (.xo c []) (.ref a)
  | xo1 {a b C : Addr} {c : Nat} {fs : List D} {vs : List V} : H a = some (XO (.ref C) (some b) a) → ρ.out a → g.ca c = some C → H b = some (.xd ((g.cf c).zip vs)) → ρ.out b → vs.length = (g.cf c).length → fs ≠ [] → RVs K g ρ H fs vs → RV K g ρ H (.xo c fs) (.ref a)
  | dks {a : Addr} {es : Array DictEntry} {n : Nat} {ks : List Str} {ds : List D} {vs : List V} : K.lookup a = some ⟨.type "dict", none, .dict es n, #[]⟩ → PySem.W.KeysLit g.pr es.toList → (a == sysModules) = false → KeyIs ks es.toList →
      Vals vs (es.toList.map (·.val)) → RVs K g ρ H ds vs → RV K g ρ H (.dks ks ds) (.ref a)
  | tts {a : Addr} {ts : List Str} {o : Obj} : H a = some (.frz o (.tup (ts.map V.str))) → o.cls = .type "tuple" → o.dict = none → ts ≠ [] → RV K g ρ H (.tts ts) (.ref a)
  | lam {i : Nat} {a c : Addr} {params : Arguments} {body : Expr} {scope : Scope} {q : Str} : H a = some (LamO a c params body scope q) → ρ.out a → H c = some (LamX.CodeO c q) → ρ.out c → g.lo i params body scope q → RV K g ρ H (.lam i) (.ref a)
  | dcn {a : Addr} {xs : List (NestedKey × Addr × Value)} {ks ds : List D} {vs : List V} : H a = some (DnO g.pr a xs) → ρ.out a → (a == sysModules) = false → xs.length ≤ sizeLine → (xs.map (·.1)).Nodup → ks.map keyN = xs.map (fun x => some x.1) →
      RVs K g ρ H ks (xs.map fun x => V.ref x.2.1) → RVs K g ρ H ds vs → Vals vs (xs.map (·.2.2)) → RV K g ρ H (.dcn ks ds) (.ref a)
inductive RVs (K : PySem.W.Frag) (g : Gm) (ρ : Rh) (H : Hp) : List D → List V → Prop
  | nil : RVs K g ρ H [] []
  | cons {d : D} {v : V} {ds : List D} {vs : List V} : RV K g ρ H d v → RVs K g ρ H ds vs → RVs K g ρ H (d :: ds) (v :: vs)
end
def noTbl : Option HO → Prop
  | some (.tbl _) => False
  | _ => True
def noCode : Option HO → Prop
  | some (.tbl _) => False
  | some (.ext φ) => IsDn φ
  | _ => True
structure Grow (ρ : Rh) (H : Hp) (ρ' : Rh) (H' : Hp) : Prop where
  ext : ∃ e, ρ'.lv = ρ.lv ++ e
  hid : ρ'.hd = ρ.hd
  tup : ∀ a xs, H a = some (.tup xs) → H' a = some (.tup xs)
  frz : ∀ a o u, H a = some (.frz o u) → H' a = some (.frz o u)
  oth : ∀ a o, H a = some o → noTbl (some o) → a ∉ ρ.lv → H' a = some o ∧ a ∉ ρ'.lv
def RO (K : PySem.W.Frag) (g : Gm) (ρ : Rh) (H : Hp) : O → Addr → Prop
  | .lst xs, a => ∃ vs, H a = some (.lst vs) ∧ RVs K g ρ H xs vs
  | .ins c fs, a => ∃ C dx fvs, g.ia c = some C ∧ H a = some (.ins C dx fvs) ∧ fs.map (·.1) = fvs.map (·.1) ∧ RVs K g ρ H (fs.map (·.2)) (fvs.map (·.2))
  | .dct kvs, a => ∃ ws, H a = some (.dT ws) ∧ ws.map (·.1) = kvs.map (fun p => p.1.map Sum.inl) ∧ RVs K g ρ H (kvs.map (·.2)) (ws.map (·.2))
  | .dci kvs, a => ∃ ws, H a = some (.dK ws) ∧ ws.map (·.1) = kvs.map (fun p => Sum.inl p.1) ∧ RVs K g ρ H (kvs.map (·.2)) (ws.map (·.2))
  | .dcm kvs, a => ∃ xs vs, H a = some (DnO g.pr a xs) ∧ RVs K g ρ H (kvs.map (·.1)) (xs.map fun x => V.ref x.2.1) ∧ RVs K g ρ H (kvs.map (·.2)) vs ∧ (a == sysModules) = false ∧ xs.length ≤ sizeLine ∧ (xs.map (·.1)).Nodup ∧ kvs.map (fun p => keyN p.1) = xs.map (fun x => some x.1) ∧ Vals vs (xs.map (·.2.2))
  | .hid, a => ∃ o u, H a = some (.frz o u)
structure Rel (K : PySem.W.Frag) (g : Gm) (ρ : Rh) (m : Mu) (H : Hp) : Prop where
  nd : ρ.lv.Nodup
  len : m.length = ρ.lv.length
  hh : ∀ a ∈ ρ.hd, ∃ o, H a = some o ∧ noCode (some o)
  at_ : ∀ (i : Nat) (o : O) (a : Addr), m[i]? = some o → ρ.lv[i]? = some a → RO K g ρ H o a
  tb : LamX.Tabs g.tb H
structure REnv (K : PySem.W.Frag) (g : Gm) (ρ : Rh) (H : Hp) (s : Sl) (σ : St) : Prop where
  len : s.length = σ.length
  at_ : ∀ (i : Nat) d, s[i]? = some (some d) → ∃ v, σ[i]? = some (some v) ∧ RV K g ρ H d v
section
variable {K : PySem.W.Frag} {g : Gm} {ρ ρ' ρ'' : Rh} {H H' H'' : Hp}
theorem Grow.refl : Grow ρ H ρ H := ⟨⟨[], by simp⟩, rfl, fun _ _ h => h, fun _ _ _ h => h, fun _ _ h _ n => ⟨h, n⟩⟩
theorem noTbl.ne {o : HO} (h : noTbl (some o)) : ∀ ps, o ≠ .tbl ps := fun ps z => by rw [z] at h; exact h
theorem noTbl.of {o : HO} (h : ∀ ps, o ≠ .tbl ps) : noTbl (some o) := by
  cases o <;> first | exact True.intro | exact (h _ rfl).elim
theorem tabs_new {T : List (Addr × Str)} {p : Addr} {o : HO} (t : LamX.Tabs T H) (h : H p = none) : LamX.Tabs T (upd H p o) := t.ext fun b u e => by rw [upd_ne (ne_of_none e h)]; exact e
theorem noCode.tbl {o : HO} (h : noCode (some o)) : noTbl (some o) := by
  cases o <;> first | exact True.intro | exact h
theorem tabs_put {T : List (Addr × Str)} {p : Addr} {o : HO} (t : LamX.Tabs T H) (h : noCode (H p)) : LamX.Tabs T (upd H p o) := fun b hb => by
  obtain ⟨ps, h1, h2, h3⟩ := t b hb
  refine ⟨ps, ?_, h2, fun pos cv hc => ?_⟩
  · rw [upd_ne (fun z => by rw [← z, h1] at h; exact h)]; exact h1
  · obtain ⟨c, e1, e2⟩ := h3 pos cv hc
    refine ⟨c, e1, ?_⟩
    rw [upd_ne (fun z => by rw [← z, e2] at h; exact codeO_dn rfl h)]; exact e2
theorem noCode.of {u : HO} {a : Addr} (h : H a = some u) (hu : noCode (some u)) : noCode (H a) := by rw [h]; exact hu
theorem Grow.trans (a : Grow ρ H ρ' H') (b : Grow ρ' H' ρ'' H'') : Grow ρ H ρ'' H'' := by
  obtain ⟨e1, h1⟩ := a.ext
  obtain ⟨e2, h2⟩ := b.ext
  refine ⟨⟨e1 ++ e2, by rw [h2, h1, List.append_assoc]⟩, b.hid.trans a.hid, fun c xs h => b.tup c xs (a.tup c xs h), fun c o u h => b.frz c o u (a.frz c o u h), fun c o h t n => ?_⟩
  obtain ⟨q1, q2⟩ := a.oth c o h t n
  exact b.oth c o q1 t q2
theorem Grow.at_ (a : Grow ρ H ρ' H') {x : Addr} {o : HO} (h : H x = some o) (n : x ∉ ρ.lv) (nt : noTbl (some o)) : H' x = some o ∧ x ∉ ρ'.lv := a.oth x o h nt n
theorem Grow.get (a : Grow ρ H ρ' H') {i : Nat} {x : Addr} (h : ρ.lv[i]? = some x) : ρ'.lv[i]? = some x := by
  obtain ⟨e, q⟩ := a.ext
  have hl : i < ρ.lv.length := (List.getElem?_eq_some_iff.mp h).1
  rw [q, List.getElem?_append_left hl]
  exact h
theorem Grow.out (a : Grow ρ H ρ' H') {x : Addr} {o : HO} (h : H x = some o) (n : ρ.out x) (nt : noTbl (some o) := by exact True.intro) : H' x = some o ∧ ρ'.out x :=
  ⟨(a.at_ h n.1 nt).1, (a.at_ h n.1 nt).2, by rw [a.hid]; exact n.2⟩
theorem Grow.new {p : Addr} {o : HO} (h : H p = none) : Grow ρ H ρ (upd H p o) :=
  ⟨⟨[], by simp⟩, rfl, fun a xs q => by rw [upd_ne (ne_of_none q h)]; exact q, fun a o u q => by rw [upd_ne (ne_of_none q h)]; exact q,
    fun a u q _ n => ⟨by rw [upd_ne (ne_of_none q h)]; exact q, n⟩⟩
theorem Grow.newL {p : Addr} {o : HO} (h : H p = none) : Grow ρ H (ρ.add p) (upd H p o) :=
  ⟨⟨[p], rfl⟩, rfl, fun a xs q => by rw [upd_ne (ne_of_none q h)]; exact q, fun a o u q => by rw [upd_ne (ne_of_none q h)]; exact q,
    fun a u q _ n => ⟨by rw [upd_ne (ne_of_none q h)]; exact q, fun z => by
      rcases List.mem_append.mp z with z | z
      · exact n z
      · have e : a = p := by simpa using z
        exact ne_of_none q h e⟩⟩
theorem Grow.put {a : Addr} {vs : List V} {o : HO} (h : H a = some (.lst vs)) (ha : a ∈ ρ.lv) : Grow ρ H ρ (upd H a o) :=
  ⟨⟨[], by simp⟩, rfl, fun b xs q => by
      rw [upd_ne (fun z => by rw [z, h] at q; cases q)]; exact q, fun b o u q => by
      rw [upd_ne (fun z => by rw [z, h] at q; cases q)]; exact q,
    fun b u q _ n => ⟨by rw [upd_ne (fun z : b = a => n (by rw [z]; exact ha))]; exact q, n⟩⟩
theorem SqT.grow (G : Grow ρ H ρ' H') {a : Addr} {vs : List V} (h : SqT K H a vs) : SqT K H' a vs := by
  rcases h with (h | ⟨o, h⟩) | h
  · exact .inl (.inl (G.tup _ _ h))
  · exact .inl (.inr ⟨o, G.frz _ _ _ h⟩)
  · exact .inr h
theorem SqS.grow (G : Grow ρ H ρ' H') {a : Addr} {vs : List V} (h : SqS K ρ H a vs) : SqS K ρ' H' a vs := by
  rcases h with ⟨h, n⟩ | ⟨o, h⟩ | h
  · exact .inl (G.out h n)
  · exact .inr (.inl ⟨o, G.frz _ _ _ h⟩)
  · exact .inr (.inr h)
theorem SqS.sq {a : Addr} {vs : List V} (h : SqS K ρ H a vs) : SqL K H a vs := by
  rcases h with ⟨h, _⟩ | ⟨o, h⟩ | h
  · exact .inl (.inl h)
  · exact .inl (.inr ⟨o, h⟩)
  · exact .inr h
theorem SqS.of {a : Addr} {vs : List V} (h : SqL K H a vs) : SqS K ⟨[], []⟩ H a vs := by
  rcases h with (h | ⟨o, h⟩) | h
  · exact .inl ⟨h, by simp, by simp⟩
  · exact .inr (.inl ⟨o, h⟩)
  · exact .inr (.inr h)
theorem TkT.grow (G : Grow ρ H ρ' H') {a : Addr} {vs : List V} {xs : List D} (h : TkT K H a vs xs) : TkT K H' a vs xs := ⟨SqT.grow G h.1, fun z => G.tup _ _ (h.2 z)⟩
mutual
theorem RV.grow (G : Grow ρ H ρ' H') : ∀ {d : D} {v : V}, RV K g ρ H d v → RV K g ρ' H' d v
  | _, _, .non => .non
  | _, _, .bl b => .bl b
  | _, _, .int i => .int i
  | _, _, .str x => .str x
  | _, _, .tup h r => .tup (TkT.grow G h) (RVs.grow G r)
  | _, _, .lst h n r => .lst (G.out h n).1 (G.out h n).2 (RVs.grow G r)
  | _, _, .scr h => .scr (SqS.grow G h)
  | _, _, .dct h n => .dct (G.out h n).1 (G.out h n).2
  | _, _, .xo0 h n e => .xo0 (G.out h n).1 (G.out h n).2 e
  | _, _, .xo1 h n e h2 n2 l f r => .xo1 (G.out h n).1 (G.out h n).2 e (G.out h2 n2).1 (G.out h2 n2).2 l f (RVs.grow G r)
  | _, _, .dks h1 h2 h3 h4 h5 r => .dks h1 h2 h3 h4 h5 (RVs.grow G r)
  | _, _, .dcn h1 n1 h3 h4 h5 h6 r1 r2 h7 => .dcn (G.out h1 n1).1 (G.out h1 n1).2 h3 h4 h5 h6 (RVs.grow G r1) (RVs.grow G r2) h7
  | _, _, .tts h1 h2 h3 h4 => .tts (G.frz _ _ _ h1) h2 h3 h4
  | _, _, .lam h1 n1 h2 n2 e => .lam (G.out h1 n1).1 (G.out h1 n1).2 (G.out h2 n2).1 (G.out h2 n2).2 e
  | _, _, .ref h => .ref (G.get h)
  | _, _, .fn h => .fn h
  | _, _, .cls h => .cls h
  | _, _, .ty n => .ty n
theorem RVs.grow (G : Grow ρ H ρ' H') : ∀ {ds : List D} {vs : List V}, RVs K g ρ H ds vs → RVs K g ρ' H' ds vs
  | _, _, .nil => .nil
  | _, _, .cons h r => .cons (RV.grow G h) (RVs.grow G r)
end
theorem RO.grow (G : Grow ρ H ρ' H') {o : O} {a : Addr} (hk : H' a = H a) (h : RO K g ρ H o a) : RO K g ρ' H' o a := by
  cases o with
  | lst xs =>
    obtain ⟨vs, q, r⟩ := h
    exact ⟨vs, hk.trans q, r.grow G⟩
  | ins c fs =>
    obtain ⟨C, dx, fvs, q0, q, q2, r⟩ := h
    exact ⟨C, dx, fvs, q0, hk.trans q, q2, r.grow G⟩
  | dct kvs =>
    obtain ⟨ws, q, q2, r⟩ := h
    exact ⟨ws, hk.trans q, q2, r.grow G⟩
  | dci kvs =>
    obtain ⟨ws, q, q2, r⟩ := h
    exact ⟨ws, hk.trans q, q2, r.grow G⟩
  | dcm kvs =>
    obtain ⟨xs, vs, q, r1, r2, q2⟩ := h
    exact ⟨xs, vs, hk.trans q, r1.grow G, r2.grow G, q2⟩
  | hid =>
    obtain ⟨o, u, q⟩ := h
    exact ⟨o, u, hk.trans q⟩
theorem RO.some {o : O} {a : Addr} (h : RO K g ρ H o a) : ∃ u, H a = some u := by
  cases o with
  | lst xs => obtain ⟨vs, q, r⟩ := h; exact ⟨_, q⟩
  | ins c fs => obtain ⟨C, dx, fvs, q0, q, q2, r⟩ := h; exact ⟨_, q⟩
  | dct kvs => obtain ⟨ws, q, q2, r⟩ := h; exact ⟨_, q⟩
  | dci kvs => obtain ⟨ws, q, q2, r⟩ := h; exact ⟨_, q⟩
  | dcm kvs => obtain ⟨xs, vs, q, _⟩ := h; exact ⟨_, q⟩
  | hid => obtain ⟨o, u, q⟩ := h; exact ⟨_, q⟩
theorem REnv.grow (G : Grow ρ H ρ' H') {s : Sl} {σ : St} (h : REnv K g ρ H s σ) : REnv K g ρ' H' s σ :=
  ⟨h.len, fun i d q => by obtain ⟨v, e, r⟩ := h.at_ i d q; exact ⟨v, e, r.grow G⟩⟩
theorem Rel.get {m : Mu} (r : Rel K g ρ m H) {i : Nat} {o : O} (h : m[i]? = some o) : ∃ a, ρ.lv[i]? = some a ∧ RO K g ρ H o a := by
  have hl : i < ρ.lv.length := by rw [← r.len]; exact (List.getElem?_eq_some_iff.mp h).1
  exact ⟨ρ.lv[i], List.getElem?_eq_getElem hl, r.at_ i o _ h (List.getElem?_eq_getElem hl)⟩
theorem Rel.of_at {m : Mu} (r : Rel K g ρ m H) {i : Nat} {a : Addr} (h : ρ.lv[i]? = some a) : ∃ o, m[i]? = some o ∧ RO K g ρ H o a := by
  have hl : i < m.length := by rw [r.len]; exact (List.getElem?_eq_some_iff.mp h).1
  exact ⟨m[i], List.getElem?_eq_getElem hl, r.at_ i _ _ (List.getElem?_eq_getElem hl) h⟩
theorem Rel.live {m : Mu} (r : Rel K g ρ m H) {a : Addr} (h : a ∈ ρ.lv) : ∃ u, H a = some u := by
  obtain ⟨i, hi, e⟩ := List.getElem_of_mem h
  obtain ⟨o, _, q⟩ := r.of_at (i := i) (a := a) (by rw [List.getElem?_eq_getElem hi, e])
  exact q.some
theorem Rel.notin {m : Mu} (r : Rel K g ρ m H) {p : Addr} (h : H p = none) : p ∉ ρ.lv := fun z => by
  obtain ⟨u, e⟩ := r.live z
  rw [h] at e; cases e
theorem Rel.out {m : Mu} (r : Rel K g ρ m H) {p : Addr} (h : H p = none) : ρ.out p := ⟨r.notin h, fun z => by
  obtain ⟨u, e, _⟩ := r.hh p z
  rw [h] at e; cases e⟩
theorem hh_upd {ρ : Rh} {H : Hp} {p : Addr} {o : HO} (h : ∀ a ∈ ρ.hd, ∃ o, H a = some o ∧ noCode (some o)) (nt : noCode (some o) := by exact True.intro) : ∀ a ∈ ρ.hd, ∃ u, upd H p o a = some u ∧ noCode (some u) := fun a ha => by
  obtain ⟨u, e, t⟩ := h a ha
  by_cases z : a = p
  · rw [z]; exact ⟨o, upd_same, nt⟩
  · rw [upd_ne z]; exact ⟨u, e, t⟩
theorem hh_new {ρ : Rh} {H : Hp} {p : Addr} {o : HO} (h : ∀ a ∈ ρ.hd, ∃ o, H a = some o ∧ noCode (some o)) (hp : H p = none) : ∀ a ∈ ρ.hd, ∃ u, upd H p o a = some u ∧ noCode (some u) := fun a ha => by
  obtain ⟨u, e, t⟩ := h a ha
  exact ⟨u, by rw [upd_ne (ne_of_none e hp)]; exact e, t⟩
theorem Rel.new {m : Mu} (r : Rel K g ρ m H) {p : Addr} {o : HO} (h : H p = none) : Rel K g ρ m (upd H p o) :=
  ⟨r.nd, r.len, hh_new r.hh h, fun i ob a h1 h2 => by
    have q := r.at_ i ob a h1 h2
    obtain ⟨u, e⟩ := q.some
    exact q.grow (Grow.new h) (upd_ne (ne_of_none e h)), tabs_new r.tb h⟩
theorem Rel.newL {m : Mu} (r : Rel K g ρ m H) {p : Addr} {xs : List D} {vs : List V} (h : H p = none) (q : RVs K g ρ H xs vs) : Rel K g (ρ.add p) (m ++ [.lst xs]) (upd H p (.lst vs)) := by
  refine ⟨List.nodup_append.mpr ⟨r.nd, by simp, fun a ha b hb => ?_⟩, by simp [r.len], hh_new r.hh h, fun i ob a h1 h2 => ?_, tabs_new r.tb h⟩
  · have e : b = p := by simpa using hb
    rw [e]
    exact fun z => r.notin h (z ▸ ha)
  · by_cases hi : i < m.length
    · rw [List.getElem?_append_left hi] at h1
      rw [List.getElem?_append_left (by rw [← r.len]; exact hi)] at h2
      have q := r.at_ i ob a h1 h2
      obtain ⟨u, e⟩ := q.some
      exact q.grow (Grow.newL h) (upd_ne (ne_of_none e h))
    · rw [List.getElem?_append_right (by omega)] at h1
      rw [List.getElem?_append_right (by rw [← r.len]; omega)] at h2
      have hz : i - m.length = 0 := by
        have := (List.getElem?_eq_some_iff.mp h1).1
        simp at this
        omega
      rw [hz] at h1
      rw [← r.len, hz] at h2
      simp at h1 h2
      subst h1 h2
      exact ⟨vs, upd_same, q.grow (Grow.newL h)⟩
theorem nodup_at {ρ : List Addr} (nd : ρ.Nodup) {i j : Nat} {a : Addr} (h1 : ρ[i]? = some a) (h2 : ρ[j]? = some a) : i = j := by
  obtain ⟨l1, e1⟩ := List.getElem?_eq_some_iff.mp h1
  obtain ⟨l2, e2⟩ := List.getElem?_eq_some_iff.mp h2
  exact (List.getElem_inj nd).mp (e1.trans e2.symm)
theorem Rel.put {m : Mu} (r : Rel K g ρ m H) {i : Nat} {a : Addr} {xs ys : List D} {ws : List V} (h : m[i]? = some (.lst xs)) (ha : ρ.lv[i]? = some a) (q : RVs K g ρ H ys ws) :
    Rel K g ρ (m.set i (.lst ys)) (upd H a (.lst ws)) ∧ Grow ρ H ρ (upd H a (.lst ws)) := by
  obtain ⟨vs, ho, _⟩ := r.at_ i _ a h ha
  have hT := noCode.of ho True.intro
  have G : Grow ρ H ρ (upd H a (.lst ws)) := Grow.put ho (List.mem_of_getElem? ha)
  refine ⟨⟨r.nd, by simp [r.len], hh_upd r.hh, fun j ob b h1 h2 => ?_, tabs_put r.tb hT⟩, G⟩
  by_cases hj : j = i
  · subst hj
    rw [ha] at h2; cases h2
    have hl : j < m.length := (List.getElem?_eq_some_iff.mp h).1
    rw [List.getElem?_set_self hl] at h1
    cases h1
    exact ⟨ws, upd_same, q.grow G⟩
  · rw [List.getElem?_set_ne (Ne.symm hj)] at h1
    have z := r.at_ j ob b h1 h2
    exact z.grow G (upd_ne fun e => hj (nodup_at r.nd (e ▸ h2) ha))
theorem Grow.putA {a : Addr} {o u : HO} (h : H a = some u) (hu : ∀ xs, u ≠ .tup xs) (hu2 : ∀ o v, u ≠ .frz o v) (ha : a ∈ ρ.lv) : Grow ρ H ρ (upd H a o) :=
  ⟨⟨[], by simp⟩, rfl, fun b xs q => by
      rw [upd_ne (fun z => by rw [z, h] at q; exact hu xs (Option.some.inj q))]; exact q, fun b o u q => by
      rw [upd_ne (fun z => by rw [z, h] at q; exact hu2 _ _ (Option.some.inj q))]; exact q,
    fun b u q _ n => ⟨by rw [upd_ne (fun z : b = a => n (by rw [z]; exact ha))]; exact q, n⟩⟩
theorem Rel.putI {m : Mu} (r : Rel K g ρ m H) {i c : Nat} {a C dx : Addr} {fs fs' : List (Str × D)} {fvs fvs' : List (Str × V)} (h : m[i]? = some (.ins c fs)) (ha : ρ.lv[i]? = some a) (hc : g.ia c = some C) (ho : H a = some (.ins C dx fvs)) (hk : fs'.map (·.1) = fvs'.map (·.1)) (q : RVs K g ρ H (fs'.map (·.2)) (fvs'.map (·.2))) :
    Rel K g ρ (m.set i (.ins c fs')) (upd H a (.ins C dx fvs')) ∧ Grow ρ H ρ (upd H a (.ins C dx fvs')) := by
  have hT := noCode.of ho True.intro
  have G : Grow ρ H ρ (upd H a (.ins C dx fvs')) := Grow.putA ho (fun _ z => nomatch z) (fun _ _ z => nomatch z) (List.mem_of_getElem? ha)
  refine ⟨⟨r.nd, by simp [r.len], hh_upd r.hh, fun j ob b h1 h2 => ?_, tabs_put r.tb hT⟩, G⟩
  by_cases hj : j = i
  · subst hj
    rw [ha] at h2; cases h2
    have hl : j < m.length := (List.getElem?_eq_some_iff.mp h).1
    rw [List.getElem?_set_self hl] at h1
    cases h1
    exact ⟨C, dx, fvs', hc, upd_same, hk, q.grow G⟩
  · rw [List.getElem?_set_ne (Ne.symm hj)] at h1
    have z := r.at_ j ob b h1 h2
    exact z.grow G (upd_ne fun e => hj (nodup_at r.nd (e ▸ h2) ha))
theorem Rel.putZ {m : Mu} (r : Rel K g ρ m H) {i : Nat} {a : Addr} {kvs kvs' : List (Int × D)} {ws : List (Key × V)} (h : m[i]? = some (.dci kvs)) (ha : ρ.lv[i]? = some a) (hk : ws.map (·.1) = kvs'.map (fun p => Sum.inl p.1)) (q : RVs K g ρ H (kvs'.map (·.2)) (ws.map (·.2))) :
    Rel K g ρ (m.set i (.dci kvs')) (upd H a (.dK ws)) ∧ Grow ρ H ρ (upd H a (.dK ws)) := by
  obtain ⟨vs, ho, _⟩ := r.at_ i _ a h ha
  have hT := noCode.of ho True.intro
  have G : Grow ρ H ρ (upd H a (.dK ws)) := Grow.putA ho (fun _ z => nomatch z) (fun _ _ z => nomatch z) (List.mem_of_getElem? ha)
  refine ⟨⟨r.nd, by simp [r.len], hh_upd r.hh, fun j ob b h1 h2 => ?_, tabs_put r.tb hT⟩, G⟩
  by_cases hj : j = i
  · subst hj
    rw [ha] at h2; cases h2
    have hl : j < m.length := (List.getElem?_eq_some_iff.mp h).1
    rw [List.getElem?_set_self hl] at h1
    cases h1
    exact ⟨ws, upd_same, hk, q.grow G⟩
  · rw [List.getElem?_set_ne (Ne.symm hj)] at h1
    have z := r.at_ j ob b h1 h2
    exact z.grow G (upd_ne fun e => hj (nodup_at r.nd (e ▸ h2) ha))
theorem Rel.newN {m : Mu} (r : Rel K g ρ m H) {p : Addr} (h : H p = none) (hs : (p == sysModules) = false) : Rel K g (ρ.add p) (m ++ [.dcm []]) (upd H p (DnO g.pr p [])) := by
  refine ⟨List.nodup_append.mpr ⟨r.nd, by simp, fun a ha b hb => ?_⟩, by simp [r.len], hh_new r.hh h, fun i ob a h1 h2 => ?_, tabs_new r.tb h⟩
  · have e : b = p := by simpa using hb
    rw [e]
    exact fun z => r.notin h (z ▸ ha)
  · by_cases hi : i < m.length
    · rw [List.getElem?_append_left hi] at h1
      rw [List.getElem?_append_left (by rw [← r.len]; exact hi)] at h2
      have q := r.at_ i ob a h1 h2
      obtain ⟨u, e⟩ := q.some
      exact q.grow (Grow.newL h) (upd_ne (ne_of_none e h))
    · rw [List.getElem?_append_right (by omega)] at h1
      rw [List.getElem?_append_right (by rw [← r.len]; omega)] at h2
      have hz : i - m.length = 0 := by
        have := (List.getElem?_eq_some_iff.mp h1).1
        simp at this
        omega
      rw [hz] at h1
      rw [← r.len, hz] at h2
      simp at h1 h2
      subst h1 h2
      exact ⟨[], [], upd_same, .nil, .nil, hs, by simp, by simp, rfl, .nil⟩
theorem Rel.putN {m : Mu} (r : Rel K g ρ m H) {i : Nat} {a : Addr} {kvs kvs' : List (D × D)} {xs : List (NestedKey × Addr × Value)} {vs : List V} (h : m[i]? = some (.dcm kvs)) (ha : ρ.lv[i]? = some a) (q1 : RVs K g ρ H (kvs'.map (·.1)) (xs.map fun x => V.ref x.2.1)) (q : RVs K g ρ H (kvs'.map (·.2)) vs) (hs : (a == sysModules) = false) (hz : xs.length ≤ sizeLine) (nd : (xs.map (·.1)).Nodup) (hk : kvs'.map (fun p => keyN p.1) = xs.map (fun x => some x.1)) (hv : Vals vs (xs.map (·.2.2))) :
    Rel K g ρ (m.set i (.dcm kvs')) (upd H a (DnO g.pr a xs)) ∧ Grow ρ H ρ (upd H a (DnO g.pr a xs)) := by
  obtain ⟨xs0, vs0, ho, _⟩ := r.at_ i _ a h ha
  have hT := noCode.of ho ⟨_, _, _, rfl⟩
  have G : Grow ρ H ρ (upd H a (DnO g.pr a xs)) := Grow.putA ho (fun _ z => nomatch z) (fun _ _ z => nomatch z) (List.mem_of_getElem? ha)
  refine ⟨⟨r.nd, by simp [r.len], hh_upd r.hh ⟨_, _, _, rfl⟩, fun j ob b h1 h2 => ?_, tabs_put r.tb hT⟩, G⟩
  by_cases hj : j = i
  · subst hj
    rw [ha] at h2; cases h2
    have hl : j < m.length := (List.getElem?_eq_some_iff.mp h).1
    rw [List.getElem?_set_self hl] at h1
    cases h1
    exact ⟨xs, vs, upd_same, q1.grow G, q.grow G, hs, hz, nd, hk, hv⟩
  · rw [List.getElem?_set_ne (Ne.symm hj)] at h1
    have z := r.at_ j ob b h1 h2
    exact z.grow G (upd_ne fun e => hj (nodup_at r.nd (e ▸ h2) ha))
mutual
theorem RV.hide {p : Addr} {o : HO} (h : H p = none) : ∀ {d : D} {v : V}, RV K g ρ H d v → RV K g (ρ.hide p) (upd H p o) d v
  | _, _, .non => .non
  | _, _, .bl b => .bl b
  | _, _, .int i => .int i
  | _, _, .str x => .str x
  | _, _, .tup hs r => .tup (TkT.grow (Grow.new (ρ := ρ) h) hs) (RVs.hide h r)
  | _, _, .lst hs n r => .lst (by rw [upd_ne (ne_of_none hs h)]; exact hs) ⟨n.1, by
      intro z
      rcases List.mem_cons.mp z with z | z
      · exact ne_of_none hs h z
      · exact n.2 z⟩ (RVs.hide h r)
  | _, _, .scr hs => .scr (by
      rcases hs with ⟨hs, n⟩ | ⟨o, hs⟩ | hs
      · refine .inl ⟨by rw [upd_ne (ne_of_none hs h)]; exact hs, n.1, ?_⟩
        intro z
        rcases List.mem_cons.mp z with z | z
        · exact ne_of_none hs h z
        · exact n.2 z
      · exact .inr (.inl ⟨o, by rw [upd_ne (ne_of_none hs h)]; exact hs⟩)
      · exact .inr (.inr hs))
  | _, _, .dct hs n => .dct (by rw [upd_ne (ne_of_none hs h)]; exact hs) ⟨n.1, by
      intro z
      rcases List.mem_cons.mp z with z | z
      · exact ne_of_none hs h z
      · exact n.2 z⟩
  | _, _, .xo0 hs n e => .xo0 (by rw [upd_ne (ne_of_none hs h)]; exact hs) ⟨n.1, fun z => (List.mem_cons.mp z).elim (fun z => ne_of_none hs h z) n.2⟩ e
  | _, _, .xo1 hs n e h2 n2 l f r => .xo1 (by rw [upd_ne (ne_of_none hs h)]; exact hs) ⟨n.1, fun z => (List.mem_cons.mp z).elim (fun z => ne_of_none hs h z) n.2⟩ e
      (by rw [upd_ne (ne_of_none h2 h)]; exact h2) ⟨n2.1, fun z => (List.mem_cons.mp z).elim (fun z => ne_of_none h2 h z) n2.2⟩ l f (RVs.hide h r)
  | _, _, .dks h1 h2 h3 h4 h5 r => .dks h1 h2 h3 h4 h5 (RVs.hide h r)
  | _, _, .dcn h1 n1 h3 h4 h5 h6 r1 r2 h7 => .dcn (by rw [upd_ne (ne_of_none h1 h)]; exact h1) ⟨n1.1, fun z => (List.mem_cons.mp z).elim (fun z => ne_of_none h1 h z) n1.2⟩ h3 h4 h5 h6 (RVs.hide h r1) (RVs.hide h r2) h7
  | _, _, .tts h1 h2 h3 h4 => .tts (by rw [upd_ne (ne_of_none h1 h)]; exact h1) h2 h3 h4
  | _, _, .lam h1 n1 h2 n2 e => .lam (by rw [upd_ne (ne_of_none h1 h)]; exact h1) ⟨n1.1, fun z => (List.mem_cons.mp z).elim (fun z => ne_of_none h1 h z) n1.2⟩ (by rw [upd_ne (ne_of_none h2 h)]; exact h2) ⟨n2.1, fun z => (List.mem_cons.mp z).elim (fun z => ne_of_none h2 h z) n2.2⟩ e
  | _, _, .ref h => .ref h
  | _, _, .fn h => .fn h
  | _, _, .cls h => .cls h
  | _, _, .ty n => .ty n
theorem RVs.hide {p : Addr} {o : HO} (h : H p = none) : ∀ {ds : List D} {vs : List V}, RVs K g ρ H ds vs → RVs K g (ρ.hide p) (upd H p o) ds vs
  | _, _, .nil => .nil
  | _, _, .cons q r => .cons (RV.hide h q) (RVs.hide h r)
end
mutual
theorem RV.unhide {p : Addr} : ∀ {d : D} {v : V}, RV K g (ρ.hide p) H d v → RV K g ρ H d v
  | _, _, .non => .non
  | _, _, .bl b => .bl b
  | _, _, .int i => .int i
  | _, _, .str x => .str x
  | _, _, .tup hs r => .tup hs (RVs.unhide r)
  | _, _, .lst hs n r => .lst hs ⟨n.1, fun z => n.2 (List.mem_cons_of_mem _ z)⟩ (RVs.unhide r)
  | _, _, .scr hs => .scr (by
      rcases hs with ⟨hs, n⟩ | hs | hs
      · exact .inl ⟨hs, n.1, fun z => n.2 (List.mem_cons_of_mem _ z)⟩
      · exact .inr (.inl hs)
      · exact .inr (.inr hs))
  | _, _, .dct hs n => .dct hs ⟨n.1, fun z => n.2 (List.mem_cons_of_mem _ z)⟩
  | _, _, .xo0 hs n e => .xo0 hs ⟨n.1, fun z => n.2 (List.mem_cons_of_mem _ z)⟩ e
  | _, _, .xo1 hs n e h2 n2 l f r => .xo1 hs ⟨n.1, fun z => n.2 (List.mem_cons_of_mem _ z)⟩ e h2 ⟨n2.1, fun z => n2.2 (List.mem_cons_of_mem _ z)⟩ l f (RVs.unhide r)
  | _, _, .dks h1 h2 h3 h4 h5 r => .dks h1 h2 h3 h4 h5 (RVs.unhide r)
  | _, _, .dcn h1 n1 h3 h4 h5 h6 r1 r2 h7 => .dcn h1 ⟨n1.1, fun z => n1.2 (List.mem_cons_of_mem _ z)⟩ h3 h4 h5 h6 (RVs.unhide r1) (RVs.unhide r2) h7
  | _, _, .tts h1 h2 h3 h4 => .tts h1 h2 h3 h4
  | _, _, .lam h1 n1 h2 n2 e => .lam h1 ⟨n1.1, fun z => n1.2 (List.mem_cons_of_mem _ z)⟩ h2 ⟨n2.1, fun z => n2.2 (List.mem_cons_of_mem _ z)⟩ e
  | _, _, .ref h => .ref h
  | _, _, .fn h => .fn h
  | _, _, .cls h => .cls h
  | _, _, .ty n => .ty n
theorem RVs.unhide {p : Addr} : ∀ {ds : List D} {vs : List V}, RVs K g (ρ.hide p) H ds vs → RVs K g ρ H ds vs
  | _, _, .nil => .nil
  | _, _, .cons q r => .cons (RV.unhide q) (RVs.unhide r)
end
def MutL : Option HO → Prop
  | some (.lst _) => True
  | some (.dK _) => True
  | some (.dT _) => True
  | some (.ext φ) => IsDn φ
  | _ => False
theorem MutL.code {o : Option HO} (h : MutL o) : noCode o := by
  cases o with
  | none => exact True.intro
  | some u => cases u <;> first | exact True.intro | exact h
theorem Mut.ntup {H : Hp} {a p : Addr} {xs : List V} (h : MutL (H p)) (e : H a = some (.tup xs)) : a ≠ p := fun z => by rw [← z, e] at h; exact h
theorem Mut.nfrz {H : Hp} {a p : Addr} {ob : Obj} {u : HO} (h : MutL (H p)) (e : H a = some (.frz ob u)) : a ≠ p := fun z => by rw [← z, e] at h; exact h
theorem Mut.lst {H : Hp} {p : Addr} {xs : List V} (e : H p = some (.lst xs)) : MutL (H p) := by rw [e]; exact True.intro
theorem Mut.dn {H : Hp} {p : Addr} {pr : Params} {a : Addr} {xs : List (NestedKey × Addr × Value)} (e : H p = some (DnO pr a xs)) : MutL (H p) := by rw [e]; exact ⟨pr, a, xs, rfl⟩
theorem Mut.dT {H : Hp} {p : Addr} {ws : List (List Key × V)} (e : H p = some (.dT ws)) : MutL (H p) := by rw [e]; exact True.intro
mutual
theorem RV.under {p : Addr} {o : HO} (hp : p ∈ ρ.hd) (h : MutL (H p)) : ∀ {d : D} {v : V}, RV K g ρ H d v → RV K g ρ (upd H p o) d v
  | _, _, .non => .non
  | _, _, .bl b => .bl b
  | _, _, .int i => .int i
  | _, _, .str x => .str x
  | _, _, .tup hs r => .tup (by
      refine ⟨?_, fun z => by rw [upd_ne (Mut.ntup h (hs.2 z))]; exact hs.2 z⟩
      rcases hs.1 with (hs | ⟨o, hs⟩) | hs
      · exact .inl (.inl (by rw [upd_ne (Mut.ntup h hs)]; exact hs))
      · exact .inl (.inr ⟨o, by rw [upd_ne (Mut.nfrz h hs)]; exact hs⟩)
      · exact .inr hs) (RVs.under hp h r)
  | _, _, .lst (a := a) hs n r => .lst (by rw [upd_ne (fun z : a = p => n.2 (by rw [z]; exact hp))]; exact hs) n (RVs.under hp h r)
  | _, _, .scr (a := a) hs => .scr (by
      rcases hs with ⟨hs, n⟩ | ⟨o, hs⟩ | hs
      · exact .inl ⟨by rw [upd_ne (fun z : a = p => n.2 (by rw [z]; exact hp))]; exact hs, n⟩
      · exact .inr (.inl ⟨o, by rw [upd_ne (Mut.nfrz h hs)]; exact hs⟩)
      · exact .inr (.inr hs))
  | _, _, .dct (a := a) hs n => .dct (by rw [upd_ne (fun z : a = p => n.2 (by rw [z]; exact hp))]; exact hs) n
  | _, _, .xo0 (a := a) hs n e => .xo0 (by rw [upd_ne (fun z : a = p => n.2 (by rw [z]; exact hp))]; exact hs) n e
  | _, _, .xo1 (a := a) (b := b) hs n e h2 n2 l f r => .xo1 (by rw [upd_ne (fun z : a = p => n.2 (by rw [z]; exact hp))]; exact hs) n e (by rw [upd_ne (fun z : b = p => n2.2 (by rw [z]; exact hp))]; exact h2) n2 l f (RVs.under hp h r)
  | _, _, .dks h1 h2 h3 h4 h5 r => .dks h1 h2 h3 h4 h5 (RVs.under hp h r)
  | _, _, .dcn (a := a) h1 n1 h3 h4 h5 h6 r1 r2 h7 => .dcn (by rw [upd_ne (fun z : a = p => n1.2 (by rw [z]; exact hp))]; exact h1) n1 h3 h4 h5 h6 (RVs.under hp h r1) (RVs.under hp h r2) h7
  | _, _, .tts h1 h2 h3 h4 => .tts (by rw [upd_ne (Mut.nfrz h h1)]; exact h1) h2 h3 h4
  | _, _, .lam (a := a) (c := b) h1 n1 h2 n2 e => .lam (by rw [upd_ne (fun z : a = p => n1.2 (by rw [z]; exact hp))]; exact h1) n1 (by rw [upd_ne (fun z : b = p => n2.2 (by rw [z]; exact hp))]; exact h2) n2 e
  | _, _, .ref h => .ref h
  | _, _, .fn h => .fn h
  | _, _, .cls h => .cls h
  | _, _, .ty n => .ty n
theorem RVs.under {p : Addr} {o : HO} (hp : p ∈ ρ.hd) (h : MutL (H p)) : ∀ {ds : List D} {ws : List V}, RVs K g ρ H ds ws → RVs K g ρ (upd H p o) ds ws
  | _, _, .nil => .nil
  | _, _, .cons q r => .cons (RV.under hp h q) (RVs.under hp h r)
end
theorem RO.map {ρ1 : Rh} {H1 : Hp} (f : ∀ ds vs, RVs K g ρ H ds vs → RVs K g ρ1 H1 ds vs) {o : O} {a : Addr} (hk : H1 a = H a) (h : RO K g ρ H o a) : RO K g ρ1 H1 o a := by
  cases o with
  | lst xs =>
    obtain ⟨vs, q, r⟩ := h
    exact ⟨vs, hk.trans q, f _ _ r⟩
  | ins c fs =>
    obtain ⟨C, dx, fvs, q0, q, q2, r⟩ := h
    exact ⟨C, dx, fvs, q0, hk.trans q, q2, f _ _ r⟩
  | dct kvs =>
    obtain ⟨ws, q, q2, r⟩ := h
    exact ⟨ws, hk.trans q, q2, f _ _ r⟩
  | dci kvs =>
    obtain ⟨ws, q, q2, r⟩ := h
    exact ⟨ws, hk.trans q, q2, f _ _ r⟩
  | dcm kvs =>
    obtain ⟨xs, vs, q, r1, r2, q2⟩ := h
    exact ⟨xs, vs, hk.trans q, f _ _ r1, f _ _ r2, q2⟩
  | hid =>
    obtain ⟨o, u, q⟩ := h
    exact ⟨o, u, hk.trans q⟩
theorem Rel.hide {m : Mu} (r : Rel K g ρ m H) {p : Addr} {o : HO} (h : H p = none) (nt : noCode (some o) := by exact True.intro) : Rel K g (ρ.hide p) m (upd H p o) :=
  ⟨r.nd, r.len, fun a ha => by
    rcases List.mem_cons.mp ha with z | z
    · rw [z]; exact ⟨o, upd_same, nt⟩
    · obtain ⟨u, e, t⟩ := r.hh a z
      exact ⟨u, by rw [upd_ne (ne_of_none e h)]; exact e, t⟩, fun i ob a h1 h2 => by
    have q := r.at_ i ob a h1 h2
    obtain ⟨u, e⟩ := q.some
    exact q.map (fun _ _ z => z.hide h) (upd_ne (ne_of_none e h)), tabs_new r.tb h⟩
theorem Rel.unhide {m : Mu} {p : Addr} (r : Rel K g (ρ.hide p) m H) : Rel K g ρ m H :=
  ⟨r.nd, r.len, fun a ha => r.hh a (List.mem_cons_of_mem _ ha), fun i ob a h1 h2 => (r.at_ i ob a h1 h2).map (fun _ _ z => z.unhide) rfl, r.tb⟩
theorem Rel.under {m : Mu} {p : Addr} {o : HO} (r : Rel K g ρ m H) (hp : p ∈ ρ.hd) (hn : p ∉ ρ.lv) (h : MutL (H p)) (nt : noCode (some o) := by exact True.intro) : Rel K g ρ m (upd H p o) :=
  ⟨r.nd, r.len, hh_upd r.hh nt, fun i ob a h1 h2 => (r.at_ i ob a h1 h2).map (fun _ _ z => z.under hp h) (upd_ne fun z : a = p => hn (by rw [← z]; exact List.mem_of_getElem? h2)), tabs_put r.tb h.code⟩
theorem Grow.unhide {p : Addr} (G : Grow (ρ.hide p) H ρ' H') : ∃ l, ρ' = (⟨l, ρ.hd⟩ : Rh).hide p ∧ Grow ρ H ⟨l, ρ.hd⟩ H' := by
  obtain ⟨l, h⟩ := ρ'
  have e : h = p :: ρ.hd := G.hid
  subst e
  exact ⟨l, rfl, G.ext, rfl, G.tup, G.frz, G.oth⟩
theorem Grow.over {p : Addr} {o : HO} (h : H p = none) (G : Grow ρ H ρ' H') : Grow ρ H ρ' (upd H' p o) := by
  refine ⟨G.ext, G.hid, fun a xs q => ?_, fun a o u q => ?_, fun a u q t n => ?_⟩
  · rw [upd_ne (ne_of_none q h)]; exact G.tup a xs q
  · rw [upd_ne (ne_of_none q h)]; exact G.frz a o u q
  · rw [upd_ne (ne_of_none q h)]; exact G.oth a u q t n
theorem REnv.map {ρ1 : Rh} {H1 : Hp} (f : ∀ d v, RV K g ρ H d v → RV K g ρ1 H1 d v) {s : Sl} {σ : St} (h : REnv K g ρ H s σ) : REnv K g ρ1 H1 s σ :=
  ⟨h.len, fun i d q => by obtain ⟨v, e, r⟩ := h.at_ i d q; exact ⟨v, e, f _ _ r⟩⟩
theorem RVs.length : ∀ {ds : List D} {vs : List V}, RVs K g ρ H ds vs → ds.length = vs.length
  | _, _, .nil => rfl
  | _, _, .cons _ r => by rw [List.length_cons, List.length_cons, RVs.length r]
theorem RVs.get : ∀ {ds : List D} {vs : List V} {i : Nat} {d : D}, RVs K g ρ H ds vs → ds[i]? = some d → ∃ v, vs[i]? = some v ∧ RV K g ρ H d v
  | _, _, _, _, .nil, e => by simp at e
  | _, _, 0, _, .cons h _, e => by
    simp at e
    subst e
    exact ⟨_, rfl, h⟩
  | _, _, i + 1, d, .cons _ r, e => by
    obtain ⟨v, h1, h2⟩ := RVs.get (i := i) r (by simpa using e)
    exact ⟨v, by simpa using h1, h2⟩
theorem RVs.append : ∀ {a b : List D} {x y : List V}, RVs K g ρ H a x → RVs K g ρ H b y → RVs K g ρ H (a ++ b) (x ++ y)
  | _, _, _, _, .nil, r => r
  | _, _, _, _, .cons h t, r => .cons h (RVs.append t r)
theorem RVs.take : ∀ {ds : List D} {vs : List V} (n : Nat), RVs K g ρ H ds vs → RVs K g ρ H (ds.take n) (vs.take n)
  | _, _, 0, _ => .nil
  | _, _, _ + 1, .nil => .nil
  | _, _, n + 1, .cons h r => .cons h (RVs.take n r)
theorem RVs.drop : ∀ {ds : List D} {vs : List V} (n : Nat), RVs K g ρ H ds vs → RVs K g ρ H (ds.drop n) (vs.drop n)
  | _, _, 0, r => r
  | _, _, _ + 1, .nil => .nil
  | _, _, n + 1, .cons _ r => RVs.drop n r
theorem RVs.set {d : D} {v : V} (h : RV K g ρ H d v) : ∀ {ds : List D} {vs : List V} (i : Nat), RVs K g ρ H ds vs → RVs K g ρ H (ds.set i d) (vs.set i v)
  | _, _, _, .nil => .nil
  | _, _, 0, .cons _ r => .cons h r
  | _, _, i + 1, .cons q r => .cons q (RVs.set h i r)
theorem RVs.reverse : ∀ {ds : List D} {vs : List V}, RVs K g ρ H ds vs → RVs K g ρ H ds.reverse vs.reverse
  | _, _, .nil => .nil
  | _, _, .cons h r => by
    rw [List.reverse_cons, List.reverse_cons]
    exact (RVs.reverse r).append (.cons h .nil)
theorem RVs.dropLast {ds : List D} {vs : List V} (h : RVs K g ρ H ds vs) : RVs K g ρ H ds.dropLast vs.dropLast := by
  rw [List.dropLast_eq_take, List.dropLast_eq_take, h.length]
  exact h.take _
theorem RVs.rep {ds : List D} {vs : List V} (h : RVs K g ρ H ds vs) : ∀ n : Nat, RVs K g ρ H (List.replicate n ds).flatten (List.replicate n vs).flatten
  | 0 => .nil
  | n + 1 => by
    rw [List.replicate_succ, List.replicate_succ, List.flatten_cons, List.flatten_cons]
    exact h.append (RVs.rep h n)
theorem RVs.cut {ds : List D} {vs : List V} (h : RVs K g ρ H ds vs) (lo hi : Option Int) : RVs K g ρ H (cutL ds lo hi) (cutV vs lo hi) := by
  unfold cutL cutV
  rw [h.length]
  exact (h.drop _).take _
theorem RVs.ints : ∀ ns : List Int, RVs K g ρ H (ns.map D.int) (ns.map V.int)
  | [] => .nil
  | n :: r => .cons (.int n) (RVs.ints r)
theorem RVs.atI {ds : List D} {vs : List V} (h : RVs K g ρ H ds vs) {i : Int} {d : D} (e : L2.atI ds i = some d) : ∃ v, L2.atI vs i = some v ∧ RV K g ρ H d v := by
  unfold L2.atI at e ⊢
  rw [← h.length]
  cases q : ixN ds.length i with
  | none => rw [q] at e; cases e
  | some j =>
    rw [q] at e
    exact h.get (i := j) e
theorem RVs.nil_iff {ds : List D} {vs : List V} (h : RVs K g ρ H ds vs) : ds = [] ↔ vs = [] := by
  rw [← List.length_eq_zero_iff, ← List.length_eq_zero_iff, h.length]
theorem RVs.isEmpty {ds : List D} {vs : List V} (h : RVs K g ρ H ds vs) : ds.isEmpty = vs.isEmpty := by
  cases h <;> rfl
theorem RV.seq {m : Mu} (r : Rel K g ρ m H) {d : D} {v : V} {xs : List D} (h : RV K g ρ H d v) (e : seqD m d = some xs) : ∃ a vs, v = .ref a ∧ (SqL K H a vs ∨ TkT K H a vs xs) ∧ RVs K g ρ H xs vs := by
  cases h with
  | tup hs hr => simp [seqD] at e; subst e; exact ⟨_, _, rfl, .inr hs, hr⟩
  | lst hs hn hr => simp [seqD] at e; subst e; exact ⟨_, _, rfl, .inl (SqL.of hs), hr⟩
  | scr hs => simp [seqD] at e; subst e; exact ⟨_, _, rfl, .inl hs.sq, RVs.ints _⟩
  | ref hi =>
    simp only [seqD] at e
    split at e
    · rename_i ys hm
      cases e
      obtain ⟨a, h1, vs, h2, h3⟩ := r.get hm
      rw [hi] at h1; cases h1
      exact ⟨_, _, rfl, .inl (SqL.of h2), h3⟩
    · cases e
  | _ => simp [seqD] at e
theorem RV.lstL {m : Mu} (r : Rel K g ρ m H) {d : D} {v : V} {xs : List D} (h : RV K g ρ H d v) (e : lstD m d = some xs) : ∃ a vs, v = .ref a ∧ H a = some (.lst vs) ∧ RVs K g ρ H xs vs := by
  cases h with
  | lst hs hn hr => simp [lstD] at e; subst e; exact ⟨_, _, rfl, hs, hr⟩
  | ref hi =>
    simp only [lstD] at e
    split at e
    · rename_i ys hm
      cases e
      obtain ⟨a, h1, vs, h2, h3⟩ := r.get hm
      rw [hi] at h1; cases h1
      exact ⟨_, _, rfl, h2, h3⟩
    · cases e
  | _ => simp [lstD] at e
theorem RVs.all {α : Type} {f : D → Option α} {k : α → V} (hf : ∀ d v a, RV K g ρ H d v → f d = some a → v = k a) : ∀ {ds : List D} {vs : List V} {as : List α}, RVs K g ρ H ds vs → allD f ds = some as → vs = as.map k
  | _, _, _, .nil, e => by
    simp [allD] at e
    subst e
    rfl
  | _, _, _, .cons h r, e => by
    simp only [allD] at e
    split at e
    · rename_i a l h1 h2
      cases e
      rw [List.map_cons, hf _ _ _ h h1, RVs.all hf r h2]
    · cases e
theorem RV.of_int {d : D} {v : V} {i : Int} (h : RV K g ρ H d v) (e : intD d = some i) : v = .int i := by
  cases h <;> simp [intD] at e
  rw [e]
theorem RV.of_bl {d : D} {v : V} {b : Bool} (h : RV K g ρ H d v) (e : blD d = some b) : v = .bl b := by
  cases h <;> simp [blD] at e
  rw [e]
theorem RV.of_flat {d : D} {v u : V} (h : RV K g ρ H d v) (e : flatD d = some u) : v = u ∧ flatV v = true := by
  cases h <;> simp [flatD] at e <;> subst e <;> exact ⟨rfl, rfl⟩
mutual
theorem RV.dp {m : Mu} : ∀ {d : D} {v : V} {p : PyData}, RV K g ρ H d v → pyD m d = some p → p.canLay0 = true → Dp K H v p
  | _, _, _, .non, e, _ => by simp [pyD] at e; subst e; exact .non
  | _, _, _, .bl b, e, _ => by simp [pyD] at e; subst e; exact .bl b
  | _, _, _, .int i, e, _ => by simp [pyD] at e; subst e; exact .int i
  | _, _, _, .str x, e, _ => by simp [pyD] at e; subst e; exact .str x
  | _, _, _, .tup hs hr, e, hc => by
    simp only [pyD, Option.map_eq_some_iff] at e
    obtain ⟨ps, e1, rfl⟩ := e
    exact .tup hs.1 (RVs.dp hr e1 (by simpa [PyData.canLay0] using hc))
  | _, _, _, .lst hs hn hr, e, hc => by
    simp only [pyD, Option.map_eq_some_iff] at e
    obtain ⟨ps, e1, rfl⟩ := e
    exact .lst (SqL.of hs) (RVs.dp hr e1 (by simpa [PyData.canLay0] using hc))
  | _, _, _, .scr hs, e, _ => by
    simp [pyD] at e
    subst e
    exact .lst hs.sq (dp_ints _)
  | _, _, _, .dct _ _, e, hc => by simp [pyD] at e; subst e; simp [PyData.canLay0] at hc
  | _, _, _, .xo0 _ _ _, e, _ => by simp [pyD] at e
  | _, _, _, .xo1 _ _ _ _ _ _ _ _, e, _ => by simp [pyD] at e
  | _, _, _, .dks _ _ _ _ _ _, e, _ => by simp [pyD] at e
  | _, _, _, .dcn _ _ _ _ _ _ _ _ _, e, _ => by simp [pyD] at e
  | _, _, _, .tts _ _ _ _, e, _ => by simp [pyD] at e
  | _, _, _, .lam _ _ _ _ _, e, _ => by simp [pyD] at e
  | _, _, _, .ref _, e, _ => by simp [pyD] at e
  | _, _, _, .fn _, e, _ => by simp [pyD] at e
  | _, _, _, .cls _, e, _ => by simp [pyD] at e
  | _, _, _, .ty _, e, _ => by simp [pyD] at e
theorem RVs.dp {m : Mu} : ∀ {ds : List D} {vs : List V} {ps : List PyData}, RVs K g ρ H ds vs → pyDs m ds = some ps → PyData.canLayAll0 ps = true → DpAll K H vs ps
  | _, _, _, .nil, e, _ => by simp [pyDs] at e; subst e; exact .nil
  | _, _, _, .cons h r, e, hc => by
    simp only [pyDs] at e
    split at e
    · rename_i a l h1 h2
      cases e
      have hc' : a.canLay0 = true ∧ PyData.canLayAll0 l = true := by simpa [PyData.canLayAll0] using hc
      exact .cons (RV.dp h h1 hc'.1) (RVs.dp r h2 hc'.2)
    · cases e
theorem dp_ints : ∀ ns : List Int, DpAll K H (ns.map V.int) (ns.map PyData.int)
  | [] => .nil
  | n :: r => .cons (.int n) (dp_ints r)
end
theorem RV.dpM {m : Mu} (r : Rel K g ρ m H) {d : D} {v : V} {p : PyData} (h : RV K g ρ H d v) (e : pyM m d = some p) (hc : p.canLay0 = true) : Dp K H v p := by
  cases h with
  | ref hi =>
    simp only [pyM] at e
    split at e
    · rename_i ys hm
      simp only [Option.map_eq_some_iff] at e
      obtain ⟨ps, e1, rfl⟩ := e
      obtain ⟨a, h1, vs, h2, h3⟩ := r.get hm
      rw [hi] at h1; cases h1
      exact .lst (SqL.of h2) (RVs.dp h3 e1 (by simpa [PyData.canLay0] using hc))
    · cases e
  | non => exact RV.dp (m := m) (.non : RV K g ρ H _ _) e hc
  | bl b => exact RV.dp (m := m) (.bl b : RV K g ρ H _ _) e hc
  | int b => exact RV.dp (m := m) (.int b : RV K g ρ H _ _) e hc
  | str b => exact RV.dp (m := m) (.str b : RV K g ρ H _ _) e hc
  | tup a b => exact RV.dp (m := m) (.tup a b : RV K g ρ H _ _) e hc
  | lst a b c => exact RV.dp (m := m) (.lst a b c : RV K g ρ H _ _) e hc
  | scr a => exact RV.dp (m := m) (.scr a : RV K g ρ H _ _) e hc
  | dct a b => exact RV.dp (m := m) (.dct a b : RV K g ρ H _ _) e hc
  | xo0 _ _ _ => simp [pyM, pyD] at e
  | xo1 _ _ _ _ _ _ _ _ => simp [pyM, pyD] at e
  | dks _ _ _ _ _ _ => simp [pyM, pyD] at e
  | dcn _ _ _ _ _ _ _ _ _ => simp [pyM, pyD] at e
  | tts _ _ _ _ => simp [pyM, pyD] at e
  | lam _ _ _ _ _ => simp [pyM, pyD] at e
  | fn a => exact RV.dp (m := m) (.fn a : RV K g ρ H _ _) e hc
  | cls a => exact RV.dp (m := m) (.cls a : RV K g ρ H _ _) e hc
  | ty a => exact RV.dp (m := m) (.ty a : RV K g ρ H _ _) e hc
def KeepN (H H' : Hp) : Prop := ∀ a o, H a = some o → noTbl (some o) → H' a = some o
theorem KeepN.of (h : ∀ a o, H a = some o → H' a = some o) : KeepN H H' := fun a o e _ => h a o e
theorem KeepN.refl : KeepN H H := .of fun _ _ h => h
theorem KeepN.trans (a : KeepN H H') (b : KeepN H' H'') : KeepN H H'' := fun c o h t => b c o (a c o h t) t
theorem KeepN.get (k : KeepN H H') {a : Addr} {o : HO} (h : H a = some o) (nt : noTbl (some o) := by exact True.intro) : H' a = some o := k a o h nt
theorem KeepN.grow (k : KeepN H H') : Grow ρ H ρ H' := ⟨⟨[], by simp⟩, rfl, fun a xs h => k.get h, fun a o u h => k.get h, fun a o q t n => ⟨k a o q t, n⟩⟩
theorem Grow.kp (G : Grow ρ H ρ' H') (h : ρ.lv = []) : KeepN H H' := fun a o q t => (G.oth a o q t (by rw [h]; simp)).1
theorem RO.noCode {o : O} {a : Addr} (h : RO K g ρ H o a) : ∃ u, H a = Option.some u ∧ Ev.noCode (Option.some u) := by
  cases o with
  | lst xs => obtain ⟨vs, q, r⟩ := h; exact ⟨_, q, True.intro⟩
  | ins c fs => obtain ⟨C, dx, fvs, q0, q, q2, r⟩ := h; exact ⟨_, q, True.intro⟩
  | dct kvs => obtain ⟨ws, q, q2, r⟩ := h; exact ⟨_, q, True.intro⟩
  | dci kvs => obtain ⟨ws, q, q2, r⟩ := h; exact ⟨_, q, True.intro⟩
  | dcm kvs => obtain ⟨xs, vs, q, _⟩ := h; exact ⟨_, q, ⟨_, _, _, rfl⟩⟩
  | hid => obtain ⟨o, u, q⟩ := h; exact ⟨_, q, True.intro⟩
theorem Rel.kp {m : Mu} (R : Rel K g ρ m H) (k : KeepN H H') (t : LamX.Tabs g.tb H') : Rel K g ρ m H' :=
  ⟨R.nd, R.len, fun a ha => by
    obtain ⟨o, ho, t⟩ := R.hh a ha
    exact ⟨o, k a o ho t.tbl, t⟩, fun i o a h1 h2 => by
    have q := R.at_ i o a h1 h2
    obtain ⟨u, hu, nt⟩ := q.noCode
    exact q.grow k.grow ((k.get hu nt.tbl).trans hu.symm), t⟩
end
end Ev
namespace LamX
open PySem PySem.Spec PyProof.Rows L2
section
variable {X : Cx} {pins : List (Addr × Obj)} {σ : L2.St} {H : Hp} {s : Shared}
end
end LamX
namespace Ev
open PySem PySem.Spec PyProof.Rows L2
def Zx (mg : Str → Option Value) (cls : Value) (d : Option Addr) : Obj → Prop := fun o => Zc cls d o ∧ ((∀ n ∈ hotNames, mg n ≠ some cls) → PXN.CtxN o)
theorem Zx.steady {mg : Str → Option Value} {cls : Value} {d : Option Addr} : PXN.Steady1 (Zx mg cls d) := fun o v h => ⟨⟨PXN.steady_cls o v h.1.1, PXN.steady_dict o v h.1.2⟩, fun q => PXN.steady_ctx o v (h.2 q)⟩
theorem Zx.cls {mg : Str → Option Value} {cls : Value} {d : Option Addr} {o : Obj} (h : Zx mg cls d o) : o.cls = cls := h.1.1
end Ev
namespace L2N
theorem Zn.zx {mg : PySem.Str → Option PySem.Value} {cls : PySem.Value} {d : Option PySem.Addr} {o : PySem.Obj} (h : Zn cls d o) : Ev.Zx mg cls d o := ⟨⟨h.1, h.2.1⟩, fun _ => h.2.2⟩
end L2N
namespace Ev
open PySem PySem.Spec PyProof.Rows L2
def XE (X : Cx) (W : WX) (u : Value) (s' : Shared) : Prop :=
  ∃ (a : Addr) (B : Heap) (sI : Shared) (pins : List (Addr × Obj)) (σ : L2.St) (H : Hp) (cls : Value) (d : Option Addr),
    u = .ref a ∧ Inv X pins σ H sI ∧ (∀ b o, sI.heap.get? b = some o → b ∉ frs X.stack → B.get? b = some o) ∧ sI.heap.UpToSlots s'.heap ∧
      Sky B X.stack a (Zx X.mg cls d) X.env.locals s'.heap ∧ H a = none ∧ s'.os = sI.os ∧ AllBare s'.gens ∧ W cls d σ H
def Takes (X : Cx) (W : WX) : Prop := ∀ u s', XE X W u s' → X.xe u s'
theorem Takes.imp {X : Cx} {W W' : WX} (t : Takes X W) (h : ∀ c d σ H, W' c d σ H → W c d σ H) : Takes X W' := fun u s' ⟨a, B, sI, pins, σ, H, cls, d, e, I, nb, up, sky, na, os, ag, w⟩ =>
  t u s' ⟨a, B, sI, pins, σ, H, cls, d, e, I, nb, up, sky, na, os, ag, h _ _ _ _ w⟩
def CX (P : Program) (w : World) (mg : Str → Option Value) (outer : List Env) (H : Hp) (s : Shared) (E : XK) (u : Value) (s' : Shared) : Prop :=
  ∃ (a : Addr) (B : Heap) (H' : Hp) (cls : Value) (d : Option Addr), u = .ref a ∧ HandSPX.FlyingZ B outer a (Zx mg cls d) s'.heap ∧ HOk P w H' B ∧ UB (frs outer) H H' s.heap B s'.heap ∧ H' a = none ∧ s'.os = s.os ∧ AllBare s'.gens ∧ E cls d H'
section
variable {X : Cx} {pins : List (Addr × Obj)} {σ : L2.St} {H : Hp} {sI s s' : Shared} {B : Heap} {W : WX} {E : XK}
theorem XE.of_call (I : Inv X pins σ H s) (hW : ∀ cls d H', E cls d H' → W cls d σ H') {u : Value} (c : CX X.prog X.w X.mg X.stack H s E u s') : XE X W u s' := by
  obtain ⟨a, B, H', cls, d, rfl, fl, hok, ub, na, os, ag, hE⟩ := c
  obtain ⟨G, g1, g2⟩ := restrict s'.heap fun b => (B.get? b).isSome || decide (b ∈ frs X.stack)
  have st : B.StaysIn s'.heap := fl.1
  have gB : ∀ b o, B.get? b = some o → G.get? b = some o := fun b o e => by
    rw [g1 b (by simp [e])]
    exact st b o e
  have gF : ∀ b, b ∈ frs X.stack → G.get? b = s'.heap.get? b := fun b hb => g1 b (by simp [hb])
  have og : ∀ b o, G.get? b = some o → s'.heap.get? b = some o ∧ ((B.get? b).isSome = true ∨ b ∈ frs X.stack) := fun b o e => by
    cases q : ((B.get? b).isSome || decide (b ∈ frs X.stack)) with
    | false => rw [g2 b q] at e; cases e
    | true =>
      rw [g1 b q] at e
      exact ⟨e, by simpa [Bool.or_eq_true] using q⟩
  refine ⟨a, B, { s with heap := G, gens := s'.gens, drawn := s'.drawn, toks := s'.toks }, pins, σ, H', cls, d, rfl, ?_, fun b o e hb => ?_, Heap.UpToSlots.of_keeps fun b o e => (og b o e).1, .inr (.inl fl), na, os, ag, hW _ _ _ hE⟩
  · refine I.call (ch := []) ⟨fun b o e n hb _ => gB b o (ub.keep b o e n hb), fun b o e n hb _ => ?_, fun b o e n _ => ub.free b o e n, fun b o e _ => ?_, ub.tups, ub.frzs, ub.tbls⟩ (hok.kept gB) ag (fun _ z => nomatch z)
    · obtain ⟨sl, q⟩ := ub.slot b o e hb
      exact ⟨sl, by rw [gF b hb]; exact q⟩
    · by_cases hb : b ∈ frs X.stack
      · obtain ⟨sl, q⟩ := ub.slot b o e hb
        exact ⟨_, by rw [gF b hb]; exact q⟩
      · obtain ⟨o', q⟩ := ub.there b o e hb
        exact ⟨o', gB b o' q⟩
  · obtain ⟨e', h⟩ := og b o e
    rcases h with h | h
    · obtain ⟨o', q⟩ := Option.isSome_iff_exists.mp h
      have z := st b o' q
      rw [e'] at z; cases z
      exact q
    · exact absurd h hb
theorem XE.new {a : Addr} {oe : Obj} {vs : Array Value} {cls : Value} {d : Option Addr} (I : Inv X pins σ H sI) (k : ∀ b o, sI.heap.get? b = some o → s'.heap.get? b = some o) (hne : sI.heap.get? a = none) (he : s'.heap.get? a = some oe)
    (hz : Zx X.mg cls d oe) (hd : oe.data = .fields vs) (h1 : vs[1]? = some .none) (na : H a = none) (os : s'.os = sI.os) (ag : AllBare s'.gens) (w : W cls d σ H) : XE X W (.ref a) s' := by
  refine ⟨a, PySem.W.hideAll sI.heap (frs X.stack), sI, pins, σ, H, cls, d, rfl, I, fun b o e hb => PySem.W.hideAll_get _ e hb, Heap.UpToSlots.of_keeps k,
    .inl ⟨fun b o e => k b o (PySem.W.of_hideAll _ e), ?_, ?_, oe, vs, he, hz, hd, h1⟩, na, os, ag, w⟩
  · cases q : (PySem.W.hideAll sI.heap (frs X.stack)).get? a with
    | none => rfl
    | some o =>
      have z := PySem.W.of_hideAll _ q
      rw [hne] at z; cases z
  · exact Heap.FunFrames.of_keeps (fun b o e _ => ⟨o, k b o e, rfl⟩) (funFrames_none I.stack fun b hb => PySem.W.hideAll_none _ hb)
theorem XE.leave (hs : X.stack = X.env :: X.outer) (hf : X.env.frame = some X.env.locals) (hex : X.ex = []) {E₁ : Value → Shared → Prop} (hW : ∀ cls d σ H, W cls d σ H → E cls d H) {u : Value} (x : XE X W u s') :
    wpAny (model X.prog X.w) X.A (leaving X.env u) (fun _ s'' => CX X.prog X.w X.mg X.outer X.H_0 X.s_0 E u s'') E₁ s' := by
  obtain ⟨a, B, sI, pins, σ, H, cls, d, rfl, I, nb, up, sky, na, os, ag, w⟩ := x
  have hfr : X.A.frames = some (X.env :: X.outer) := by rw [I.ok.frames, hs]
  have nst : ∀ b o, X.s_0.heap.get? b = some o → b ∉ X.fs → b ∉ frs X.stack := fun b o e hb hm => by
    rcases List.mem_cons.mp (I.stkSub b hm) with z | z
    · have h1 := Heap.lt_size e
      have h2 := I.ok.above
      rw [z] at h1
      exact absurd (Nat.lt_of_lt_of_le h1 h2) (Nat.lt_irrefl _)
    · exact hb z
  have hex' : ∀ b, b ∉ X.ex := fun b hb => by rw [hex] at hb; cases hb
  have hokB := I.inGround nb
  have fin : ∀ h', HandSPX.FlyingZ B X.outer a (Zx X.mg cls d) h' → s'.heap.UpToSlots h' → CX X.prog X.w X.mg X.outer X.H_0 X.s_0 E (.ref a) { s' with heap := h' } := fun h' fl up' => by
    refine ⟨a, B, H, cls, d, rfl, fl, hokB, ⟨fun b o e n hb => nb b o (I.base.keep b o e n hb (hex' b)) (nst b o e hb), fun b o e hb => ?_, fun b o e n => I.base.free b o e n (hex' b), fun b o e hb => ?_, I.base.tups, I.base.frzs, I.base.tbls⟩,
      na, os.trans I.os, ag, hW _ _ _ _ w⟩
    · obtain ⟨_, o₀, e₀, hnf⟩ := I.ok.funs.mem hb
      rw [e] at e₀; cases e₀
      obtain ⟨sl, e1⟩ := I.base.slot b o e (I.ok.frf b hb) hb (hex' b)
      obtain ⟨sl2, e2⟩ := up b _ e1 hnf
      obtain ⟨sl3, e3⟩ := up' b _ e2 hnf
      exact ⟨sl3, e3⟩
    · obtain ⟨o', e1⟩ := I.base.there b o e (hex' b)
      exact ⟨o', nb b o' e1 (nst b o e hb)⟩
  rw [hs] at sky
  rcases sky with ⟨hB, hn, hl, oe, vs, he, hz, hd, h1⟩ | fl | hd
  · exact PXN.leaving_firstZ Zx.steady hfr hl hf he hB hn hd h1 hz fin
  · exact PXN.leaves_onZ Zx.steady hfr hf fl fin
  · exact HandSPX.leaves_heldZ hf hd fin
theorem takes_of (hs : X.stack = X.env :: X.outer) (hf : X.env.frame = some X.env.locals) (hex : X.ex = []) {E₁ : Value → Shared → Prop}
    (hx : X.xe = fun e s' => wpAny (model X.prog X.w) X.A (leaving X.env e) (fun _ s'' => CX X.prog X.w X.mg X.outer X.H_0 X.s_0 E e s'') E₁ s') : Takes X (fun cls d _ H => E cls d H) := fun u s' x => by
  rw [hx]
  exact XE.leave (W := fun cls d _ H => E cls d H) (E := E) hs hf hex (fun _ _ _ _ h => h) x
theorem passes_call (tk : Takes X W) (hW : ∀ cls d σ H, E cls d H → W cls d σ H) : ∀ (pins : List (Addr × Obj)) (σ : L2.St) (H : Hp) (s : Shared) (e : Value) (s' : Shared), Inv X pins σ H s → CX X.prog X.w X.mg X.stack H s E e s' → X.xe e s' :=
  fun _ σ _ _ e s' I c => tk e s' (XE.of_call I (fun cls d H' h => hW cls d σ H' h) c)
end
theorem ps_raise {X : Cx} {W : WX} {e : Expr} {t : L2.St → Hp → XK → Prop} {pos : Pos} (hc : X.calm = true) (tk : Takes X W) (he : L2N.PMk X e t) : PS X (.Raise (some e) none pos) (fun _ σ H => t σ H fun cls d H' => W cls d σ H') := by
  refine ⟨fun pins s σ H D I h => ?_⟩
  show wpAny _ _ (do standAt pos; raiseStmt X.env (some (do let v ← eval e X.env; standAt pos; pure v)) none) _ _ _
  refine wpAny_bind (wpAny_standAt (raise_made (I.ok.hd hc) (wpAny_bind (wpAny_mono (he pins s σ H _ I h) (fun u s1 hu => wpAny_bind (wpAny_standAt (wpAny_pure ?_))) fun _ _ x => x))))
  obtain ⟨a, oe, vs, sI, H', cls, d, rfl, J, k, hne, ha, hz, hd, h1, na, os, ag, r, q⟩ := hu
  obtain ⟨r1, r2⟩ := r (model X.prog X.w) s1.heap (J.kIn.keeps k)
  exact ⟨a, oe, vs, cls, rfl, ha, hz.1, hd, h1, r1, r2, tk _ _ (XE.new J k hne ha hz.zx hd h1 na os ag q)⟩
theorem takes0 {X : Cx} : Takes X (fun _ _ _ _ => False) := fun u s' ⟨a, B, sI, pins, σ, H, cls, d, e, I, nb, up, sky, na, os, ag, w⟩ => w.elim
section
variable {X : Cx} {o e : Expr} {es : List Expr} {to te : TE} {ta : TA} {f : Str} {p p' p1 p2 pos : Pos}
theorem pmk_oexN {CX : CXT} {x : Str} {C fI : Addr} {k : Nat} {fd : FuncData} {ps : List Str} {sp : Sp} {ds : List Value} {dvs : List V} (T : OexC X.K C) (iC : PySem.W.findIn X.K (.ref C) "__init__" = some (some (.ref fI))) (tI : PySem.W.typeIn X.K (.ref fI) = some (.type "function"))
    (F1 : FnOk X.prog X.w X.K X.mg X.base CX k fI fd ps sp) (hr : Room (k + 1) X.A) (hb : Binds X.K fd ps ds) (hd : Vals dvs ds) (hx : Passes CX X (fun _ _ _ => False)) (hg : Gl X x) (hm : X.mg x = some (.ref C)) (ha : PA X (e :: es) ta)
    (hdb : (x == ("__debug__" : Str)) = false := by decide) (he : starEach (e :: es) X.env = (false, eval e X.env) :: starEach es X.env := by rfl) (hpl : (backTo pos (starEach es X.env)).any (·.1) = false := by rfl) :
    L2N.PMk X (.Call (.Name x p) (e :: es) [] pos) (tMkO C sp dvs ta) := by
  intro pins s σ H Q I h
  obtain ⟨nm, q, N, bs, bm, sn, sub, ab, col, dd, k0, k1, k2, k3, k5, hC, hbm⟩ := T.cls
  refine wpAny_Call_Name_kw (ld_glob I hg hm ?_ hdb)
  refine PySem.W.callWith_K (h₀ := X.base) I.ok.mod.kin T.kC (thn (ha.run pos pins s σ H _ I h) fun us s1 ⟨vs, H1, I1, r1, hz, q1⟩ => ⟨I1.kIn, ?_⟩) he hpl
  show wpAny _ _ (call (.ref C) us) _ _ _
  obtain ⟨hp, g, dr, tk, os⟩ := s1
  have hsz : hp.objs.size ≤ hp.objs.size + 1 := Nat.le_succ _
  have hn : H1 (hp.objs.size + 1) = none := I1.hok.fresh hsz
  have hq := q1 (hp.objs.size + 1) hn
  have kk : ∀ b o, hp.get? b = some o → ((hp.push (PySem.W.kdv_tup us)).push (PySem.HandSPX.excO C hp.objs.size)).get? b = some o := fun b o e => Heap.get?_push_of_some _ (Heap.get?_push_of_some _ e)
  have hget : ((hp.push (PySem.W.kdv_tup us)).push (PySem.HandSPX.excO C hp.objs.size)).get? (hp.objs.size + 1) = some (PySem.HandSPX.excO C hp.objs.size) := by heap_get
  have I2 : Inv X pins σ (upd H1 (hp.objs.size + 1) (exo (hp.objs.size + 1) C none)) ⟨(hp.push (PySem.W.kdv_tup us)).push (PySem.HandSPX.excO C hp.objs.size), g, dr, tk, os⟩ :=
    I1.laid (t' := tk) (a := hp.objs.size + 1) (o := exo (hp.objs.size + 1) C none) (h' := (hp.push (PySem.W.kdv_tup us)).push (PySem.HandSPX.excO C hp.objs.size)) kk hsz (exo_ok hget)
  have r2 : Vals (V.ref (hp.objs.size + 1) :: (vs ++ dvs)) (Value.ref (hp.objs.size + 1) :: (us ++ ds)) := .cons rfl (r1.append hd)
  have hl : (Value.ref (hp.objs.size + 1) :: us ++ ds).length = ps.length := by
    have e := r2.length
    rw [F1.len _ _ _ _ hq] at e
    exact e.symm
  have hus : us.length ≤ sizeLine := by
    rw [← Paired.length r1, sizeLine_eq]
    omega
  refine wpAny_call (PySem.HandSPX.call_own F.excBase_ValueError (fun Y => PySem.HandSPX.refsVE_contains Y bm hbm) (I1.kIn _ _ hC) (PySem.W.looks_findIn I1.kIn iC) (fun self => PySem.W.bind_fn I1.kIn self tI) hus
    (codeAny_mono (F1.run _ X.stack _ _ ⟨Value.ref (hp.objs.size + 1) :: us, []⟩ (Value.ref (hp.objs.size + 1) :: (us ++ ds)) _ _ (fun _ _ _ => False) (hr.make C us []) (I2.env0.make C us []) (hb _ (Value.ref (hp.objs.size + 1) :: us) I2.kIn hl) r2 hq) fun r s' hq' => ?_))
  cases r with
  | error er => exact hx pins σ _ _ er s' I2 hq'
  | ok fl =>
    cases fl with
    | ret u =>
      obtain ⟨v, H2, os2, bare2, un2, hok2, rv, ev, d, fs, ea, ed, hd1, q2⟩ := hq'
      subst ev
      obtain ⟨h2, g2, d2, t2, os'⟩ := s'
      obtain ⟨t0, G, J, kG, ge, hoe, na⟩ := mk_end0 (d2 := d2) (t2 := t2) I1 hsz kk un2 hok2 os2 bare2 ea ed hd1
      refine ⟨rv, hp.objs.size + 1, _, _, ⟨G, g2, d2, t2, os'⟩, _, .ref C, some d, rfl, J, kG, ge, hoe, ⟨rfl, rfl, fun vs hv => ?_⟩, rfl, rfl, na, rfl, bare2, raises_own T.exC T.tyC, q2⟩
      cases hv
      rfl
    | next => exact False.elim hq'
    | brk => exact False.elim hq'
    | cont => exact False.elim hq'
end
end Ev
namespace Ev
open PySem PySem.Spec PyProof.Rows L2
def CdAt (K : PySem.W.Frag) (f : Addr) (cdv : Value) : Prop := ∃ o fd, K.lookup f = some o ∧ o.data = .func fd ∧ fd.code = cdv
structure FnG (P : Program) (w : World) (K : PySem.W.Frag) (mg : Str → Option Value) (base : Heap) (k : Nat) (f : Addr) (fd : FuncData) (ps : List Str) (sp : Sp) : Prop where
  len : ∀ vs H Q E, sp vs H Q E → vs.length = ps.length
  run : ∀ (A : Around) (outer : List Env) (s : Shared) (H : Hp) (args : Args) (us : List Value) (vs : List V) (Q : VK) (E : XK),
    Room k A → A.guards = some [] → Env0 P w K mg base A outer s H → BindsTo s fd args (ps.zip us) → Vals vs us → sp vs H Q E →
      codeAny (model P w) A (.call (.ref f) args) (CR (CX P w mg) outer P w H s Q E) s
section
variable {P : Program} {w : World} {K : PySem.W.Frag} {mg : Str → Option Value} {base : Heap} {k : Nat} {f : Addr} {fd : FuncData} {ps : List Str} {sp : Sp}
theorem FnG.mono {j : Nat} (F : FnG P w K mg base j f fd ps sp) (h : j ≤ k) : FnG P w K mg base k f fd ps sp :=
  ⟨F.len, fun A outer s H args us vs Q E hr => F.run A outer s H args us vs Q E (hr.mono h)⟩
theorem FnG.of_body {x qual : Str} {st : Stmt} {N : List Str} (F : Fun K x qual st f fd) (S : FnScope N ps (defScope st)) (len : ∀ vs H Q E, sp vs H Q E → vs.length = ps.length)
    (hbody : ∀ (cdv : Value) (A : Around) (outer : List Env) (s : Shared) (H : Hp) (vs : List V) (Q : VK) (E : XK), CdAt K f cdv →
      Room k (A.deeper (envOfC qual (defScope st) s.heap.objs.size f cdv)) → A.guards = some [] → sp vs H Q E →
        ∃ t, PSs (cxOf (CX P w mg) P w K mg base N qual (defScope st) f cdv A outer s H E) (defBody st) t ∧ t { nx := fun _ H' => Q .non H', rt := Q } (start N vs) H) :
    FnG P w K mg base (k + 1) f fd ps sp := by
  obtain ⟨oc, od, kV, doc, pm, an, cdv, ct, osl, rfl, lk, hcd⟩ := F.ex
  constructor
  · exact len
  intro A outer s H args us vs Q E room gd e0 bind vals hsp
  have up : ∀ b o, base.get? b = some o → s.heap.get? b = some o := fun b o e => (e0.bs b o e).1
  have kin : K.In s.heap := e0.mod.kin.keeps up
  have bound : ∀ y ∈ ps.zip us, (defScope st).names.lookup y.1 = some .local ∨
      ((defScope st).names.lookup y.1 = some .cell ∧ ((cellsFrom (s.heap.objs.size + 1) (defScope st).names []).lookup y.1).isSome = true) := by
    rintro ⟨n, v⟩ hy
    rcases S.par n (List.of_mem_zip hy).1 with q | q
    · exact .inl q
    · exact .inr ⟨q, PySem.W.cellsFrom_some _ _ _ (.inl q)⟩
  refine codeAny_call_function room.depth (kin _ _ lk) rfl S.co S.gen rfl (PySem.W.codeRec_of kin hcd) (bind _ _ _ _ ?_)
  refine wpAny_newFunctionEnv_cells S.kind bound ?_
  intro env henv s1 ic
  subst henv
  refine ⟨(e0.mod.nolimit.keeps up).keeps ic.toInCall.keep, codeAny_func ?_⟩
  obtain ⟨t, der, read⟩ := hbody cdv A outer s H vs Q E ⟨_, _, lk, rfl, rfl⟩ (room.deeper _) gd hsp
  have inv := inv_start (CX := CX P w mg) (E := E) S room.hd e0 (len _ _ _ _ hsp) vals ic
  refine wpAny_mono (der.run [] s1 (start N vs) H _ inv read) ?_ (fun e s' h => h)
  intro fl s' hs
  cases fl with
  | ret u =>
    obtain ⟨v, σ', H', J, rv, q⟩ := hs
    exact ⟨v, H', J.os, J.bare, J.base, J.hok, rv, q⟩
  | next =>
    obtain ⟨σ', H', J, q⟩ := hs
    exact ⟨V.non, H', J.os, J.bare, J.base, J.hok, rfl, q⟩
  | brk => exact (hs.elim fun _ h => h.elim fun _ h => h.2.elim)
  | cont => exact (hs.elim fun _ h => h.elim fun _ h => h.2.elim)
end
theorem FnG.call {X : Cx} {W : WX} {k : Nat} {f : Addr} {fd : FuncData} {ps : List Str} {sp : Sp} {pins : List (Addr × Obj)} {σ : L2.St} {H : Hp} {s : Shared} {Q : VK} {us : List Value} {vs : List V}
    (F : FnG X.prog X.w X.K X.mg X.base k f fd ps sp) (room : Room k X.A) (gd : X.A.guards = some []) (hb : Binds X.K fd ps []) (tk : Takes X W)
    (I : Inv X pins σ H s) (r : Vals vs us) (h : sp vs H Q fun c d H' => W c d σ H') : wpAny (model X.prog X.w) X.A (call (.ref f) us) (EP X pins σ Q) X.xe s := by
  have hl : us.length = ps.length := r.length.symm.trans (F.len _ _ _ _ h)
  have bt := hb s us I.kIn (by rw [List.append_nil]; exact hl)
  rw [List.append_nil] at bt
  refine wpAny_call (codeAny_mono (F.run X.A X.stack s H ⟨us, []⟩ us vs Q _ room gd I.env0 bt r h) ?_)
  intro res s' hq
  cases res with
  | error e => exact tk e s' (XE.of_call I (fun _ _ _ z => z) hq)
  | ok fl =>
    cases fl with
    | ret u => exact I.after hq
    | next => exact hq.elim
    | brk => exact hq.elim
    | cont => exact hq.elim
theorem FnG.law {P : Program} {w : World} {K : PySem.W.Frag} {mg mb : Str → Option Value} {k : Nat} {fa a : Addr} {fd : FuncData} {x : Str} {sp : Sp} {s₁ : Shared} {vs : List Value} {ns : List Int}
    (KX : K.In s₁.heap) (hns : s₁.heap.Ns mainGlobals mg) (hb : s₁.heap.Ns builtinsNs mb) (hbb : ∀ x : Str, x ≠ "__name__" → mb x = bootBuiltins x) (hlim : s₁.heap.NoLimit) (hg : s₁.gens = #[])
    (ha : s₁.heap.get? a = some { cls := .type "list", data := .seq vs.toArray }) (hi : IntsAre vs ns) (hl : ns.length ≤ sizeLine) (room : Room k callerA)
    (F : ∀ base : Heap, K.In base → base.Ns mainGlobals mg → FnG P w K mg base k fa fd [x] sp) (bind : ∀ (s : Shared) (u : Value), BindsTo s fd ⟨[u], []⟩ [(x, u)])
    (hsp : ∀ H : Hp, SqL K H a (ns.map V.int) → sp [.ref a] H (fun v _ => v = .bl true) fun _ _ _ => False) :
    codeAny (model P w) callerA (.call (.ref fa) ⟨[.ref a], []⟩) (fun r s' => r = .ok (.ret (.bool true)) ∧ OldK s₁.heap s'.heap ∧ s'.os = s₁.os ∧ AllBare s'.gens) s₁ := by
  have rv := vals_ints hi
  -- whatever is tracked at first is the script alone
  have main : ∀ H : Hp, Only H → SqL K H a (ns.map V.int) → HOk P w H s₁.heap → (∀ b u, H b = some u → b = a ∧ K.lookup a = none) →
      codeAny (model P w) callerA (.call (.ref fa) ⟨[.ref a], []⟩) (fun r s' => r = .ok (.ret (.bool true)) ∧ OldK s₁.heap s'.heap ∧ s'.os = s₁.os ∧ AllBare s'.gens) s₁ := by
    intro H only sq hok own
    have dictFree : ∀ {b : Addr} {o : Obj} {es : Array DictEntry} {ep : Nat}, s₁.heap.get? b = some o → o.data = .dict es ep → H b = none := by
      intro b o es ep e d
      cases q : H b with
      | none => rfl
      | some u =>
        obtain ⟨rfl, _⟩ := own b u q
        rw [ha] at e
        cases e
        exact absurd d (by simp)
    have ns' : ∀ {b : Addr} {mm : Str → Option Value}, s₁.heap.Ns b mm → (hidT s₁.heap H).Ns b mm := by
      rintro b mm ⟨o, es, ep, e, d, r⟩
      exact ⟨o, es, ep, hidT_get e (dictFree e d), d, r⟩
    have kin : K.In (hidT s₁.heap H) := by
      intro b o e
      refine hidT_get (KX b o e) ?_
      cases q : H b with
      | none => rfl
      | some u =>
        obtain ⟨rfl, z⟩ := own b u q
        rw [z] at e
        cases e
    have md : Mod K mg (hidT s₁.heap H) := by
      obtain ⟨mc, l1, l2⟩ := hlim
      exact ⟨kin, ns' hns, ⟨mb, ns' hb, hbb⟩, ⟨mc, ns' l1, l2⟩⟩
    have env : Env0 P w K mg (hidT s₁.heap H) callerA [] s₁ H := by
      refine ⟨rfl, md, fun b o e => of_hidT e, Nat.le_of_eq (hidT_size _ _), trivial, ?_, hok, .of_eq hg⟩
      intro b z
      simp [frs] at z
    refine codeAny_mono ((F _ kin (ns' hns)).run callerA [] s₁ H ⟨[.ref a], []⟩ [.ref a] [.ref a] _ _ room rfl env (bind s₁ (.ref a)) (.cons rfl .nil) (hsp H sq)) ?_
    intro r s' h
    cases r with
    | error e =>
      obtain ⟨_, _, _, _, _, _, _, _, _, _, _, _, z⟩ := h
      exact z.elim
    | ok fl =>
      cases fl with
      | next => exact h.elim
      | brk => exact h.elim
      | cont => exact h.elim
      | ret u =>
        obtain ⟨v, H', os, bare, un, hok', rel, q⟩ := h
        obtain rfl : v = .bl true := q
        obtain rfl : u = Value.bool true := rel
        refine ⟨rfl, OldK.of_keep ?_, os, bare⟩
        intro b o e
        cases q : H b with
        | none => exact un.keep b o e q (by simp [frs]) (by simp)
        | some u =>
          rcases only b with z | ⟨ob, xs, z⟩
          · rw [q] at z; cases z
          · obtain ⟨e1, _⟩ := hok b _ z
            obtain ⟨e2, _⟩ := hok' b _ (un.frzs b ob _ z)
            rw [e] at e1
            cases e1
            exact e2
  cases hk : K.lookup a with
  | some o =>
    have e := KX a o hk
    rw [ha] at e
    cases e
    refine main (fun _ => none) (fun _ => .inl rfl) (.inr ⟨_, vs.toArray, _, hk, rfl, rfl, rfl, ?_, by simpa using rv⟩) (fun b u z => by cases z) (fun b u z => by cases z)
    rw [List.size_toArray, hi.length]
    exact hl
  | none =>
    refine main (fun b => if b = a then some (.frz { cls := .type "list", data := .seq vs.toArray } (.lst (ns.map V.int))) else none) ?_ (.inl (.inr ⟨{ cls := .type "list", data := .seq vs.toArray }, if_pos rfl⟩)) ?_ ?_
    · intro b
      by_cases hb : b = a
      · exact .inr ⟨_, _, if_pos hb⟩
      · exact .inl (if_neg hb)
    · intro b u z
      dsimp only at z
      by_cases hb : b = a
      · rw [if_pos hb] at z
        cases z
        subst hb
        exact ⟨ha, by rw [List.length_map]; exact hl, vs, _, rv, ha⟩
      · rw [if_neg hb] at z
        cases z
    · intro b u z
      by_cases hb : b = a
      · exact ⟨hb, hk⟩
      · rw [if_neg hb] at z
        cases z
theorem FnG.walk {l : PySem.W.OpenLaw} {n k : Nat} {q : Program} {loose : List Str} {XP : (Str → Option Value) → Heap → Prop} {YP : World → Heap → Prop} {d : DefRec} {K : Params → PySem.W.Frag} {sp : World → Sp} {x : Str}
    (hn : l.most = some n) (hn2 : n ≤ sizeLine) (hdf : d.params.defaults = []) (room : Room k callerA)
    (hY : ∀ (w : World) (h : Heap), YP w h → (K w.params).In h)
    (F : ∀ (w : World) (mg : Str → Option Value) (fa : Addr) (h : Heap), (K w.params).In h → h.Ns mainGlobals mg → mg d.name = some (.ref fa) →
      ∃ fd : FuncData, (∀ (s : Shared) (u : Value), BindsTo s fd ⟨[u], []⟩ [(x, u)]) ∧
        ∀ base : Heap, (K w.params).In base → base.Ns mainGlobals mg → FnG l.prog w (K w.params) mg base k fa fd [x] (sp w))
    (hsp : ∀ (w : World) (H : Hp) (a : Addr) (ns : List Int), ns.length ≤ n → SqL (K w.params) H a (ns.map V.int) → sp w [.ref a] H (fun v _ => v = .bl true) fun _ _ _ => False) :
    PySem.W.WalkO q loose XP YP l.row.toRowW d [] (fun f vs => PySem.call f vs) := by
  refine Att.attach_call hn hdf ?_
  intro w s₀ s₁ mg mb fa o pm cd doc a vs ns G Y ho hd hcd hmg hobj hints hlen hg
  obtain ⟨fd, bind, all⟩ := F w mg fa _ (hY w _ Y) G.T.g hmg
  exact FnG.law (hY w _ Y) G.T.g G.T.b G.T.builtins G.T.nolimit hg hobj hints (Nat.le_trans hlen hn2) room all bind fun H sq => hsp w H a ns hlen sq
end Ev
namespace Ev
open PySem PySem.Spec PyProof.Rows L2
def RX (K : PySem.W.Frag) (g : Gm) (ρ : Rh) (H : Hp) (c : Nat) (fs : List D) (cv : Value) (dd : Option Addr) : Prop :=
  ∃ C, g.ca c = some C ∧ cv = .ref C ∧ ((fs = [] ∧ dd = none) ∨ ∃ a vs, fs ≠ [] ∧ dd = some a ∧ H a = some (.xd ((g.cf c).zip vs)) ∧ ρ.out a ∧ vs.length = (g.cf c).length ∧ RVs K g ρ H fs vs)
section
variable (K : PySem.W.Frag) (g : Gm) (W : WX)
def PostE (σ : L2.St) (ρ : Rh) (H : Hp) (Q : VK) : R D → Prop
  | .ok d m => ∀ ρ' H' v, Grow ρ H ρ' H' → Rel K g ρ' m H' → RV K g ρ' H' d v → Q v H'
  | .exc c fs m => ∀ ρ' H' cv dd, Grow ρ H ρ' H' → Rel K g ρ' m H' → RX K g ρ' H' c fs cv dd → W cv dd σ H'
  | .bad => False
def PostT (σ : L2.St) (ρ : Rh) (H : Hp) (Q : Bool → Hp → Prop) : R D → Prop
  | .ok (.bl b) m => ∀ ρ' H', Grow ρ H ρ' H' → Rel K g ρ' m H' → Q b H'
  | .ok _ _ => False
  | .exc c fs m => ∀ ρ' H' cv dd, Grow ρ H ρ' H' → Rel K g ρ' m H' → RX K g ρ' H' c fs cv dd → W cv dd σ H'
  | .bad => False
def PostA (σ : L2.St) (ρ : Rh) (H : Hp) (Q : List V → Hp → Prop) : R (List D) → Prop
  | .ok ds m => ∀ ρ' H' vs, Grow ρ H ρ' H' → Rel K g ρ' m H' → RVs K g ρ' H' ds vs → Q vs H'
  | .exc c fs m => ∀ ρ' H' cv dd, Grow ρ H ρ' H' → Rel K g ρ' m H' → RX K g ρ' H' c fs cv dd → W cv dd σ H'
  | .bad => False
def tE (f : Sl → Mu → R D) : TE := fun σ H Q => ∃ ρ m s, Rel K g ρ m H ∧ REnv K g ρ H s σ ∧ PostE K g W σ ρ H Q (f s m)
def tT (f : Sl → Mu → R D) : TT := fun σ H Q => ∃ ρ m s, Rel K g ρ m H ∧ REnv K g ρ H s σ ∧ PostT K g W σ ρ H Q (f s m)
def tA (f : Sl → Mu → R (List D)) : TA := fun σ H Q => ∃ ρ m s, Rel K g ρ m H ∧ REnv K g ρ H s σ ∧ PostA K g W σ ρ H Q (f s m)
def PostO (ρ : Rh) (H : Hp) (m : Mu) (Q : VK) : Option D → Prop
  | some d => ∀ ρ' H' v, Grow ρ H ρ' H' → Rel K g ρ' m H' → RV K g ρ' H' d v → Q v H'
  | none => False
def rO (F : Mu → D → D → Option D) : R2 := fun x y H Q => ∃ ρ m d1 d2, Rel K g ρ m H ∧ RV K g ρ H d1 x ∧ RV K g ρ H d2 y ∧ PostO K g ρ H m Q (F m d1 d2)
def rO1 (F : Mu → D → Option D) : V → Hp → VK → Prop := fun x H Q => ∃ ρ m d, Rel K g ρ m H ∧ RV K g ρ H d x ∧ PostO K g ρ H m Q (F m d)
def rOA (F : Mu → List D → Option D) : List V → Hp → VK → Prop := fun xs H Q => ∃ ρ m ds, Rel K g ρ m H ∧ RVs K g ρ H ds xs ∧ PostO K g ρ H m Q (F m ds)
end
section
variable {K : PySem.W.Frag} {g : Gm} {W : WX} {σ : L2.St} {ρ ρ1 : Rh} {H H1 : Hp}
theorem PostE.grow (G : Grow ρ H ρ1 H1) {Q : VK} {r : R D} (h : PostE K g W σ ρ H Q r) : PostE K g W σ ρ1 H1 Q r := by
  cases r with
  | ok d m => exact fun ρ' H' v G' => h ρ' H' v (G.trans G')
  | exc c fs m => exact fun ρ' H' cv dd G' => h ρ' H' cv dd (G.trans G')
  | bad => exact h
theorem PostT.grow (G : Grow ρ H ρ1 H1) {Q : Bool → Hp → Prop} {r : R D} (h : PostT K g W σ ρ H Q r) : PostT K g W σ ρ1 H1 Q r := by
  cases r with
  | ok d m =>
    cases d <;> first | exact h | exact fun ρ' H' G' => h ρ' H' (G.trans G')
  | exc c fs m => exact fun ρ' H' cv dd G' => h ρ' H' cv dd (G.trans G')
  | bad => exact h
theorem PostA.grow (G : Grow ρ H ρ1 H1) {Q : List V → Hp → Prop} {r : R (List D)} (h : PostA K g W σ ρ H Q r) : PostA K g W σ ρ1 H1 Q r := by
  cases r with
  | ok d m => exact fun ρ' H' v G' => h ρ' H' v (G.trans G')
  | exc c fs m => exact fun ρ' H' cv dd G' => h ρ' H' cv dd (G.trans G')
  | bad => exact h
theorem PostO.grow (G : Grow ρ H ρ1 H1) {m : Mu} {Q : VK} {r : Option D} (h : PostO K g ρ H m Q r) : PostO K g ρ1 H1 m Q r := by
  cases r with
  | some d => exact fun ρ' H' v G' => h ρ' H' v (G.trans G')
  | none => exact h
theorem PostE.opt {m : Mu} {Q : VK} {r : Option D} (h : PostE K g W σ ρ H Q (opt m r)) : PostO K g ρ H m Q r := by
  cases r with
  | some d => exact h
  | none => exact h
theorem PostE.first {Q : VK} {r : R D} {k : D → Mu → R D} (h : PostE K g W σ ρ H Q (r.bind k)) {s : Sl} (he : REnv K g ρ H s σ) :
    PostE K g W σ ρ H (fun v H1 => ∃ ρ1 m1 d, Grow ρ H ρ1 H1 ∧ Rel K g ρ1 m1 H1 ∧ REnv K g ρ1 H1 s σ ∧ RV K g ρ1 H1 d v ∧ PostE K g W σ ρ1 H1 Q (k d m1)) r := by
  cases r with
  | ok d m => exact fun ρ' H' v G R V => ⟨ρ', m, d, G, R, he.grow G, V, h.grow G⟩
  | exc c fs m => exact h
  | bad => exact h
theorem PostE.firstA {Q : VK} {r : R (List D)} {k : List D → Mu → R D} (h : PostE K g W σ ρ H Q (r.bind k)) {s : Sl} (he : REnv K g ρ H s σ) :
    PostA K g W σ ρ H (fun v H1 => ∃ ρ1 m1 d, Grow ρ H ρ1 H1 ∧ Rel K g ρ1 m1 H1 ∧ REnv K g ρ1 H1 s σ ∧ RVs K g ρ1 H1 d v ∧ PostE K g W σ ρ1 H1 Q (k d m1)) r := by
  cases r with
  | ok d m => exact fun ρ' H' v G R V => ⟨ρ', m, d, G, R, he.grow G, V, h.grow G⟩
  | exc c fs m => exact h
  | bad => exact h
theorem PostT.first {Q : Bool → Hp → Prop} {r : R D} {k : D → Mu → R D} (h : PostT K g W σ ρ H Q (r.bind k)) {s : Sl} (he : REnv K g ρ H s σ) :
    PostE K g W σ ρ H (fun v H1 => ∃ ρ1 m1 d, Grow ρ H ρ1 H1 ∧ Rel K g ρ1 m1 H1 ∧ REnv K g ρ1 H1 s σ ∧ RV K g ρ1 H1 d v ∧ PostT K g W σ ρ1 H1 Q (k d m1)) r := by
  cases r with
  | ok d m => exact fun ρ' H' v G R V => ⟨ρ', m, d, G, R, he.grow G, V, h.grow G⟩
  | exc c fs m => exact h
  | bad => exact h
theorem blD_some {d : D} {b : Bool} (h : blD d = some b) : d = .bl b := by
  cases d <;> simp [blD] at h
  rw [h]
theorem PostE.firstT {Q : VK} {r : R D} {k : D → Mu → R D} (hk : ∀ d m, blD d = none → k d m = .bad) (h : PostE K g W σ ρ H Q (r.bind k)) {s : Sl} (he : REnv K g ρ H s σ) :
    PostT K g W σ ρ H (fun b H1 => ∃ ρ1 m1, Grow ρ H ρ1 H1 ∧ Rel K g ρ1 m1 H1 ∧ REnv K g ρ1 H1 s σ ∧ PostE K g W σ ρ1 H1 Q (k (.bl b) m1)) r := by
  cases r with
  | ok d m =>
    simp only [bind_k] at h
    cases e : blD d with
    | none =>
      rw [hk d m e] at h
      exact h.elim
    | some b =>
      obtain rfl := blD_some e
      exact fun ρ' H' G R => ⟨ρ', m, G, R, he.grow G, h.grow G⟩
  | exc c fs m => exact h
  | bad => exact h
theorem PostT.firstT {Q : Bool → Hp → Prop} {r : R D} {k : D → Mu → R D} (hk : ∀ d m, blD d = none → k d m = .bad) (h : PostT K g W σ ρ H Q (r.bind k)) {s : Sl} (he : REnv K g ρ H s σ) :
    PostT K g W σ ρ H (fun b H1 => ∃ ρ1 m1, Grow ρ H ρ1 H1 ∧ Rel K g ρ1 m1 H1 ∧ REnv K g ρ1 H1 s σ ∧ PostT K g W σ ρ1 H1 Q (k (.bl b) m1)) r := by
  cases r with
  | ok d m =>
    simp only [bind_k] at h
    cases e : blD d with
    | none =>
      rw [hk d m e] at h
      exact h.elim
    | some b =>
      obtain rfl := blD_some e
      exact fun ρ' H' G R => ⟨ρ', m, G, R, he.grow G, h.grow G⟩
  | exc c fs m => exact h
  | bad => exact h
end
theorem PE.imp {X : Cx} {e : Expr} {t t' : TE} (h : PE X e t) (hi : ∀ σ H Q, t' σ H Q → t σ H Q) : PE X e t' := ⟨fun pins s σ H Q I q => h.run pins s σ H Q I (hi σ H Q q)⟩
theorem PT.imp {X : Cx} {e : Expr} {t t' : TT} (h : PT X e t) (hi : ∀ σ H Q, t' σ H Q → t σ H Q) : PT X e t' := ⟨fun pins s σ H Q I q => h.run pins s σ H Q I (hi σ H Q q)⟩
theorem PW.imp {X : Cx} {e : Expr} {t t' : TT} (h : PW X e t) (hi : ∀ σ H Q, t' σ H Q → t σ H Q) : PW X e t' := ⟨fun wh pins s σ H Q I q => h.run wh pins s σ H Q I (hi σ H Q q)⟩
theorem PA.imp {X : Cx} {e : List Expr} {t t' : TA} (h : PA X e t) (hi : ∀ σ H Q, t' σ H Q → t σ H Q) : PA X e t' := ⟨fun p pins s σ H Q I q => h.run p pins s σ H Q I (hi σ H Q q)⟩
theorem PS.imp {X : Cx} {e : Stmt} {t t' : TS} (h : PS X e t) (hi : ∀ D σ H, t' D σ H → t D σ H) : PS X e t' := ⟨fun pins s σ H D I q => h.run pins s σ H D I (hi D σ H q)⟩
theorem PSs.imp {X : Cx} {e : List Stmt} {t t' : TS} (h : PSs X e t) (hi : ∀ D σ H, t' D σ H → t D σ H) : PSs X e t' := ⟨fun pins s σ H D I q => h.run pins s σ H D I (hi D σ H q)⟩
section
variable {X : Cx} {g : Gm} {W : WX} {a b c : Expr} {fa fb fc : Sl → Mu → R D} {pos : Pos}
theorem RV.truth {K : PySem.W.Frag} {ρ : Rh} {H : Hp} {m : Mu} (r : Rel K g ρ m H) {d : D} {v : V} {k : Bool} (h : RV K g ρ H d v) (e : truthD m d = some k) : TruV K v H k := by
  have seq : ∀ {xs}, seqD m d = some xs → k = !xs.isEmpty → TruV K v H k := by
    intro xs hx hk
    obtain ⟨a, vs, rfl, hs, hr⟩ := h.seq r hx
    rw [hr.isEmpty] at hk
    rcases hs with hs | hs
    · exact .inl ⟨vs, hs, hk⟩
    · exact .inr (.inl ⟨vs, hs.1, hk⟩)
  cases h with
  | non => simp [truthD] at e; exact e
  | bl b => simp [truthD] at e; exact e.symm
  | int i => simp [truthD] at e; exact e.symm
  | str x =>
    simp only [truthD] at e
    split at e
    · rename_i hl
      cases e
      refine ⟨hl, ?_⟩
      cases hx : x.length with
      | zero => rfl
      | succ n => simp; omega
    · cases e
  | tup h1 h2 => simp only [truthD, Option.map_eq_some_iff] at e; obtain ⟨xs, e1, e2⟩ := e; exact seq e1 e2.symm
  | lst h1 h2 h3 => simp only [truthD, Option.map_eq_some_iff] at e; obtain ⟨xs, e1, e2⟩ := e; exact seq e1 e2.symm
  | scr h1 => simp only [truthD, Option.map_eq_some_iff] at e; obtain ⟨xs, e1, e2⟩ := e; exact seq e1 e2.symm
  | ref h1 => simp only [truthD, Option.map_eq_some_iff] at e; obtain ⟨xs, e1, e2⟩ := e; exact seq e1 e2.symm
  | dct h1 h2 => simp [truthD, seqD] at e
  | xo0 _ _ _ => simp [truthD, seqD] at e
  | xo1 _ _ _ _ _ _ _ _ => simp [truthD, seqD] at e
  | dks _ _ _ _ _ _ => simp [truthD, seqD] at e
  | dcn _ _ _ _ _ _ _ _ _ => simp [truthD, seqD] at e
  | tts _ _ _ _ => simp [truthD, seqD] at e
  | lam _ _ _ _ _ => simp [truthD, seqD] at e
  | fn h1 => simp [truthD, seqD] at e
  | cls h1 => simp [truthD, seqD] at e
  | ty n => simp [truthD, seqD] at e
theorem r_test (ha : PE X a (tE X.K g W fa)) (he : ∀ whole, isTrue a X.env whole = (do let v ← whole; standAt a.pos; holding [v] (truthy v))) : PT X a (tT X.K g W fun s m => tst true (fa s m)) := by
  refine PT.imp (pt_truth ha he) fun σ H Q h => ?_
  obtain ⟨ρ, m, s, R, E, P⟩ := h
  refine ⟨ρ, m, s, R, E, ?_⟩
  simp only [tst_t] at P
  try dsimp only at P
  revert P
  cases fa s m with
  | ok d m1 =>
    intro P ρ' H' v G R' V
    simp only [bind_k] at P
    cases e : truthD m1 d with
    | none => rw [e] at P; exact P.elim
    | some k =>
      rw [e] at P
      exact ⟨k, V.truth R' e, P ρ' H' G R'⟩
  | exc c fs m1 => intro P; exact P
  | bad => intro P; exact P
theorem r_testB {ta : TE} (ha : PT X a (tTest ta)) (hi : ∀ σ H Q, tE X.K g W fa σ H Q → ta σ H Q) (hb : ∀ s m d m', fa s m = .ok d m' → ∃ k, d = .bl k) : PT X a (tT X.K g W fun s m => tst true (fa s m)) := by
  refine PT.imp ha fun σ H Q h => hi σ H _ ?_
  obtain ⟨ρ, m, s, R, E, P⟩ := h
  refine ⟨ρ, m, s, R, E, ?_⟩
  simp only [tst_t] at P
  have hb' := hb s m
  try dsimp only at P
  revert P hb'
  cases fa s m with
  | ok d m1 =>
    intro P hb' ρ' H' v G R' V
    obtain ⟨k, rfl⟩ := hb' d m1 rfl
    cases V
    exact ⟨k, rfl, P ρ' H' G R'⟩
  | exc c fs m1 => intro P _; exact P
  | bad => intro P _; exact P
theorem r_var {i : Nat} {x : Str} (hN : X.N[i]? = some x) (hv : Vis X.env.scope x) (hd : (x == ("__debug__" : Str)) = false) (hcd : (x == ("__classdict__" : Str)) = false) :
    PE X (.Name x pos) (tE X.K g W fun s m => match s[i]? with | some (some d) => .ok d m | _ => .bad) := by
  refine PE.imp (pe_var hN hv hd hcd) fun σ H Q h => ?_
  obtain ⟨ρ, m, s, R, E, P⟩ := h
  dsimp only at P
  cases e : s[i]? with
  | none => rw [e] at P; exact P.elim
  | some o =>
    cases o with
    | none => rw [e] at P; exact P.elim
    | some d =>
      rw [e] at P
      obtain ⟨v, e1, r⟩ := E.at_ i d e
      exact ⟨v, e1, P ρ H v .refl R r⟩
theorem r_cst {d : D} {v : V} {ex : Expr} (h : PE X ex (tC v)) (hv : ∀ ρ H, RV X.K g ρ H d v) : PE X ex (tE X.K g W fun _ m => .ok d m) :=
  PE.imp h fun σ H Q ⟨ρ, m, s, R, E, P⟩ => P ρ H v .refl R (hv ρ H)
theorem r_nil : PA X [] (tA X.K g W fun _ m => .ok [] m) :=
  PA.imp pa_nil fun σ H Q ⟨ρ, m, s, R, E, P⟩ => P ρ H [] .refl R .nil
theorem r_cons {es : List Expr} {fr : Sl → Mu → R (List D)} (ha : PE X a (tE X.K g W fa)) (hr : PA X es (tA X.K g W fr)) (hs : starEach (a :: es) X.env = (false, eval a X.env) :: starEach es X.env) :
    PA X (a :: es) (tA X.K g W fun s m => (fa s m).bind fun d m => (fr s m).bind fun ds m => .ok (d :: ds) m) := by
  refine PA.imp (pa_cons ha hr hs) fun σ H Q h => ?_
  obtain ⟨ρ, m, s, R, E, P⟩ := h
  refine ⟨ρ, m, s, R, E, ?_⟩
  try dsimp only at P
  revert P
  cases fa s m with
  | ok d m1 =>
    intro P ρ1 H1 v G1 R1 V1
    refine ⟨ρ1, m1, s, R1, E.grow G1, ?_⟩
    have P1 : PostA X.K g W σ ρ1 H1 Q ((fr s m1).bind fun ds m => .ok (d :: ds) m) := PostA.grow G1 P
    revert P1
    cases fr s m1 with
    | ok ds m2 => intro P1 ρ2 H2 vs G2 R2 V2; exact P1 ρ2 H2 (v :: vs) G2 R2 (.cons (V1.grow G2) V2)
    | exc c fs m2 => intro P1; exact P1
    | bad => intro P1; exact P1
  | exc c fs m1 => intro P; exact P
  | bad => intro P; exact P
theorem r_op1 {F : Mu → D → Option D} {ex : Expr} (h : PE X ex (tUn (rO1 X.K g F) (tE X.K g W fa))) :
    PE X ex (tE X.K g W fun s m => (fa s m).bind fun x m => opt m (F m x)) := by
  refine PE.imp h fun σ H Q h => ?_
  obtain ⟨ρ, m, s, R, E, P⟩ := h
  refine ⟨ρ, m, s, R, E, ?_⟩
  try dsimp only at P
  revert P
  cases fa s m with
  | ok d m1 =>
    intro P ρ1 H1 v G1 R1 V1
    exact ⟨ρ1, m1, d, R1, V1, (PostE.opt P).grow G1⟩
  | exc c fs m1 => intro P; exact P
  | bad => intro P; exact P
theorem r_opA {F : Mu → List D → Option D} {ex : Expr} {fr : Sl → Mu → R (List D)} (h : PE X ex (tCB (rOA X.K g F) (tA X.K g W fr))) :
    PE X ex (tE X.K g W fun s m => (fr s m).bind fun ds m => opt m (F m ds)) := by
  refine PE.imp h fun σ H Q h => ?_
  obtain ⟨ρ, m, s, R, E, P⟩ := h
  refine ⟨ρ, m, s, R, E, ?_⟩
  try dsimp only at P
  revert P
  cases fr s m with
  | ok ds m1 =>
    intro P ρ1 H1 vs G1 R1 V1
    exact ⟨ρ1, m1, ds, R1, V1, (PostE.opt P).grow G1⟩
  | exc c fs m1 => intro P; exact P
  | bad => intro P; exact P
theorem r_tup {es : List Expr} {x1 : Nat} {fr : Sl → Mu → R (List D)} (h : PA X es (tA X.K g W fr)) (hl : ∀ s m ds m', fr s m = .ok ds m' → ds.length ≤ sizeLine) :
    PE X (.Tuple es x1 pos) (tE X.K g W fun s m => (fr s m).bind fun ds m => .ok (.tup ds) m) := by
  refine PE.imp (pe_tup h) fun σ H Q h => ?_
  obtain ⟨ρ, m, s, R, E, P⟩ := h
  refine ⟨ρ, m, s, R, E, ?_⟩
  have hl' := hl s m
  try dsimp only at P
  revert P hl'
  cases fr s m with
  | ok ds m1 =>
    intro P hl' ρ1 H1 vs G1 R1 V1
    refine ⟨by rw [← V1.length]; exact hl' ds m1 rfl, fun p hp => ?_⟩
    have G2 : Grow ρ1 H1 ρ1 (upd H1 p (.tup vs)) := Grow.new hp
    exact P ρ1 _ (.ref p) (G1.trans G2) (R1.new hp) (.tup (TkT.of upd_same) (V1.grow G2))
  | exc c fs m1 => intro P _; exact P
  | bad => intro P _; exact P
theorem r_lst {es : List Expr} {fr : Sl → Mu → R (List D)} (h : PA X es (tA X.K g W fr)) (hl : ∀ s m ds m', fr s m = .ok ds m' → ds.length ≤ sizeLine) :
    PE X (.List es pos) (tE X.K g W fun s m => (fr s m).bind fun ds m => .ok (.lst ds) m) := by
  refine PE.imp (pe_lst h) fun σ H Q h => ?_
  obtain ⟨ρ, m, s, R, E, P⟩ := h
  refine ⟨ρ, m, s, R, E, ?_⟩
  have hl' := hl s m
  try dsimp only at P
  revert P hl'
  cases fr s m with
  | ok ds m1 =>
    intro P hl' ρ1 H1 vs G1 R1 V1
    refine ⟨by rw [← V1.length]; exact hl' ds m1 rfl, fun p hp => ?_⟩
    have G2 : Grow ρ1 H1 ρ1 (upd H1 p (.lst vs)) := Grow.new hp
    exact P ρ1 _ (.ref p) (G1.trans G2) (R1.new hp) (.lst upd_same (R1.out hp) (V1.grow G2))
  | exc c fs m1 => intro P _; exact P
  | bad => intro P _; exact P
theorem r_lstL {es : List Expr} {fr : Sl → Mu → R (List D)} (h : PA X es (tA X.K g W fr)) (hl : ∀ s m ds m', fr s m = .ok ds m' → ds.length ≤ sizeLine) :
    PE X (.List es pos) (tE X.K g W fun s m => (fr s m).bind fun ds m => .ok (.ref m.length) (m ++ [.lst ds])) := by
  refine PE.imp (pe_lst h) fun σ H Q h => ?_
  obtain ⟨ρ, m, s, R, E, P⟩ := h
  refine ⟨ρ, m, s, R, E, ?_⟩
  have hl' := hl s m
  try dsimp only at P
  revert P hl'
  cases fr s m with
  | ok ds m1 =>
    intro P hl' ρ1 H1 vs G1 R1 V1
    refine ⟨by rw [← V1.length]; exact hl' ds m1 rfl, fun p hp => ?_⟩
    refine P (ρ1.add p) _ (.ref p) (G1.trans (Grow.newL hp)) (R1.newL hp V1) (.ref ?_)
    rw [R1.len, List.getElem?_append_right (Nat.le_refl _), Nat.sub_self]
    rfl
  | exc c fs m1 => intro P _; exact P
  | bad => intro P _; exact P
end
end Ev
namespace Ev
open PySem PySem.Spec PyProof.Rows L2
theorem lex_ge : ∀ (ns ms : List Int) (i : Nat) (e r : Nat → Bool), (∀ j, e (i + j) = decide (ns.getD j 0 = ms.getD j 0)) → (∀ j, r (i + j) = decide (ms.getD j 0 ≤ ns.getD j 0)) →
    Ob.lexAt e r (decide (ms.length ≤ ns.length)) i (min ns.length ms.length) = geI ns ms
  | ns, [], i, e, r, _, _ => by cases ns <;> simp [Ob.lexAt, geI]
  | [], m :: ms, i, e, r, _, _ => by simp [Ob.lexAt, geI]
  | n :: ns, m :: ms, i, e, r, he, hr => by
    have h0 := he 0
    have r0 := hr 0
    simp only [Nat.add_zero, List.getD_cons_zero] at h0 r0
    have ih := lex_ge ns ms (i + 1) e r (fun j => by have := he (j + 1); rw [show i + 1 + j = i + (j + 1) by omega]; simpa using this) (fun j => by have := hr (j + 1); rw [show i + 1 + j = i + (j + 1) by omega]; simpa using this)
    rw [show min (n :: ns).length (m :: ms).length = min ns.length ms.length + 1 by simp [Nat.succ_min_succ], Ob.lexAt_succ, h0, r0]
    simp only [geI, List.length_cons, Nat.add_le_add_iff_right, decide_eq_true_eq]
    split
    · exact ih
    · rfl
theorem lex_lt : ∀ (ns ms : List Int) (i : Nat) (e r : Nat → Bool), (∀ j, e (i + j) = decide (ns.getD j 0 = ms.getD j 0)) → (∀ j, r (i + j) = decide (ns.getD j 0 < ms.getD j 0)) →
    Ob.lexAt e r (decide (ns.length < ms.length)) i (min ns.length ms.length) = ltI ns ms
  | ns, [], i, e, r, _, _ => by cases ns <;> simp [Ob.lexAt, ltI]
  | [], m :: ms, i, e, r, _, _ => by simp [Ob.lexAt, ltI]
  | n :: ns, m :: ms, i, e, r, he, hr => by
    have h0 := he 0
    have r0 := hr 0
    simp only [Nat.add_zero, List.getD_cons_zero] at h0 r0
    have ih := lex_lt ns ms (i + 1) e r (fun j => by have := he (j + 1); rw [show i + 1 + j = i + (j + 1) by omega]; simpa using this) (fun j => by have := hr (j + 1); rw [show i + 1 + j = i + (j + 1) by omega]; simpa using this)
    rw [show min (n :: ns).length (m :: ms).length = min ns.length ms.length + 1 by simp [Nat.succ_min_succ], Ob.lexAt_succ, h0, r0]
    simp only [ltI, List.length_cons, Nat.add_lt_add_iff_right, decide_eq_true_eq]
    split
    · exact ih
    · rfl
section
variable {X : Cx} {g : Gm} {pins : List (Addr × Obj)} {σ : L2.St} {H : Hp} {s : Shared}
theorem rc_ge (I : Inv X pins σ H s) {A : Around} (hu : A.units < cLine) {a b : Addr} {ns ms : List Int} (ha : SqT X.K H a (ns.map V.int)) (hb : SqT X.K H b (ms.map V.int)) : Ob.RcOp .GtE A s (.ref a) (.ref b) (geI ns ms) := by
  obtain ⟨its, r1, p1, _⟩ := I.tuple ha
  obtain ⟨its2, r2, p2, _⟩ := I.tuple hb
  have i1 : IntsAre its ns := Vals.ints r1
  have i2 : IntsAre its2 ms := Vals.ints r2
  have e1 : its.toArray.size = ns.length := by rw [List.size_toArray]; exact i1.length
  have e2 : its2.toArray.size = ms.length := by rw [List.size_toArray]; exact i2.length
  have at1 : ∀ j (h1 : j < its.toArray.size), ∃ t, its.toArray[j] = .int (ns.getD j 0) t := fun j h1 => PyProof.Rows.IntsAre.int_at i1 _ _ (by simp at h1; simp [h1])
  have at2 : ∀ j (h1 : j < its2.toArray.size), ∃ t, its2.toArray[j] = .int (ms.getD j 0) t := fun j h1 => PyProof.Rows.IntsAre.int_at i2 _ _ (by simp at h1; simp [h1])
  have R := Ob.RcOp.tuples_ge (A := A) (s := s) (e := fun j => decide (ns.getD j 0 = ms.getD j 0)) (r := fun j => decide (ms.getD j 0 ≤ ns.getD j 0)) p1 p2 hu (fun j h1 h2 => by
    obtain ⟨t, et⟩ := at1 j h1
    obtain ⟨t', et'⟩ := at2 j h2
    rw [et, et']
    have z : (ns.getD j 0 == ms.getD j 0) = decide (ns.getD j 0 = ms.getD j 0) := by
      by_cases q : ns.getD j 0 = ms.getD j 0
      · rw [decide_eq_true q]; exact beq_iff_eq.mpr q
      · rw [decide_eq_false q]; exact beq_eq_false_iff_ne.mpr q
    rw [← z]
    exact SeqAt.EqAt.int_int _ _ _ _) (fun j h1 h2 _ => by
    obtain ⟨t, et⟩ := at1 j h1
    obtain ⟨t', et'⟩ := at2 j h2
    rw [et, et']
    exact Ob.RcOp.ge_int _ _ _ _)
  rw [e1, e2] at R
  rw [← lex_ge ns ms 0 (fun j => decide (ns.getD j 0 = ms.getD j 0)) (fun j => decide (ms.getD j 0 ≤ ns.getD j 0)) (fun j => by rw [Nat.zero_add]) (fun j => by rw [Nat.zero_add])]
  exact R
theorem rc_lt (I : Inv X pins σ H s) {A : Around} (hu : A.units < cLine) {a b : Addr} {ns ms : List Int} (ha : SqT X.K H a (ns.map V.int)) (hb : SqT X.K H b (ms.map V.int)) : Ob.RcOp .Lt A s (.ref a) (.ref b) (ltI ns ms) := by
  obtain ⟨its, r1, p1, _⟩ := I.tuple ha
  obtain ⟨its2, r2, p2, _⟩ := I.tuple hb
  have i1 : IntsAre its ns := Vals.ints r1
  have i2 : IntsAre its2 ms := Vals.ints r2
  have e1 : its.toArray.size = ns.length := by rw [List.size_toArray]; exact i1.length
  have e2 : its2.toArray.size = ms.length := by rw [List.size_toArray]; exact i2.length
  have at1 : ∀ j (h1 : j < its.toArray.size), ∃ t, its.toArray[j] = .int (ns.getD j 0) t := fun j h1 => PyProof.Rows.IntsAre.int_at i1 _ _ (by simp at h1; simp [h1])
  have at2 : ∀ j (h1 : j < its2.toArray.size), ∃ t, its2.toArray[j] = .int (ms.getD j 0) t := fun j h1 => PyProof.Rows.IntsAre.int_at i2 _ _ (by simp at h1; simp [h1])
  have R := Ob.RcOp.tuples_lt (A := A) (s := s) (e := fun j => decide (ns.getD j 0 = ms.getD j 0)) (r := fun j => decide (ns.getD j 0 < ms.getD j 0)) p1 p2 hu (fun j h1 h2 => by
    obtain ⟨t, et⟩ := at1 j h1
    obtain ⟨t', et'⟩ := at2 j h2
    rw [et, et']
    have z : (ns.getD j 0 == ms.getD j 0) = decide (ns.getD j 0 = ms.getD j 0) := by
      by_cases q : ns.getD j 0 = ms.getD j 0
      · rw [decide_eq_true q]; exact beq_iff_eq.mpr q
      · rw [decide_eq_false q]; exact beq_eq_false_iff_ne.mpr q
    rw [← z]
    exact SeqAt.EqAt.int_int _ _ _ _) (fun j h1 h2 _ => by
    obtain ⟨t, et⟩ := at1 j h1
    obtain ⟨t', et'⟩ := at2 j h2
    rw [et, et']
    exact Ob.RcOp.lt_int _ _ _ _)
  rw [e1, e2] at R
  rw [← lex_lt ns ms 0 (fun j => decide (ns.getD j 0 = ms.getD j 0)) (fun j => decide (ns.getD j 0 < ms.getD j 0)) (fun j => by rw [Nat.zero_add]) (fun j => by rw [Nat.zero_add])]
  exact R
theorem rvs_ints {ρ : Rh} : ∀ {xs : List D} {vs : List V} {ns : List Int}, RVs X.K g ρ H xs vs → allD intD xs = some ns → vs = ns.map V.int
  | [], _, ns, .nil, e => by cases e; rfl
  | x :: xs, _, ns, .cons h r, e => by
    simp only [allD] at e
    cases x with
    | int i =>
      simp only [intD] at e
      cases e2 : allD intD xs with
      | none => rw [e2] at e; cases e
      | some l =>
        rw [e2] at e
        cases e
        cases h
        rw [rvs_ints r e2]
        rfl
    | _ => simp [intD] at e
theorem row_sq {ρ : Rh} {x : D} {v : V} {ns : List Int} (h : RV X.K g ρ H x v) (e : rowI x = some ns) : ∃ a, v = .ref a ∧ SqT X.K H a (ns.map V.int) := by
  cases x with
  | tup xs =>
    cases h with
    | tup hs hr =>
      have := rvs_ints hr e
      subst this
      exact ⟨_, rfl, hs.1⟩
  | _ => simp [rowI] at e
theorem pyI' (m : Mu) : ∀ {xs : List D} {ns : List Int}, allD intD xs = some ns → pyDs m xs = some (ns.map PyData.int)
  | [], ns, e => by cases e; rfl
  | x :: xs, ns, e => by
    simp only [allD] at e
    cases x with
    | int i =>
      simp only [intD] at e
      cases e2 : allD intD xs with
      | none => rw [e2] at e; cases e
      | some l =>
        rw [e2] at e
        cases e
        simp only [pyDs, pyD, pyI' m e2]
        rfl
    | _ => simp [intD] at e
theorem row_py (m : Mu) {x : D} {ns : List Int} (e : rowI x = some ns) : pyD m x = some (.tuple (ns.map PyData.int)) := by
  cases x with
  | tup xs => simp only [pyD, pyI' m (show allD intD xs = some ns from e)]; rfl
  | _ => simp [rowI] at e
theorem eqv_rows : ∀ a b : List Int, PyData.eqvAll (a.map PyData.int) (b.map PyData.int) = decide (a = b)
  | [], [] => by simp [PyData.eqvAll]
  | [], _ :: _ => by simp [PyData.eqvAll]
  | _ :: _, [] => by simp [PyData.eqvAll]
  | i :: a, j :: b => by
    simp only [List.map_cons, PyData.eqvAll, eqv_rows a b, PyData.eqv, List.cons.injEq]
    by_cases h : i = j
    · simp [h]
    · simp [h]
theorem layI : ∀ ns : List Int, PyData.canLayAll0 (ns.map .int) = true ∧ PyData.depthAll (ns.map .int) = 0
  | [] => ⟨rfl, rfl⟩
  | _ :: r => by simp [PyData.canLayAll0, PyData.canLay0, PyData.depthAll, PyData.depth, layI r]
theorem rc_geP (I : Inv X pins σ H s) {A : Around} (hu : A.units + 4 < cLine) {a b a1 a2 b1 b2 : Addr} {n1 n2 m1 m2 : List Int} (ha : SqT X.K H a [.ref a1, .ref a2]) (hb : SqT X.K H b [.ref b1, .ref b2])
    (h1 : SqT X.K H a1 (n1.map V.int)) (h2 : SqT X.K H a2 (n2.map V.int)) (k1 : SqT X.K H b1 (m1.map V.int)) (k2 : SqT X.K H b2 (m2.map V.int))
    (d1 : Dp X.K H (.ref a1) (.tuple (n1.map .int))) (d2 : Dp X.K H (.ref a2) (.tuple (n2.map .int))) (e1 : Dp X.K H (.ref b1) (.tuple (m1.map .int))) (e2 : Dp X.K H (.ref b2) (.tuple (m2.map .int))) :
    Ob.RcOp .GtE A s (.ref a) (.ref b) (geP (n1, n2) (m1, m2)) := by
  obtain ⟨its, r1, p1, _⟩ := I.tuple ha
  obtain ⟨its2, r2, p2, _⟩ := I.tuple hb
  obtain ⟨u1, u2, rfl⟩ : ∃ u1 u2, its = [u1, u2] := by
    cases r1 with
    | cons x r => cases r with
      | cons y r => cases r; exact ⟨_, _, rfl⟩
  obtain ⟨w1, w2, rfl⟩ : ∃ u1 u2, its2 = [u1, u2] := by
    cases r2 with
    | cons x r => cases r with
      | cons y r => cases r; exact ⟨_, _, rfl⟩
  obtain ⟨rfl, rfl⟩ : u1 = .ref a1 ∧ u2 = .ref a2 := by
    cases r1 with
    | cons x r => cases r with
      | cons y r => exact ⟨x, y⟩
  obtain ⟨rfl, rfl⟩ : w1 = .ref b1 ∧ w2 = .ref b2 := by
    cases r2 with
    | cons x r => cases r with
      | cons y r => exact ⟨x, y⟩
  have hu1 : A.in1.units < cLine := by
    show A.units + 1 < cLine
    omega
  have eq : ∀ {x y : Addr} {n m : List Int}, Dp X.K H (.ref x) (.tuple (n.map .int)) → Dp X.K H (.ref y) (.tuple (m.map .int)) → SeqAt.EqAt A.in1 s (.ref x) (.ref y) (decide (n = m)) := by
    intro x y n m hx hy
    obtain ⟨as, ra⟩ := Dp.reads I _ _ (.ref x) hx rfl
    obtain ⟨bs, rb⟩ := Dp.reads I _ _ (.ref y) hy rfl
    have := SeqAt.eqAt_reads _ _ A.in1 s _ _ as bs ra rb (by simpa [PyData.canLay0] using (layI n).1) (by simpa [PyData.canLay0] using (layI m).1) (by
      show A.units + 1 + _ < cLine
      simp only [PyData.depth, (layI n).2, (layI m).2]
      omega)
    simp only [PyData.eqv, eqv_rows] at this
    exact this
  have R := Ob.RcOp.tuples_ge (A := A) (s := s) (e := fun j => match j with | 0 => decide (n1 = m1) | _ => decide (n2 = m2)) (r := fun j => match j with | 0 => geI n1 m1 | _ => geI n2 m2) p1 p2 (by omega) (fun j q1 q2 => by
    have : j = 0 ∨ j = 1 := by simp at q1; omega
    rcases this with rfl | rfl
    · exact eq d1 e1
    · exact eq d2 e2) (fun j q1 q2 _ => by
    have : j = 0 ∨ j = 1 := by simp at q1; omega
    rcases this with rfl | rfl
    · exact rc_ge I hu1 h1 k1
    · exact rc_ge I hu1 h2 k2)
  have z : Ob.lexAt (fun j => match j with | 0 => decide (n1 = m1) | _ => decide (n2 = m2)) (fun j => match j with | 0 => geI n1 m1 | _ => geI n2 m2) (decide ([Value.ref b1, .ref b2].toArray.size ≤ [Value.ref a1, .ref a2].toArray.size)) 0 (min [Value.ref a1, .ref a2].toArray.size [Value.ref b1, .ref b2].toArray.size) = geP (n1, n2) (m1, m2) := by
    show Ob.lexAt _ _ _ 0 2 = _
    rw [Ob.lexAt_succ, Ob.lexAt_succ, Ob.lexAt_zero]
    simp [geP]
  rw [← z]
  exact R
theorem op_ordT {op : CmpOp} {f : Int → Int → Bool} {h : D → D → Option Bool} (hop : OpR X (compareOp op) (rI0 fun i j => .bl (f i j)))
    (hT : ∀ {pins : List (Addr × Obj)} {s : Shared} {σ : L2.St} {H : Hp} {Q : VK} {ρ : Rh} {m : Mu} {d1 d2 : D} {x y : V} {v u : Value} {k : Bool}, Inv X pins σ H s → Rel X.K g ρ m H → RV X.K g ρ H d1 x → RV X.K g ρ H d2 y → RelV x v → RelV y u → h d1 d2 = some k → Q (.bl k) H → wpAny (model X.prog X.w) X.A (compareOp op v u) (EP X pins σ Q) X.xe s) :
    OpR X (compareOp op) (rO X.K g fun _ x y => (ordT f h x y).map .bl) := by
  intro pins s σ H x y v u Q I rx ry hh
  obtain ⟨ρ, m, d1, d2, R, h1, h2, P⟩ := hh
  have other : ordT f h d1 d2 = h d1 d2 → wpAny (model X.prog X.w) X.A (compareOp op v u) (EP X pins σ Q) X.xe s := by
    intro e
    dsimp only at P
    rw [e] at P
    cases e2 : h d1 d2 with
    | none => rw [e2] at P; exact P.elim
    | some k => rw [e2] at P; exact hT I R h1 h2 rx ry e2 (P ρ H _ .refl R (.bl _))
  cases h1 with
  | int i =>
    cases h2 with
    | int j => exact hop pins s σ H _ _ v u Q I rx ry ⟨_, _, rfl, rfl, P ρ H _ .refl R (.bl _)⟩
    | _ => exact other rfl
  | _ => exact other (by cases d2 <;> rfl)
theorem op_ltTM (hu : X.A.units + 64 < cLine) (hop : OpR X (compareOp .Lt) (rI0 fun i j => .bl (decide (i < j)))) : OpR X (compareOp .Lt) (rO X.K g fun _ x y => (ordT (fun i j => decide (i < j)) ltT x y).map .bl) := by
  refine op_ordT hop fun {pins s σ H Q ρ m d1 d2 x y v u k} I R h1 h2 rx ry e q => ?_
  unfold ltT at e
  split at e
  · rename_i a b e1 e2
    cases e
    obtain ⟨p, rfl, s1⟩ := row_sq h1 e1
    obtain ⟨p2, rfl, s2⟩ := row_sq h2 e2
    cases rx
    cases ry
    have z : wpAny (model X.prog X.w) X.A (compareOp .Lt (.ref p) (.ref p2)) (EP X pins σ Q) X.xe s := rc_lt I (by omega) s1 s2 X.prog X.w X.xe (EP X pins σ Q) ⟨.bl _, H, I, rfl, q⟩
    exact z
  · cases e
theorem ordP_rv {pins : List (Addr × Obj)} {s : Shared} {σ : L2.St} {H : Hp} {ρ : Rh} {d1 d2 : D} {x y : V} {v u : Value} {k : Bool} {f : PyData → PyData → Bool} (I : Inv X pins σ H s) (h1 : RV X.K g ρ H d1 x) (h2 : RV X.K g ρ H d2 y) (rx : RelV x v) (ry : RelV y u) (e : ordP f d1 d2 = some k) :
    ∃ a b as bs, Reads s.heap v a as ∧ Reads s.heap u b bs ∧ PySem.W.alike a b = true ∧ a ≠ .none ∧ a.depth ≤ 60 ∧ k = f a b := by
  unfold ordP at e
  split at e
  · rename_i a b e1 e2
    split at e
    · rename_i hc
      simp only [Bool.and_eq_true, decide_eq_true_eq] at hc
      obtain ⟨⟨⟨⟨c1, c2⟩, c3⟩, c4⟩, c5⟩ := hc
      cases e
      obtain ⟨as, ra⟩ := Dp.reads I _ _ v (h1.dp e1 c3) rx
      obtain ⟨bs, rb⟩ := Dp.reads I _ _ u (h2.dp e2 c4) ry
      exact ⟨a, b, as, bs, ra, rb, c1, fun z => (by rw [z] at c2; cases c2), c5, rfl⟩
    · cases e
  · cases e
theorem op_gtTM (hu : X.A.units + 64 < cLine) (hop : OpR X (compareOp .Gt) (rI0 fun i j => .bl (decide (j < i)))) : OpR X (compareOp .Gt) (rO X.K g fun _ x y => (ordT (fun i j => decide (j < i)) gtT x y).map .bl) := by
  refine op_ordT hop fun {pins s σ H Q ρ m d1 d2 x y v u k} I R h1 h2 rx ry e q => ?_
  obtain ⟨a, b, as, bs, ra, rb, c1, c2, c3, rfl⟩ := ordP_rv I h1 h2 rx ry e
  have z : wpAny (model X.prog X.w) X.A (compareOp .Gt v u) (EP X pins σ Q) X.xe s := PySem.W.rcGt_alike a b X.A s v u as bs ra rb c1 c2 (by omega) X.prog X.w X.xe (EP X pins σ Q) ⟨.bl _, H, I, rfl, q⟩
  exact z
theorem op_geTM (hu : X.A.units + 64 < cLine) (hop : OpR X (compareOp .GtE) (rI0 fun i j => .bl (decide (j ≤ i)))) : OpR X (compareOp .GtE) (rO X.K g fun _ x y => (ordT (fun i j => decide (j ≤ i)) geT x y).map .bl) := by
  refine op_ordT hop fun {pins s σ H Q ρ m d1 d2 x y v u k} I R h1 h2 rx ry e q => ?_
  unfold geT at e
  split at e
  · rename_i a b e1 e2
    cases e
    obtain ⟨p, rfl, s1⟩ := row_sq h1 e1
    obtain ⟨p2, rfl, s2⟩ := row_sq h2 e2
    cases rx
    cases ry
    have z : wpAny (model X.prog X.w) X.A (compareOp .GtE (.ref p) (.ref p2)) (EP X pins σ Q) X.xe s := rc_ge I (by omega) s1 s2 X.prog X.w X.xe (EP X pins σ Q) ⟨.bl _, H, I, rfl, q⟩
    exact z
  · split at e
    · rename_i a b e1 e2
      cases e
      have pr : ∀ {d : D} {v : V} {a : List Int × List Int}, RV X.K g ρ H d v → prI d = some a → ∃ p p1 p2, v = .ref p ∧ SqT X.K H p [.ref p1, .ref p2] ∧ SqT X.K H p1 (a.1.map V.int) ∧ SqT X.K H p2 (a.2.map V.int) ∧ Dp X.K H (.ref p1) (.tuple (a.1.map .int)) ∧ Dp X.K H (.ref p2) (.tuple (a.2.map .int)) := by
        intro d v a hv ea
        unfold prI at ea
        split at ea
        · rename_i c1 c2
          split at ea
          · rename_i x y q1 q2
            cases ea
            cases hv with
            | tup hs hr =>
              cases hr with
              | cons z1 hr => cases hr with
                | cons z2 hr =>
                  cases hr
                  obtain ⟨p1, rfl, s1⟩ := row_sq z1 q1
                  obtain ⟨p2, rfl, s2⟩ := row_sq z2 q2
                  exact ⟨_, p1, p2, rfl, hs.1, s1, s2, z1.dp (row_py m q1) (by simpa [PyData.canLay0] using (layI _).1), z2.dp (row_py m q2) (by simpa [PyData.canLay0] using (layI _).1)⟩
          · cases ea
        · cases ea
      obtain ⟨p, p1, p2, rfl, t0, t1, t2, t3, t4⟩ := pr h1 e1
      obtain ⟨q0, q1, q2, rfl, w0, w1, w2, w3, w4⟩ := pr h2 e2
      cases rx
      cases ry
      have z : wpAny (model X.prog X.w) X.A (compareOp .GtE (.ref p) (.ref q0)) (EP X pins σ Q) X.xe s := rc_geP I (by omega) t0 w0 t1 t2 w1 w2 t3 t4 w3 w4 X.prog X.w X.xe (EP X pins σ Q) ⟨.bl _, H, I, rfl, q⟩
      exact z
    · obtain ⟨a, b, as, bs, ra, rb, c1, c2, c3, rfl⟩ := ordP_rv I h1 h2 rx ry e
      have z : wpAny (model X.prog X.w) X.A (compareOp .GtE v u) (EP X pins σ Q) X.xe s := PySem.W.rcGe_alike a b X.A s v u as bs ra rb c1 c2 (by omega) X.prog X.w X.xe (EP X pins σ Q) ⟨.bl _, H, I, rfl, q⟩
      exact z
theorem op_inDeep (hu : X.A.units + 64 < cLine) {pins : List (Addr × Obj)} {s : Shared} {σ : L2.St} {H : Hp} {Q : VK} {ρ : Rh} {m : Mu} {d1 d2 : D} {x y : V} {v u : Value} {k : Bool} (I : Inv X pins σ H s) (R : Rel X.K g ρ m H) (h1 : RV X.K g ρ H d1 x) (h2 : RV X.K g ρ H d2 y) (rx : RelV x v) (ry : RelV y u) (e : inDeep m d1 d2 = some k) :
    (Q (.bl k) H → wpAny (model X.prog X.w) X.A (compareOp .In v u) (EP X pins σ Q) X.xe s) ∧ (Q (.bl !k) H → wpAny (model X.prog X.w) X.A (compareOp .NotIn v u) (EP X pins σ Q) X.xe s) := by
  unfold inDeep at e
  split at e
  · rename_i d ds e1 e2
    split at e
    · rename_i hs
      cases e
      rw [Bool.and_eq_true, Bool.and_eq_true, decide_eq_true_eq] at hs
      obtain ⟨hs, hd⟩ := hs
      have room : X.A.units + 1 + min (PyData.depthAll ds) d.depth < cLine := by have := Nat.min_le_right (PyData.depthAll ds) d.depth; omega
      obtain ⟨as, r1⟩ := Dp.reads I d x v (h1.dp e1 (SeqAt.canLay_of_shaped hs.1)) rx
      obtain ⟨bs, r2⟩ := Dp.reads I (.list ds) y u (h2.dpM R e2 (SeqAt.canLay_of_shaped hs.2)) ry
      exact ⟨fun q => SeqAt.in_list_reads r2 r1 (SeqAt.canLay_of_shaped hs.2) (SeqAt.canLay_of_shaped hs.1) room ⟨.bl _, H, I, rfl, q⟩,
        fun q => SeqAt.notIn_list_reads r2 r1 (SeqAt.canLay_of_shaped hs.2) (SeqAt.canLay_of_shaped hs.1) room ⟨.bl _, H, I, rfl, q⟩⟩
    · cases e
  · rename_i d ds e1 e2
    split at e
    · rename_i hs
      cases e
      rw [Bool.and_eq_true, Bool.and_eq_true, decide_eq_true_eq] at hs
      obtain ⟨hs, hd⟩ := hs
      have room : X.A.units + 1 + min (PyData.depthAll ds) d.depth < cLine := by have := Nat.min_le_right (PyData.depthAll ds) d.depth; omega
      obtain ⟨as, r1⟩ := Dp.reads I d x v (h1.dp e1 (SeqAt.canLay_of_shaped hs.1)) rx
      obtain ⟨bs, r2⟩ := Dp.reads I (.tuple ds) y u (h2.dpM R e2 (SeqAt.canLay_of_shaped hs.2)) ry
      exact ⟨fun q => SeqAt.in_tuple_reads r2 r1 (SeqAt.canLay_of_shaped hs.2) (SeqAt.canLay_of_shaped hs.1) room ⟨.bl _, H, I, rfl, q⟩,
        fun q => SeqAt.notIn_tuple_reads r2 r1 (SeqAt.canLay_of_shaped hs.2) (SeqAt.canLay_of_shaped hs.1) room ⟨.bl _, H, I, rfl, q⟩⟩
    · cases e
  · cases e
end
end Ev
namespace Ev
open PySem PySem.Spec PyProof.Rows L2
theorem tuple_mul_same (l : Addr) (items : Array Value) (n : Nat) (dd : Option Addr) (sl : Array (Option Value)) (x : Int) (u : Tok) (c0 : (decide (x < -(2 ^ 63)) || decide (x ≥ 2 ^ 63)) = false) (c1 : (items.isEmpty || x == 1) = true) :
    Meets (Builtin.«tuple.__mul__» ⟨[.ref l, .int x u], []⟩) (fun _ R s => s.heap.get? l = some { cls := .type "tuple", dict := dd, data := .seq items n, slots := sl } ∧ R (.ok (.ret (Value.ref l))) s) :=
  .of_wp fun prog w A R s h => by
    obtain ⟨hp, g, d, tk, os⟩ := s
    obtain ⟨hl, h⟩ := h
    have f1 := AutoSeq1.idx_int
    wp_walk using wpAny_loadPart' hl
    repeat (first
      | (refine wpAny_ite_false (decide_eq_false (by rw [c0]; exact Bool.false_ne_true)) ?_; wp_walk using wpAny_loadPart' hl)
      | (refine wpAny_ite_true (decide_eq_true c1) ?_; wp_walk using wpAny_loadPart' hl))
    exact ⟨_, rfl, h⟩
theorem tuple_mul_none (l : Addr) (items : Array Value) (n : Nat) (dd : Option Addr) (sl : Array (Option Value)) (x : Int) (u : Tok) (c0 : (decide (x < -(2 ^ 63)) || decide (x ≥ 2 ^ 63)) = false) (c1 : (items.isEmpty || x == 1) = false) (c2 : (decide (x ≤ 0) || items.isEmpty) = true) :
    Meets (Builtin.«tuple.__mul__» ⟨[.ref l, .int x u], []⟩) (fun _ R s => s.heap.get? l = some { cls := .type "tuple", dict := dd, data := .seq items n, slots := sl } ∧
      R (.ok (.ret (Value.ref s.heap.objs.size))) { s with heap := s.heap.push { cls := Value.type "tuple", data := Data.seq #[] }, toks := s.toks }) :=
  .of_wp fun prog w A R s h => by
    obtain ⟨hp, g, d, tk, os⟩ := s
    obtain ⟨hl, h⟩ := h
    have f1 := AutoSeq1.idx_int
    wp_walk using wpAny_loadPart' hl
    repeat (first
      | (refine wpAny_ite_false (decide_eq_false (by rw [c0]; exact Bool.false_ne_true)) ?_; wp_walk using wpAny_loadPart' hl)
      | (refine wpAny_ite_false (decide_eq_false (by rw [c1]; exact Bool.false_ne_true)) ?_; wp_walk using wpAny_loadPart' hl)
      | (refine wpAny_ite_true (decide_eq_true c2) ?_; wp_walk using wpAny_loadPart' hl))
    exact ⟨_, rfl, h⟩
def rRep0 (K : PySem.W.Frag) : R2 := fun x y H Q => ∃ l k xs, x = .ref l ∧ y = .int k ∧ SqT K H l xs ∧ 0 ≤ k ∧ k ≤ 1000 ∧ xs.length ≤ 1000 ∧ ((xs = [] ∨ k = 1) → Q (.ref l) H) ∧
  (xs ≠ [] → k = 0 → ∀ p, H p = none → Q (.ref p) (upd H p (.tup []))) ∧ (xs ≠ [] → 2 ≤ k → ∀ p, H p = none → Q (.ref p) (upd H p (.tup (List.replicate k.toNat xs).flatten)))
theorem op_rep0 {X : Cx} : OpR X (binaryOp .Mult) (rRep0 X.K) := by
  intro pins s σ H x y v u Q I rx ry h
  obtain ⟨l, k, xs, rfl, rfl, hT, h0, h1, hz, q1, q2, q3⟩ := h
  by_cases hbig : xs ≠ [] ∧ 2 ≤ k
  · exact op_repT pins s σ H _ _ v u Q I rx ry ⟨l, k, xs, rfl, rfl, hT, hbig.1, hbig.2, h1, hz, q3 hbig.1 hbig.2⟩
  cases rx
  obtain ⟨t, rfl⟩ := ry
  obtain ⟨its, r, ⟨⟨cls, dd, data, sl⟩, ho, hc, n, hd⟩, hs⟩ := I.tuple hT
  simp only at hc hd
  subst hc hd
  have hle : its.length = xs.length := r.length.symm
  have c0 : (decide (k < -(2 ^ 63)) || decide (k ≥ 2 ^ 63)) = false := by
    rw [decide_eq_false (by omega), decide_eq_false (by omega)] <;> rfl
  have hemp : its.toArray.isEmpty = xs.isEmpty := by
    cases its with
    | nil =>
      cases xs with
      | nil => rfl
      | cons a b => simp at hle
    | cons a b =>
      cases xs with
      | nil => simp at hle
      | cons a b => rfl
  by_cases hsame : xs = [] ∨ k = 1
  · have c1 : (its.toArray.isEmpty || k == 1) = true := by
      rw [hemp]
      rcases hsame with e | e
      · subst e; rfl
      · subst e; simp
    refine wpAny_binaryOp_repeat_ref (T := "tuple") (U := "int") (by decide) ⟨_, ho, rfl⟩ (fun s' => typeIs_int s' k t) noFill_tuple_mul F.fills_int_mul F.slot_int_rmul repeat_tuple F.slot_int_index.lookup
      (call_meets F.slot_int_rmul (typeIs_int s k t) F.entry_int_rmul (F.args_int_rmul_2 _ _) (int_rmul_tuple k t l its.toArray n dd sl)
        ⟨ho, rfl, ⟨_, ho, rfl⟩, call_meets F.slot_tuple_mul ⟨_, ho, rfl⟩ F.entry_tuple_mul (F.args_tuple_mul_2 _ _) (tuple_mul_same l its.toArray n dd sl k t c0 c1) ⟨ho, ?_⟩⟩)
    exact ⟨.ref l, H, I, rfl, q1 hsame⟩
  · have hne : xs ≠ [] := fun e => hsame (.inl e)
    have hk1 : k ≠ 1 := fun e => hsame (.inr e)
    have hk0 : k = 0 := by
      have : ¬ 2 ≤ k := fun e => hbig ⟨hne, e⟩
      omega
    have hx : xs.isEmpty = false := by
      cases xs with
      | nil => exact absurd rfl hne
      | cons a b => rfl
    have c1 : (its.toArray.isEmpty || k == 1) = false := by
      rw [hemp, hx, hk0]; rfl
    have c2 : (decide (k ≤ 0) || its.toArray.isEmpty) = true := by
      rw [hk0]; rfl
    refine wpAny_binaryOp_repeat_ref (T := "tuple") (U := "int") (by decide) ⟨_, ho, rfl⟩ (fun s' => typeIs_int s' k t) noFill_tuple_mul F.fills_int_mul F.slot_int_rmul repeat_tuple F.slot_int_index.lookup
      (call_meets F.slot_int_rmul (typeIs_int s k t) F.entry_int_rmul (F.args_int_rmul_2 _ _) (int_rmul_tuple k t l its.toArray n dd sl)
        ⟨ho, rfl, ⟨_, ho, rfl⟩, call_meets F.slot_tuple_mul ⟨_, ho, rfl⟩ F.entry_tuple_mul (F.args_tuple_mul_2 _ _) (tuple_mul_none l its.toArray n dd sl k t c0 c1 c2) ⟨ho, ?_⟩⟩)
    refine ⟨.ref s.heap.objs.size, _, I.laid (t' := s.toks) (o := .tup []) (fun b ob q => Heap.get?_push_of_some _ q) (Nat.le_refl _) ?_, rfl, q2 hne hk0 _ (I.hok.fresh (Nat.le_refl _))⟩
    exact ⟨Nat.zero_le _, [], .nil, IsTup.new _ _⟩
theorem op_mul_str {X : Cx} : OpR X (binaryOp .Mult) (fun x y H Q => ∃ z k, x = .str z ∧ y = .int k ∧ 0 ≤ k ∧ k ≤ 1000 ∧ z.length ≤ 1000 ∧ Q (.str (Txt.mul z k)) H) := by
  intro pins s σ H x y v u Q I rx ry h
  obtain ⟨z, k, rfl, rfl, h0, h1, hz, q⟩ := h
  obtain ⟨t, rfl⟩ := rx
  obtain ⟨t', rfl⟩ := ry
  refine SB.mul ⟨?_, ?_, ?_⟩ fun t2 k2 => ⟨.str _, H, I.tok _, ⟨_, rfl⟩, q⟩
  · rw [decide_eq_false (by omega), decide_eq_false (by omega)] <;> rfl
  · intro hn _ hgt
    have a1 : ((2 : Int) ^ 63 - 1) / 1000 ≤ (2 ^ 63 - 1) / k := by
      refine Int.le_ediv_of_mul_le (by omega) ?_
      have : ((2 : Int) ^ 63 - 1) / 1000 * k ≤ (2 ^ 63 - 1) / 1000 * 1000 := Int.mul_le_mul_of_nonneg_left h1 (by decide)
      exact Int.le_trans this (by decide)
    have a2 : (1000 : Int) ≤ ((2 : Int) ^ 63 - 1) / 1000 := by decide
    omega
  · intro hn _
    unfold Builtin.Str.tooLong
    refine decide_eq_false ?_
    rw [sizeLine_eq]
    have : z.length * k.toNat ≤ 1000 * 1000 := Nat.mul_le_mul hz (by omega)
    omega
theorem dks_find {K : PySem.W.Frag} {g : Gm} {ρ : Rh} {H : Hp} {z : Str} : ∀ {ks : List Str} {es : List DictEntry} {ds : List D} {vs : List V}, KeyIs ks es → Vals vs (es.map (·.val)) → RVs K g ρ H ds vs →
    (∀ d, dksG ks ds z = some d → ∃ e v, es.find? (·.key.isStr z) = some e ∧ RelV v e.val ∧ RV K g ρ H d v) ∧ (dksG ks ds z = none → es.find? (·.key.isStr z) = none) ∧ es.any (·.refKey) = false
  | [], [], ds, vs, _, _, _ => ⟨fun d h => by simp [dksG] at h, fun _ => rfl, rfl⟩
  | [], _ :: _, _, _, h, _, _ => h.elim
  | _ :: _, [], _, _, h, _, _ => h.elim
  | k :: ks, e :: es, ds, vs, ⟨⟨t, hk⟩, hks⟩, hv, hr => by
    cases hv with
    | cons h1 h2 =>
      cases hr with
      | cons r1 r2 =>
        obtain ⟨i1, i2, i3⟩ := dks_find (z := z) hks h2 r2
        have ek : e.key.isStr z = (k == z) := by rw [hk]; rfl
        refine ⟨fun d hd => ?_, fun hd => ?_, ?_⟩
        · simp only [dksG, List.zip_cons_cons, List.lookup_cons] at hd
          by_cases q : z = k
          · subst q
            simp at hd
            subst hd
            exact ⟨e, _, by rw [List.find?_cons, ek]; simp, h1, r1⟩
          · have q1 : (z == k) = false := by simpa using q
            have q2 : (k == z) = false := by simpa using fun e => q e.symm
            rw [q1] at hd
            obtain ⟨e', v', a1, a2, a3⟩ := i1 d hd
            exact ⟨e', v', by rw [List.find?_cons, ek, q2]; exact a1, a2, a3⟩
        · simp only [dksG, List.zip_cons_cons, List.lookup_cons] at hd
          by_cases q : z = k
          · subst q
            simp at hd
          · have q1 : (z == k) = false := by simpa using q
            have q2 : (k == z) = false := by simpa using fun e => q e.symm
            rw [q1] at hd
            rw [List.find?_cons, ek, q2]
            exact i2 hd
        · rw [List.any_cons, i3]
          simp [DictEntry.refKey, hk]
theorem dks_in {K : PySem.W.Frag} {g : Gm} {ρ : Rh} {H : Hp} {a : Addr} {z : Str} {es : Array DictEntry} {n : Nat} {ks : List Str} {ds : List D} {vs : List V} (hl : K.lookup a = some ⟨.type "dict", none, .dict es n, #[]⟩) (hk : KeyIs ks es.toList)
    (hv : Vals vs (es.toList.map (·.val))) (hr : RVs K g ρ H ds vs) : (∀ d, dksG ks ds z = some d → ∃ u v, PySem.W.nsIn K a z = some (some u) ∧ RelV v u ∧ RV K g ρ H d v) ∧ (dksG ks ds z = none → PySem.W.nsIn K a z = some none) := by
  obtain ⟨i1, i2, i3⟩ := dks_find (z := z) hk hv hr
  refine ⟨fun d hd => ?_, fun hd => ?_⟩
  · obtain ⟨e, v, a1, a2, a3⟩ := i1 d hd
    refine ⟨e.val, v, ?_, a2, a3⟩
    unfold PySem.W.nsIn
    rw [hl]
    simp only [a1]
  · unfold PySem.W.nsIn
    rw [hl]
    simp only [i2 hd, i3]
    rfl
section
variable {X : Cx} {g : Gm}
theorem mulOk_C {a b : Int} (h : mulOk a b = true) : CMul a b := by
  simp only [mulOk, Bool.or_eq_true, Bool.and_eq_true, decide_eq_true_eq] at h
  exact h
theorem op_addM : OpR X (binaryOp .Add) (rO X.K g addF) := by
  intro pins s σ H x y v u Q I rx ry h
  obtain ⟨ρ, m, d1, d2, R, h1, h2, P⟩ := h
  have lists : ∀ {a b : List D}, lstD m d1 = some a → lstD m d2 = some b → a.length + b.length ≤ sizeLine → PostO X.K g ρ H m Q (some (.lst (a ++ b))) → wpAny (model X.prog X.w) X.A (binaryOp .Add v u) (EP X pins σ Q) X.xe s := by
    intro a b e1 e2 hl P
    obtain ⟨p, vs, rfl, q1, r1⟩ := h1.lstL R e1
    obtain ⟨p2, vs2, rfl, q2, r2⟩ := h2.lstL R e2
    refine op_cat pins s σ H _ _ v u Q I rx ry ⟨p, p2, vs, vs2, rfl, rfl, q1, q2, by rw [← r1.length, ← r2.length]; exact hl, fun n hn => ?_⟩
    have G : Grow ρ H ρ (upd H n (.lst (vs ++ vs2))) := Grow.new hn
    exact P ρ _ _ G (R.new hn) (.lst upd_same (R.out hn) ((r1.append r2).grow G))
  have other : (match lstD m d1, lstD m d2 with
      | some a, some b => if a.length + b.length ≤ sizeLine then some (D.lst (a ++ b)) else none
      | _, _ => none) = addF m d1 d2 → wpAny (model X.prog X.w) X.A (binaryOp .Add v u) (EP X pins σ Q) X.xe s := by
    intro e
    rw [← e] at P
    cases e1 : lstD m d1 with
    | none => rw [e1] at P; exact P.elim
    | some a =>
      cases e2 : lstD m d2 with
      | none => rw [e1, e2] at P; exact P.elim
      | some b =>
        rw [e1, e2] at P
        by_cases hl : a.length + b.length ≤ sizeLine
        · simp only [if_pos hl] at P
          exact lists e1 e2 hl P
        · simp only [if_neg hl] at P
          exact P.elim
  cases h1 with
  | int i =>
    cases h2 with
    | int j => exact op_add pins s σ H _ _ v u Q I rx ry ⟨i, j, rfl, rfl, P ρ H _ .refl R (.int _)⟩
    | _ => exact other rfl
  | bl i =>
    cases h2 with
    | int j =>
      obtain rfl : v = Value.bool i := rx
      obtain ⟨t, rfl⟩ := (show ∃ t, u = Value.int j t from ry)
      exact PySem.IntBool.add_bool_int ⟨.int _, H, I.tok _, ⟨_, rfl⟩, P ρ H _ .refl R (.int _)⟩
    | _ => exact other rfl
  | str i =>
    cases h2 with
    | str j =>
      simp only [addF] at P
      by_cases hl : i.length + j.length ≤ sizeLine
      · rw [if_pos hl] at P
        exact op_add_str pins s σ H _ _ v u Q I rx ry ⟨i, j, rfl, rfl, hl, P ρ H _ .refl R (.str _)⟩
      · rw [if_neg hl] at P
        exact P.elim
    | _ => exact other rfl
  | tup a1 a2 =>
    rename_i p vs xs
    cases h2 with
    | tup b1 b2 =>
      rename_i p2 vs2 ys
      simp only [addF] at P
      by_cases hl : xs.length + ys.length ≤ sizeLine
      · rw [if_pos hl] at P
        refine op_catA pins s σ H _ _ v u Q I rx ry ⟨p, p2, vs, vs2, rfl, rfl, a1.1, b1.1, by rw [← a2.length, ← b2.length]; exact hl, fun e => ?_, fun _ e => ?_, fun _ _ n hn => ?_⟩
        · have e' : xs = [] := a2.nil_iff.mpr e
          subst e'
          exact P ρ H _ .refl R (.tup b1 b2)
        · have e' : ys = [] := b2.nil_iff.mpr e
          subst e'
          rw [List.append_nil] at P
          exact P ρ H _ .refl R (.tup a1 a2)
        · have G : Grow ρ H ρ (upd H n (.tup (vs ++ vs2))) := Grow.new hn
          exact P ρ _ _ G (R.new hn) (.tup (TkT.of upd_same) ((a2.append b2).grow G))
      · rw [if_neg hl] at P
        exact P.elim
    | _ => exact other rfl
  | _ => exact other rfl
theorem op_subM : OpR X (binaryOp .Sub) (rO X.K g fun _ => subF) := by
  intro pins s σ H x y v u Q I rx ry h
  obtain ⟨ρ, m, d1, d2, R, h1, h2, P⟩ := h
  cases h1 <;> first
    | exact P.elim
    | (cases h2 <;> first
        | exact P.elim
        | exact op_sub pins s σ H _ _ v u Q I rx ry ⟨_, _, rfl, rfl, P ρ H _ .refl R (.int _)⟩)
theorem op_mulM : OpR X (binaryOp .Mult) (rO X.K g fun _ => mulF) := by
  intro pins s σ H x y v u Q I rx ry h
  obtain ⟨ρ, m, d1, d2, R, h1, h2, P⟩ := h
  cases h1 with
  | int i =>
    cases h2 with
    | int j =>
      simp only [mulF] at P
      by_cases hl : mulOk i j = true
      · rw [if_pos hl] at P
        exact op_mul pins s σ H _ _ v u Q I rx ry ⟨i, j, rfl, rfl, mulOk_C hl, P ρ H _ .refl R (.int _)⟩
      · rw [if_neg hl] at P
        exact P.elim
    | _ => exact P.elim
  | str i =>
    cases h2 with
    | int j =>
      simp only [mulF] at P
      by_cases hl : 0 ≤ j ∧ j ≤ 1000 ∧ i.length ≤ 1000
      · rw [if_pos hl] at P
        exact op_mul_str pins s σ H _ _ v u Q I rx ry ⟨i, j, rfl, rfl, hl.1, hl.2.1, hl.2.2, P ρ H _ .refl R (.str _)⟩
      · rw [if_neg hl] at P
        exact P.elim
    | _ => exact P.elim
  | tup a1 a2 =>
    rename_i p vs xs
    cases h2 with
    | int j =>
      simp only [mulF] at P
      by_cases hl : 0 ≤ j ∧ j ≤ 1000 ∧ xs.length ≤ 1000
      · rw [if_pos hl] at P
        refine op_rep0 pins s σ H _ _ v u Q I rx ry ⟨p, j, vs, rfl, rfl, a1.1, hl.1, hl.2.1, by rw [← a2.length]; exact hl.2.2, fun e => ?_, fun _ e n hn => ?_, fun _ _ n hn => ?_⟩
        · refine P ρ H _ .refl R ?_
          rcases e with e | e
          · have e' : xs = [] := a2.nil_iff.mpr e
            subst e'
            have z : (List.replicate j.toNat ([] : List D)).flatten = [] := by simp
            rw [z]
            exact .tup a1 a2
          · subst e
            have z : (List.replicate (1 : Int).toNat xs).flatten = xs := by simp
            rw [z]
            exact .tup a1 a2
        · have G : Grow ρ H ρ (upd H n (.tup [])) := Grow.new hn
          refine P ρ _ _ G (R.new hn) ?_
          subst e
          exact .tup (TkT.of upd_same) .nil
        · have G : Grow ρ H ρ (upd H n (.tup (List.replicate j.toNat vs).flatten)) := Grow.new hn
          exact P ρ _ _ G (R.new hn) (.tup (TkT.of upd_same) ((a2.rep _).grow G))
      · rw [if_neg hl] at P
        exact P.elim
    | _ => exact P.elim
  | lst a1 a2 a3 =>
    rename_i p vs xs
    cases h2 with
    | int j =>
      simp only [mulF] at P
      by_cases hl : 0 ≤ j ∧ j ≤ 1000 ∧ xs.length ≤ 1000
      · rw [if_pos hl] at P
        refine op_rep pins s σ H _ _ v u Q I rx ry ⟨p, j, vs, rfl, rfl, a1, by omega, by omega, ?_, fun n hn => ?_⟩
        · rw [← a3.length]
          have h1 : xs.length * j.toNat ≤ 1000 * 1000 := Nat.mul_le_mul hl.2.2 (by omega)
          exact Nat.le_trans h1 (by decide)
        · have G : Grow ρ H ρ (upd H n (.lst (List.replicate j.toNat vs).flatten)) := Grow.new hn
          exact P ρ _ _ G (R.new hn) (.lst upd_same (R.out hn) ((a3.rep _).grow G))
      · rw [if_neg hl] at P
        exact P.elim
    | _ => exact P.elim
  | _ => exact P.elim
theorem op_fdivM : OpR X (binaryOp .FloorDiv) (rO X.K g fun _ => fdivF) := by
  intro pins s σ H x y v u Q I rx ry h
  obtain ⟨ρ, m, d1, d2, R, h1, h2, P⟩ := h
  cases h1 with
  | int i =>
    cases h2 with
    | int j =>
      simp only [fdivF] at P
      by_cases hl : 0 < j ∧ j < 1073741824
      · rw [if_pos hl] at P
        exact op_fdiv pins s σ H _ _ v u Q I rx ry ⟨i, j, rfl, rfl, hl, P ρ H _ .refl R (.int _)⟩
      · rw [if_neg hl] at P
        exact P.elim
    | _ => exact P.elim
  | _ => exact P.elim
theorem op_modM : OpR X (binaryOp .Mod) (rO X.K g fun _ => modF) := by
  intro pins s σ H x y v u Q I rx ry h
  obtain ⟨ρ, m, d1, d2, R, h1, h2, P⟩ := h
  cases h1 with
  | int i =>
    cases h2 with
    | int j =>
      simp only [modF] at P
      by_cases hl : 0 < j
      · rw [if_pos hl] at P
        exact op_mod pins s σ H _ _ v u Q I rx ry ⟨i, j, rfl, rfl, hl, P ρ H _ .refl R (.int _)⟩
      · rw [if_neg hl] at P
        exact P.elim
    | _ => exact P.elim
  | _ => exact P.elim
theorem op_powM : OpR X (binaryOp .Pow) (rO X.K g fun _ => powF) := by
  intro pins s σ H x y v u Q I rx ry h
  obtain ⟨ρ, m, d1, d2, R, h1, h2, P⟩ := h
  cases h1 with
  | int i =>
    cases h2 with
    | int j =>
      simp only [powF] at P
      by_cases hl : 0 ≤ j ∧ j ≤ 1000000 ∧ i.natAbs < 2 ^ 64
      · rw [if_pos hl] at P
        exact op_pow pins s σ H _ _ v u Q I rx ry ⟨i, j, rfl, rfl, hl, P ρ H _ .refl R (.int _)⟩
      · rw [if_neg hl] at P
        exact P.elim
    | _ => exact P.elim
  | _ => exact P.elim
theorem op_binM (op : Operator) : OpR X (binaryOp op) (rO X.K g fun m => binF m op) := by
  cases op with
  | Add => exact op_addM
  | Sub => exact op_subM
  | Mult => exact op_mulM
  | FloorDiv => exact op_fdivM
  | Mod => exact op_modM
  | Pow => exact op_powM
  | _ =>
    intro pins s σ H x y v u Q I rx ry h
    obtain ⟨ρ, m, d1, d2, R, h1, h2, P⟩ := h
    exact P.elim
theorem eqF_no {m : Mu} {x y : D} (h : ¬ ∃ a b, x = .str a ∧ y = .str b) : eqF m x y = eqG m x y := by
  cases x <;> cases y <;> first | rfl | exact absurd ⟨_, _, rfl, rfl⟩ h
theorem RV.ls0 {K : PySem.W.Frag} {ρ : Rh} {H : Hp} {m : Mu} (r : Rel K g ρ m H) {d : D} {v : V} {xs : List D} (h : RV K g ρ H d v) (e : lsD m d = some xs) : ∃ a vs, v = .ref a ∧ SqL K H a vs ∧ RVs K g ρ H xs vs := by
  have hnt : ∀ ys, d ≠ .tup ys := fun ys z => by subst z; simp [lsD] at e
  have e2 : seqD m d = some xs := by cases d <;> first | exact e | exact absurd rfl (hnt _)
  cases h with
  | tup _ _ => exact absurd rfl (hnt _)
  | lst h1 h2 h3 => simp [seqD] at e2; subst e2; exact ⟨_, _, rfl, SqL.of h1, h3⟩
  | scr h1 => simp [seqD] at e2; subst e2; exact ⟨_, _, rfl, h1.sq, RVs.ints _⟩
  | ref hi =>
    simp only [seqD] at e2
    split at e2
    · rename_i ys hm
      cases e2
      obtain ⟨a, h1, vs, h2, h3⟩ := r.get hm
      rw [hi] at h1; cases h1
      exact ⟨_, _, rfl, SqL.of h2, h3⟩
    · cases e2
  | _ => simp [seqD] at e2
theorem eqE_lists {ρ : Rh} {H : Hp} {m : Mu} {pins : List (Addr × Obj)} {σ : L2.St} {s : Shared} {d1 d2 : D} {x y : V} {v u : Value} {b : Bool} (R : Rel X.K g ρ m H) (I : Inv X pins σ H s) (h1 : RV X.K g ρ H d1 x) (h2 : RV X.K g ρ H d2 y) (rx : RelV x v) (ry : RelV y u) (e : eqL m d1 d2 = some b) :
    b = false ∧ ∃ (l1 l2 : Addr) (i1 i2 : Array Value), v = .ref l1 ∧ u = .ref l2 ∧ s.heap.IsList l1 i1 ∧ s.heap.IsList l2 i2 ∧ (i1.size != i2.size) = true := by
  unfold eqL at e
  cases e1 : lsD m d1 with
  | none => rw [e1] at e; cases e
  | some xs =>
    cases e2 : lsD m d2 with
    | none => rw [e1, e2] at e; cases e
    | some ys =>
      rw [e1, e2] at e
      dsimp only at e
      split at e
      · cases e
      · rename_i hne
        cases e
        obtain ⟨a1, vs1, rfl, q1, r1⟩ := h1.ls0 R e1
        obtain ⟨a2, vs2, rfl, q2, r2⟩ := h2.ls0 R e2
        obtain ⟨its1, w1, p1, _⟩ := I.list q1
        obtain ⟨its2, w2, p2, _⟩ := I.list q2
        refine ⟨rfl, a1, a2, _, _, rx, ry, p1.isList, p2.isList, ?_⟩
        have l1 := r1.length
        have l2 := r2.length
        have k1 := w1.length
        have k2 := w2.length
        simp
        omega
theorem eqE_split {m : Mu} {d1 d2 : D} {b : Bool} (e : eqE m d1 d2 = some b) : (∃ xs, d1 = .tup xs ∧ d2 = .tup [] ∧ b = xs.isEmpty) ∨ eqL m d1 d2 = some b := by
  unfold eqE at e
  split at e
  · split at e
    · cases e
      exact .inl ⟨_, rfl, rfl, rfl⟩
    · cases e
  · exact .inr e
theorem eqE_tuples {ρ : Rh} {H : Hp} {pins : List (Addr × Obj)} {σ : L2.St} {s : Shared} {xs : List D} {x y : V} {v u : Value} (I : Inv X pins σ H s) (h1 : RV X.K g ρ H (.tup xs) x) (h2 : RV X.K g ρ H (.tup []) y) (rx : RelV x v) (ry : RelV y u) :
    ∃ (l1 l2 : Addr) (i1 i2 : Array Value), v = .ref l1 ∧ u = .ref l2 ∧ s.heap.IsTuple l1 i1 ∧ s.heap.IsTuple l2 i2 ∧ i2.size = 0 ∧ (i1.size == i2.size) = xs.isEmpty := by
  cases h1 with
  | tup t1 r1 =>
    cases h2 with
    | tup t2 r2 =>
      obtain ⟨its1, w1, p1, _⟩ := I.tuple t1.1
      obtain ⟨its2, w2, p2, _⟩ := I.tuple t2.1
      have l1 := r1.length
      have l2 := r2.length
      have k1 := w1.length
      have k2 := w2.length
      have z2 : its2.length = 0 := by rw [← k2, ← l2]; rfl
      refine ⟨_, _, its1.toArray, its2.toArray, rx, ry, p1, p2, by simpa using z2, ?_⟩
      rw [List.size_toArray, List.size_toArray, z2]
      have e1 : its1.length = xs.length := by omega
      rw [e1]
      cases xs with
      | nil => rfl
      | cons a r => simp
theorem dec_str {a b : Str} : decide (V.str a = V.str b) = decide (a = b) := by simp
theorem op_eqM (hu : X.A.units + 64 < cLine) : OpR X (compareOp .Eq) (rO X.K g fun m x y => (eqF m x y).map .bl) := by
  intro pins s σ H x y v u Q I rx ry h
  obtain ⟨ρ, m, d1, d2, R, h1, h2, P⟩ := h
  by_cases hss : ∃ a b, d1 = .str a ∧ d2 = .str b
  · obtain ⟨a, b, rfl, rfl⟩ := hss
    cases h1
    cases h2
    exact op_eq pins s σ H _ _ v u Q I rx ry ⟨rfl, by rw [dec_str]; exact P ρ H _ .refl R (.bl _)⟩
  have diff : PostO X.K g ρ H m Q ((eqE m d1 d2).map .bl) → wpAny (model X.prog X.w) X.A (compareOp .Eq v u) (EP X pins σ Q) X.xe s := fun P => by
    cases e : eqE m d1 d2 with
    | none => rw [e] at P; exact P.elim
    | some b =>
      rw [e] at P
      rcases eqE_split e with ⟨xs, rfl, rfl, rfl⟩ | e
      · obtain ⟨l1, l2, i1, i2, rfl, rfl, q1, q2, q3, q4⟩ := eqE_tuples I h1 h2 rx ry
        refine SeqAt.eq_tupleAt (e := fun _ => true) q1 q2 (Nat.lt_of_le_of_lt (Nat.le_add_right _ 64) hu) (fun j _ h => absurd h (by omega)) ?_
        have e0 : ((List.range (min i1.size i2.size)).all (fun _ => true) && i1.size == i2.size) = xs.isEmpty := by rw [q4]; simp
        rw [e0]
        exact ⟨.bl _, H, I, rfl, P ρ H _ .refl R (.bl _)⟩
      obtain ⟨rfl, l1, l2, i1, i2, rfl, rfl, q1, q2, q3⟩ := eqE_lists R I h1 h2 rx ry e
      exact SeqAt.eq_list_lengthsAt q1 q2 q3 (Nat.lt_of_le_of_lt (Nat.le_add_right _ 64) hu) ⟨.bl false, H, I, rfl, P ρ H _ .refl R (.bl _)⟩
  dsimp only at P
  rw [eqF_no hss] at P
  simp only [eqG] at P
  cases e1 : pyM m d1 with
  | none => rw [e1] at P; exact diff P
  | some a =>
    cases e2 : pyM m d2 with
    | none => rw [e1, e2] at P; exact diff P
    | some b =>
      rw [e1, e2] at P
      cases hs : (SeqAt.shaped a && SeqAt.shaped b) with
      | false => simp only [hs] at P; exact diff P
      | true =>
        simp only [hs] at P
        have hs' : SeqAt.shaped a = true ∧ SeqAt.shaped b = true := by simpa using hs
        exact op_eqD hu pins s σ H _ _ v u Q I rx ry ⟨a, b, h1.dpM R e1 (SeqAt.canLay_of_shaped hs'.1), h2.dpM R e2 (SeqAt.canLay_of_shaped hs'.2), hs'.1, hs'.2, P ρ H _ .refl R (.bl _)⟩
theorem op_neM (hu : X.A.units + 64 < cLine) : OpR X (compareOp .NotEq) (rO X.K g fun m x y => ((eqF m x y).map (!·)).map .bl) := by
  intro pins s σ H x y v u Q I rx ry h
  obtain ⟨ρ, m, d1, d2, R, h1, h2, P⟩ := h
  by_cases hss : ∃ a b, d1 = .str a ∧ d2 = .str b
  · obtain ⟨a, b, rfl, rfl⟩ := hss
    cases h1
    cases h2
    exact op_ne pins s σ H _ _ v u Q I rx ry ⟨rfl, by rw [dec_str]; exact P ρ H _ .refl R (.bl _)⟩
  have diff : PostO X.K g ρ H m Q (((eqE m d1 d2).map (!·)).map .bl) → wpAny (model X.prog X.w) X.A (compareOp .NotEq v u) (EP X pins σ Q) X.xe s := fun P => by
    cases e : eqE m d1 d2 with
    | none => rw [e] at P; exact P.elim
    | some b =>
      rw [e] at P
      rcases eqE_split e with ⟨xs, rfl, rfl, rfl⟩ | e
      · obtain ⟨l1, l2, i1, i2, rfl, rfl, q1, q2, q3, q4⟩ := eqE_tuples I h1 h2 rx ry
        refine SeqAt.RcNeAt.tuples (e := fun _ => true) q1 q2 (Nat.lt_of_le_of_lt (Nat.le_add_right _ 64) hu) (fun j _ h => absurd h (by omega)) X.prog X.w _ _ ?_
        have e0 : (!((List.range (min i1.size i2.size)).all (fun _ => true) && i1.size == i2.size)) = !xs.isEmpty := by rw [q4]; simp
        rw [e0]
        exact ⟨.bl _, H, I, rfl, P ρ H _ .refl R (.bl _)⟩
      obtain ⟨rfl, l1, l2, i1, i2, rfl, rfl, q1, q2, q3⟩ := eqE_lists R I h1 h2 rx ry e
      exact SeqAt.RcNeAt.lists_lengths q1 q2 q3 (Nat.lt_of_le_of_lt (Nat.le_add_right _ 64) hu) X.prog X.w _ _ ⟨.bl true, H, I, rfl, P ρ H _ .refl R (.bl _)⟩
  dsimp only at P
  rw [eqF_no hss] at P
  simp only [eqG] at P
  cases e1 : pyM m d1 with
  | none => rw [e1] at P; exact diff P
  | some a =>
    cases e2 : pyM m d2 with
    | none => rw [e1, e2] at P; exact diff P
    | some b =>
      rw [e1, e2] at P
      cases hs : (SeqAt.shaped a && SeqAt.shaped b) with
      | false => simp only [hs] at P; exact diff P
      | true =>
        simp only [hs] at P
        have hs' : SeqAt.shaped a = true ∧ SeqAt.shaped b = true := by simpa using hs
        exact op_neD hu pins s σ H _ _ v u Q I rx ry ⟨a, b, h1.dpM R e1 (SeqAt.canLay_of_shaped hs'.1), h2.dpM R e2 (SeqAt.canLay_of_shaped hs'.2), hs'.1, hs'.2, P ρ H _ .refl R (.bl _)⟩
theorem op_ordM {op : CmpOp} {f : Int → Int → Bool} (hop : OpR X (compareOp op) (rI0 fun i j => .bl (f i j))) : OpR X (compareOp op) (rO X.K g fun _ x y => (ordF f x y).map .bl) := by
  intro pins s σ H x y v u Q I rx ry h
  obtain ⟨ρ, m, d1, d2, R, h1, h2, P⟩ := h
  cases h1 <;> first
    | exact P.elim
    | (cases h2 <;> first
        | exact P.elim
        | exact hop pins s σ H _ _ v u Q I rx ry ⟨_, _, rfl, rfl, P ρ H _ .refl R (.bl _)⟩)
theorem op_isM : OpR X (compareOp .Is) (rO X.K g fun _ x y => (isF x y).map .bl) := by
  intro pins s σ H x y v u Q I rx ry h
  obtain ⟨ρ, m, d1, d2, R, h1, h2, P⟩ := h
  cases h2 with
  | non =>
    refine op_isN pins s σ H _ _ v u Q I rx ry ⟨rfl, ?_⟩
    have P' := P ρ H _ .refl R (.bl _)
    cases h1 <;> exact P'
  | bl b =>
    cases h1 with
    | bl a =>
      refine op_is_bl pins s σ H _ _ v u Q I rx ry ⟨a, b, rfl, rfl, ?_⟩
      have P' := P ρ H _ .refl R (.bl _)
      have e : (a == b) = decide (a = b) := by cases a <;> cases b <;> rfl
      rw [e] at P'
      exact P'
    | _ => exact P.elim
  | _ => cases h1 <;> exact P.elim
theorem op_isnotM : OpR X (compareOp .IsNot) (rO X.K g fun _ x y => ((isF x y).map (!·)).map .bl) := by
  intro pins s σ H x y v u Q I rx ry h
  obtain ⟨ρ, m, d1, d2, R, h1, h2, P⟩ := h
  cases h2 with
  | non =>
    refine op_notN pins s σ H _ _ v u Q I rx ry ⟨rfl, ?_⟩
    have P' := P ρ H _ .refl R (.bl _)
    cases h1 <;> exact P'
  | bl b =>
    cases h1 with
    | bl a =>
      refine op_isnot_bl pins s σ H _ _ v u Q I rx ry ⟨a, b, rfl, rfl, ?_⟩
      have P' := P ρ H _ .refl R (.bl _)
      have e : (a == b) = decide (a = b) := by cases a <;> cases b <;> rfl
      rw [e] at P'
      exact P'
    | _ => exact P.elim
  | _ => cases h1 <;> exact P.elim
theorem flats {K : PySem.W.Frag} {ρ : Rh} {H : Hp} : ∀ {ds : List D} {vs us : List V}, RVs K g ρ H ds vs → allD flatD ds = some us → vs = us ∧ vs.all flatV = true
  | _, _, _, .nil, e => by simp [allD] at e; subst e; exact ⟨rfl, rfl⟩
  | _, _, _, .cons h r, e => by
    simp only [allD] at e
    split at e
    · rename_i a l h1 h2
      cases e
      obtain ⟨e1, e2⟩ := h.of_flat h1
      obtain ⟨e3, e4⟩ := flats r h2
      subst e1 e3
      exact ⟨rfl, by rw [List.all_cons, e2, e4]; rfl⟩
    · cases e
theorem op_inM (hpr : X.w.params = g.pr) (hu : X.A.units + 64 < cLine) : OpR X (compareOp .In) (rO X.K g fun m x y => (inF m x y).map .bl) := by
  intro pins s σ H x y v u Q I rx ry h
  obtain ⟨ρ, m, d1, d2, R, h1, h2, P⟩ := h
  dsimp only at P
  have other : (match flatD d1, seqD m d2 with
      | some v, some ys => (allD flatD ys).map (inV v)
      | _, _ => none) = inF m d1 d2 → wpAny (model X.prog X.w) X.A (compareOp .In v u) (EP X pins σ Q) X.xe s := by
    intro e
    rw [← e] at P
    cases e1 : flatD d1 with
    | none => rw [e1] at P; exact P.elim
    | some a =>
      cases e2 : seqD m d2 with
      | none => rw [e1, e2] at P; exact P.elim
      | some b =>
        rw [e1, e2] at P
        cases e3 : allD flatD b with
        | none => simp only [e3] at P; exact P.elim
        | some us =>
          simp only [e3] at P
          obtain ⟨p, vs, rfl, hs, hr⟩ := h2.seq R e2
          obtain ⟨q1, q2⟩ := flats hr e3
          obtain ⟨q3, q4⟩ := h1.of_flat e1
          subst q1 q3
          exact op_in_seq pins s σ H _ _ v u Q I rx ry ⟨p, vs, rfl, (hs.imp id And.left), q4, q2, P ρ H _ .refl R (.bl _)⟩
  cases h1 with
  | non =>
    cases e : inFl m .non d2 with
    | some b => exact other (by show inFl m .non d2 = inF m .non d2; simp only [inF, e])
    | none =>
      have P0 : PostO X.K g ρ H m Q ((inDeep m .non d2).map .bl) := by simp only [inF, e] at P; exact P
      cases e' : inDeep m .non d2 with
      | none => rw [e'] at P0; exact P0.elim
      | some k => rw [e'] at P0; exact (op_inDeep hu I R .non h2 rx ry e').1 (P0 ρ H _ .refl R (.bl _))
  | int i =>
    cases e : inFl m (.int i) d2 with
    | some b => exact other (by show inFl m (.int i) d2 = inF m (.int i) d2; simp only [inF, e])
    | none =>
      have P0 : PostO X.K g ρ H m Q ((inDeep m (.int i) d2).map .bl) := by simp only [inF, e] at P; exact P
      cases e' : inDeep m (.int i) d2 with
      | none => rw [e'] at P0; exact P0.elim
      | some k => rw [e'] at P0; exact (op_inDeep hu I R (.int i) h2 rx ry e').1 (P0 ρ H _ .refl R (.bl _))
  | str i =>
    cases h2 with
    | str j => exact op_in_str pins s σ H _ _ v u Q I rx ry ⟨i, j, rfl, rfl, P ρ H _ .refl R (.bl _)⟩
    | dks hl hk hsys hki hv hr =>
      rename_i a es n ks ds vs
      cases e : dksG ks ds i with
      | none => exact op_in_kd ⟨hl, by rw [hpr]; exact hk, hsys⟩ pins s σ H _ _ v u Q I rx ry ⟨i, none, rfl, rfl, (dks_in (z := i) hl hki hv hr).2 e, by simp only [inF, e] at P; exact P ρ H _ .refl R (.bl _)⟩
      | some d =>
        obtain ⟨u0, w, e1, e2, e3⟩ := (dks_in (z := i) hl hki hv hr).1 d e
        exact op_in_kd ⟨hl, by rw [hpr]; exact hk, hsys⟩ pins s σ H _ _ v u Q I rx ry ⟨i, some u0, rfl, rfl, e1, by simp only [inF, e] at P; exact P ρ H _ .refl R (.bl _)⟩
    | _ => exact other rfl
  | tup q1 q2 =>
    rename_i a vs xs
    have P : PostO X.K g ρ H m Q ((inDeep m (.tup xs) d2).map .bl) := P
    cases e : inDeep m (.tup xs) d2 with
    | none => rw [e] at P; exact P.elim
    | some k => rw [e] at P; exact (op_inDeep hu I R (.tup q1 q2) h2 rx ry e).1 (P ρ H _ .refl R (.bl _))
  | lst q1 q2 q3 =>
    rename_i a vs xs
    have P : PostO X.K g ρ H m Q ((inDeep m (.lst xs) d2).map .bl) := P
    cases e : inDeep m (.lst xs) d2 with
    | none => rw [e] at P; exact P.elim
    | some k => rw [e] at P; exact (op_inDeep hu I R (.lst q1 q2 q3) h2 rx ry e).1 (P ρ H _ .refl R (.bl _))
  | _ => exact other rfl
theorem op_notinM (hpr : X.w.params = g.pr) (hu : X.A.units + 64 < cLine) : OpR X (compareOp .NotIn) (rO X.K g fun m x y => ((inF m x y).map (!·)).map .bl) := by
  intro pins s σ H x y v u Q I rx ry h
  obtain ⟨ρ, m, d1, d2, R, h1, h2, P⟩ := h
  dsimp only at P
  have other : (match flatD d1, seqD m d2 with
      | some v, some ys => (allD flatD ys).map (inV v)
      | _, _ => none) = inF m d1 d2 → wpAny (model X.prog X.w) X.A (compareOp .NotIn v u) (EP X pins σ Q) X.xe s := by
    intro e
    rw [← e] at P
    cases e1 : flatD d1 with
    | none => rw [e1] at P; exact P.elim
    | some a =>
      cases e2 : seqD m d2 with
      | none => rw [e1, e2] at P; exact P.elim
      | some b =>
        rw [e1, e2] at P
        cases e3 : allD flatD b with
        | none => simp only [e3] at P; exact P.elim
        | some us =>
          simp only [e3] at P
          obtain ⟨p, vs, rfl, hs, hr⟩ := h2.seq R e2
          obtain ⟨q1, q2⟩ := flats hr e3
          obtain ⟨q3, q4⟩ := h1.of_flat e1
          subst q1 q3
          exact op_notIn_seq pins s σ H _ _ v u Q I rx ry ⟨p, vs, rfl, (hs.imp id And.left), q4, q2, P ρ H _ .refl R (.bl _)⟩
  cases h1 with
  | non =>
    cases e : inFl m .non d2 with
    | some b => exact other (by show inFl m .non d2 = inF m .non d2; simp only [inF, e])
    | none =>
      have P0 : PostO X.K g ρ H m Q (((inDeep m .non d2).map (!·)).map .bl) := by simp only [inF, e] at P; exact P
      cases e' : inDeep m .non d2 with
      | none => rw [e'] at P0; exact P0.elim
      | some k => rw [e'] at P0; exact (op_inDeep hu I R .non h2 rx ry e').2 (P0 ρ H _ .refl R (.bl _))
  | int i =>
    cases e : inFl m (.int i) d2 with
    | some b => exact other (by show inFl m (.int i) d2 = inF m (.int i) d2; simp only [inF, e])
    | none =>
      have P0 : PostO X.K g ρ H m Q (((inDeep m (.int i) d2).map (!·)).map .bl) := by simp only [inF, e] at P; exact P
      cases e' : inDeep m (.int i) d2 with
      | none => rw [e'] at P0; exact P0.elim
      | some k => rw [e'] at P0; exact (op_inDeep hu I R (.int i) h2 rx ry e').2 (P0 ρ H _ .refl R (.bl _))
  | str i =>
    cases h2 with
    | str j => exact op_notin_str pins s σ H _ _ v u Q I rx ry ⟨i, j, rfl, rfl, P ρ H _ .refl R (.bl _)⟩
    | dks hl hk hsys hki hv hr =>
      rename_i a es n ks ds vs
      cases e : dksG ks ds i with
      | none => exact op_notIn_kd ⟨hl, by rw [hpr]; exact hk, hsys⟩ pins s σ H _ _ v u Q I rx ry ⟨i, none, rfl, rfl, (dks_in (z := i) hl hki hv hr).2 e, by simp only [inF, e] at P; exact P ρ H _ .refl R (.bl _)⟩
      | some d =>
        obtain ⟨u0, w, e1, e2, e3⟩ := (dks_in (z := i) hl hki hv hr).1 d e
        exact op_notIn_kd ⟨hl, by rw [hpr]; exact hk, hsys⟩ pins s σ H _ _ v u Q I rx ry ⟨i, some u0, rfl, rfl, e1, by simp only [inF, e] at P; exact P ρ H _ .refl R (.bl _)⟩
    | _ => exact other rfl
  | tup q1 q2 =>
    rename_i a vs xs
    have P : PostO X.K g ρ H m Q (((inDeep m (.tup xs) d2).map (!·)).map .bl) := P
    cases e : inDeep m (.tup xs) d2 with
    | none => rw [e] at P; exact P.elim
    | some k => rw [e] at P; exact (op_inDeep hu I R (.tup q1 q2) h2 rx ry e).2 (P ρ H _ .refl R (.bl _))
  | lst q1 q2 q3 =>
    rename_i a vs xs
    have P : PostO X.K g ρ H m Q (((inDeep m (.lst xs) d2).map (!·)).map .bl) := P
    cases e : inDeep m (.lst xs) d2 with
    | none => rw [e] at P; exact P.elim
    | some k => rw [e] at P; exact (op_inDeep hu I R (.lst q1 q2 q3) h2 rx ry e).2 (P ρ H _ .refl R (.bl _))
  | _ => exact other rfl
theorem op_cmpM (hpr : X.w.params = g.pr) (hu : X.A.units + 64 < cLine) (op : CmpOp) : OpR X (compareOp op) (rO X.K g fun m x y => (cmpF m op x y).map .bl) := by
  cases op with
  | Eq => exact op_eqM hu
  | NotEq => exact op_neM hu
  | Lt => exact op_ltTM hu op_lt
  | LtE => exact op_ordM op_le
  | Gt => exact op_gtTM hu op_gt
  | GtE => exact op_geTM hu op_ge
  | Is => exact op_isM
  | IsNot => exact op_isnotM
  | In => exact op_inM hpr hu
  | NotIn => exact op_notinM hpr hu
end
end Ev
namespace Ev
open PySem PySem.Spec PyProof.Rows L2
section
variable {X : Cx} {g : Gm}
theorem ix_M (hpr : X.w.params = g.pr) : IxR X (rO X.K g ixF) := by
  intro value slice pins s σ H x y v u Q I rx ry h hsub
  obtain ⟨ρ, m, d1, d2, R, h1, h2, P⟩ := h
  cases h2 with
  | int i =>
    have other : (seqD m d1).bind (fun xs => L2.atI xs i) = ixF m d1 (.int i) → wpAny (model X.prog X.w) X.A (subscriptTail value slice v u) (EP X pins σ Q) X.xe s := by
      intro e
      rw [← e] at P
      cases e1 : seqD m d1 with
      | none => rw [e1] at P; exact P.elim
      | some xs =>
        rw [e1, Option.bind_some] at P
        cases e2 : L2.atI xs i with
        | none => rw [e2] at P; exact P.elim
        | some d =>
          rw [e2] at P
          obtain ⟨a, vs, rfl, hs, hr⟩ := h1.seq R e1
          obtain ⟨w, e3, hw⟩ := hr.atI e2
          rcases hs with hs | hs
          · exact ix_list value slice pins s σ H _ _ v u Q I rx ry ⟨a, vs, i, w, rfl, rfl, hs, e3, P ρ H w .refl R hw⟩ hsub
          · exact ix_tup value slice pins s σ H _ _ v u Q I rx ry ⟨a, vs, i, w, rfl, rfl, hs.1, e3, P ρ H w .refl R hw⟩ hsub
    cases h1 with
    | str z =>
      simp only [ixF] at P
      by_cases hz : z.length ≤ sizeLine
      · rw [if_pos hz] at P
        cases e2 : L2.atI z.cps.toList i with
        | none => rw [e2] at P; exact P.elim
        | some c =>
          rw [e2] at P
          exact ix_str value slice pins s σ H _ _ v u Q I rx ry ⟨z, i, c, rfl, rfl, hz, e2, P ρ H _ .refl R (.str _)⟩ hsub
      · rw [if_neg hz] at P
        exact P.elim
    | _ => exact other rfl
  | str z =>
    cases h1 with
    | dks hl hk hsys hki hv hr =>
      simp only [ixF] at P
      rename_i a es n ks ds vs
      cases e : dksG ks ds z with
      | none => rw [e] at P; exact P.elim
      | some d =>
        rw [e] at P
        obtain ⟨u0, w, e1, e2, e3⟩ := (dks_in (z := z) hl hki hv hr).1 d e
        exact ix_kdict value slice pins s σ H _ _ v u Q I rx ry ⟨a, z, w, rfl, rfl, ⟨es, n, u0, hl, by rw [hpr]; exact hk, e1, e2⟩, P ρ H w .refl R e3⟩ hsub
    | _ => exact P.elim
  | _ => cases h1 <;> exact P.elim
def rSlM (K : PySem.W.Frag) (g : Gm) : V → Option Int → Option Int → Hp → VK → Prop := fun x lo hi H Q => ∃ ρ m d, Rel K g ρ m H ∧ RV K g ρ H d x ∧ PostO K g ρ H m Q (slF m d lo hi)
theorem cut_all {α : Type} (xs : List α) (lo hi : Option Int) (h1 : HT.sIx xs.length 0 lo = 0) (h2 : HT.sIx xs.length xs.length hi = xs.length) : cutL xs lo hi = xs := by
  unfold cutL
  rw [h1, h2]
  simp
theorem sl_M : SlR X (rSlM X.K g) := by
  intro pins s σ H x v vl vu lo hi sl Q I rx hs pl pu h
  obtain ⟨ρ, m, d, R, h1, P⟩ := h
  have other : (seqD m d).map (fun xs => D.lst (cutL xs lo hi)) = slF m d lo hi → (∀ xs, seqD m d = some xs → ∃ a vs, x = .ref a ∧ SqL X.K H a vs ∧ RVs X.K g ρ H xs vs) → ∃ T id, typeLookup (.type T) "__getitem__" = pure (some (.builtin id)) ∧ s.TypeIs v T ∧ wpAny (model X.prog X.w) X.A (getItem v (.ref sl)) (EP X pins σ Q) X.xe s := by
    intro e hL
    rw [← e] at P
    cases e1 : seqD m d with
    | none => rw [e1] at P; exact P.elim
    | some xs =>
      rw [e1] at P
      obtain ⟨a, vs, rfl, hs', hr⟩ := hL xs e1
      refine sl_list pins s σ H _ v vl vu lo hi sl Q I rx hs pl pu ⟨a, vs, rfl, hs', fun p hp => ?_⟩
      have G : Grow ρ H ρ (upd H p (.lst (cutV vs lo hi))) := Grow.new hp
      exact P ρ _ _ G (R.new hp) (.lst upd_same (R.out hp) ((hr.cut lo hi).grow G))
  have asL : (∀ xs, d ≠ .tup xs) → ∀ xs, seqD m d = some xs → ∃ a vs, x = .ref a ∧ SqL X.K H a vs ∧ RVs X.K g ρ H xs vs := by
    intro nt xs e1
    cases h1 with
    | tup a1 a2 => exact absurd rfl (nt _)
    | lst a1 a2 a3 => simp [seqD] at e1; subst e1; exact ⟨_, _, rfl, SqL.of a1, a3⟩
    | scr a1 => simp [seqD] at e1; subst e1; exact ⟨_, _, rfl, a1.sq, RVs.ints _⟩
    | ref hi' =>
      obtain ⟨p, vs, e2, q1, q2⟩ := RV.lstL (d := .ref _) R (.ref hi') (by simpa [seqD, lstD] using e1)
      exact ⟨p, vs, e2, SqL.of q1, q2⟩
    | _ => simp [seqD] at e1
  cases h1 with
  | tup a1 a2 =>
    rename_i a vs xs
    simp only [slF] at P
    have hl := a2.length
    refine sl_tupA pins s σ H _ v vl vu lo hi sl Q I rx hs pl pu ⟨a, vs, rfl, a1.1, fun ⟨z1, z2⟩ => ?_, fun _ p hp => ?_⟩
    · rw [← hl] at z1 z2
      rw [cut_all xs lo hi z1 z2] at P
      exact P ρ H _ .refl R (.tup a1 a2)
    · have G : Grow ρ H ρ (upd H p (.tup (cutV vs lo hi))) := Grow.new hp
      exact P ρ _ _ G (R.new hp) (.tup (TkT.of upd_same) ((a2.cut lo hi).grow G))
  | str z =>
    simp only [slF] at P
    by_cases hz : z.length ≤ sizeLine
    · rw [if_pos hz] at P
      refine sl_str pins s σ H _ v vl vu lo hi sl Q I rx hs pl pu ⟨z, rfl, hz, ?_⟩
      have e : cutS z lo hi = ⟨(cutL z.cps.toList lo hi).toArray⟩ := by
        unfold cutS cutL
        have : z.length = z.cps.toList.length := by simp [Str.length]
        rw [this]
      rw [e]
      exact P ρ H _ .refl R (.str _)
    · rw [if_neg hz] at P
      exact P.elim
  | lst a1 a2 a3 => exact other rfl (asL fun xs e => by cases e)
  | scr a1 => exact other rfl (asL fun xs e => by cases e)
  | ref a1 => exact other rfl (asL fun xs e => by cases e)
  | _ => exact P.elim
theorem RV.ls {K : PySem.W.Frag} {ρ : Rh} {H : Hp} {m : Mu} (R : Rel K g ρ m H) {d : D} {v : V} {xs : List D} (h : RV K g ρ H d v) (e : lsD m d = some xs) : ∃ a vs, v = .ref a ∧ SqL K H a vs ∧ RVs K g ρ H xs vs := by
  cases h with
  | tup a1 a2 => simp [lsD] at e
  | lst a1 a2 a3 => simp [lsD, seqD] at e; subst e; exact ⟨_, _, rfl, SqL.of a1, a3⟩
  | scr a1 => simp [lsD, seqD] at e; subst e; exact ⟨_, _, rfl, a1.sq, RVs.ints _⟩
  | ref hi' =>
    obtain ⟨p, vs, e2, q1, q2⟩ := RV.lstL (d := .ref _) R (.ref hi') (by simpa [lsD, seqD, lstD] using e)
    exact ⟨p, vs, e2, SqL.of q1, q2⟩
  | _ => simp [lsD, seqD] at e
theorem RVs.one {K : PySem.W.Frag} {ρ : Rh} {H : Hp} {d : D} {xs : List V} (h : RVs K g ρ H [d] xs) : ∃ v, xs = [v] ∧ RV K g ρ H d v := by
  cases h with
  | cons h r => cases r; exact ⟨_, rfl, h⟩
theorem RVs.two {K : PySem.W.Frag} {ρ : Rh} {H : Hp} {d e : D} {xs : List V} (h : RVs K g ρ H [d, e] xs) : ∃ v w, xs = [v, w] ∧ RV K g ρ H d v ∧ RV K g ρ H e w := by
  cases h with
  | cons h r =>
    cases r with
    | cons h2 r2 => cases r2; exact ⟨_, _, rfl, h, h2⟩
theorem bi_len : CallR X (.builtin "len") (rOA X.K g fun m => biF m .len) := by
  intro pins s σ H xs us Q I r h
  obtain ⟨ρ, m, ds, R, h1, P⟩ := h
  match ds, h1, P with
  | [d], h1, P =>
    obtain ⟨v, rfl, h2⟩ := h1.one
    simp only [biF] at P
    have other : (seqD m d).map (fun xs => D.int xs.length) = lenF m d → wpAny (model X.prog X.w) X.A (call (.builtin "len") us) (EP X pins σ Q) X.xe s := by
      intro e
      rw [← e] at P
      cases e1 : seqD m d with
      | none => rw [e1] at P; exact P.elim
      | some ys =>
        rw [e1] at P
        obtain ⟨a, vs, rfl, hs, hr⟩ := h2.seq R e1
        refine call_len_seq pins s σ H _ us Q I r ⟨a, vs, rfl, (hs.imp id And.left), ?_⟩
        have P' := P ρ H _ .refl R (.int _)
        rw [hr.length] at P'
        exact P'
    cases h2 with
    | str z =>
      simp only [lenF] at P
      by_cases hz : z.length ≤ sizeLine
      · rw [if_pos hz] at P
        exact call_len_str pins s σ H _ us Q I r ⟨z, rfl, hz, P ρ H _ .refl R (.int _)⟩
      · rw [if_neg hz] at P
        exact P.elim
    | _ => exact other rfl
  | [], _, P => exact P.elim
  | _ :: _ :: _, _, P => exact P.elim
theorem bi_tuple : CallR X (.type "tuple") (rOA X.K g fun m => biF m .tuple) := by
  intro pins s σ H xs us Q I r h
  obtain ⟨ρ, m, ds, R, h1, P⟩ := h
  match ds, h1, P with
  | [d], h1, P =>
    obtain ⟨v, rfl, h2⟩ := h1.one
    simp only [biF] at P
    cases e1 : seqD m d with
    | none => rw [e1] at P; exact P.elim
    | some ys =>
      rw [e1] at P
      obtain ⟨a, vs, rfl, hs, hr⟩ := h2.seq R e1
      rcases hs with hs | hs
      · refine call_tuple_of pins s σ H _ us Q I r ⟨a, vs, rfl, .inl ⟨hs, fun p hp => ?_⟩⟩
        have G : Grow ρ H ρ (upd H p (.tup vs)) := Grow.new hp
        exact P ρ _ _ G (R.new hp) (.tup (TkT.of upd_same) (hr.grow G))
      · exact call_tuple_of pins s σ H _ us Q I r ⟨a, vs, rfl, .inr ⟨hs.1, P ρ H _ .refl R (.tup hs hr)⟩⟩
  | [], _, P => exact P.elim
  | _ :: _ :: _, _, P => exact P.elim
theorem bi_list : CallR X (.type "list") (rOA X.K g fun m => biF m .list) := by
  intro pins s σ H xs us Q I r h
  obtain ⟨ρ, m, ds, R, h1, P⟩ := h
  match ds, h1, P with
  | [d], h1, P =>
    obtain ⟨v, rfl, h2⟩ := h1.one
    simp only [biF] at P
    cases e1 : seqD m d with
    | none => rw [e1] at P; exact P.elim
    | some ys =>
      rw [e1] at P
      obtain ⟨a, vs, rfl, hs, hr⟩ := h2.seq R e1
      refine call_list_of pins s σ H _ us Q I r ⟨a, vs, rfl, (hs.imp id And.left), fun p hp => ?_⟩
      have G : Grow ρ H ρ (upd H p (.lst vs)) := Grow.new hp
      exact P ρ _ _ G (R.new hp) (.lst upd_same (R.out hp) (hr.grow G))
  | [], _, P => exact P.elim
  | _ :: _ :: _, _, P => exact P.elim
theorem bi_of {α : Type} {f : D → Option α} {k : α → V} (hf : ∀ (ρ : Rh) (H : Hp) d v a, RV X.K g ρ H d v → f d = some a → v = k a) {id : String} {F : List α → Option D}
    (hc : ∀ (pins : List (Addr × Obj)) (s : Shared) (σ : L2.St) (H : Hp) (a : Addr) (as : List α) (d : D) (us : List Value) (Q : VK), Inv X pins σ H s → Vals [V.ref a] us → SqL X.K H a (as.map k) → F as = some d → (∀ v, RV X.K g ⟨[], []⟩ (fun _ => none) d v → Q v H) →
      wpAny (model X.prog X.w) X.A (call (.builtin id) us) (EP X pins σ Q) X.xe s)
    (hF : ∀ as d, F as = some d → ∃ i b, d = .int i ∨ d = .bl b) :
    CallR X (.builtin id) (rOA X.K g fun m ds => match ds with | [x] => ((lsD m x).bind (allD f)).bind F | _ => none) := by
  intro pins s σ H xs us Q I r h
  obtain ⟨ρ, m, ds, R, h1, P⟩ := h
  match ds, h1, P with
  | [d], h1, P =>
    obtain ⟨v, rfl, h2⟩ := h1.one
    dsimp only at P
    cases e1 : lsD m d with
    | none => rw [e1] at P; exact P.elim
    | some ys =>
      rw [e1, Option.bind_some] at P
      cases e2 : allD f ys with
      | none => rw [e2] at P; exact P.elim
      | some as =>
        rw [e2, Option.bind_some] at P
        cases e3 : F as with
        | none => rw [e3] at P; exact P.elim
        | some d' =>
          rw [e3] at P
          obtain ⟨a, vs, rfl, hs, hr⟩ := h2.ls R e1
          obtain rfl := hr.all (hf ρ H) e2
          refine hc pins s σ H a as d' us Q I r hs e3 fun v hv => P ρ H v .refl R ?_
          obtain ⟨i, b, e | e⟩ := hF as d' e3 <;> subst e <;> cases hv
          · exact .int _
          · exact .bl _
  | [], _, P => exact P.elim
  | _ :: _ :: _, _, P => exact P.elim
theorem bind_some_map {α β : Type} (o : Option α) (f : α → β) : o.bind (fun a => some (f a)) = o.map f := by cases o <;> rfl
theorem CallR.imp {f : Value} {r r' : List V → Hp → VK → Prop} (h : CallR X f r) (hi : ∀ xs H Q, r' xs H Q → r xs H Q) : CallR X f r' := fun pins s σ H xs us Q I rv q => h pins s σ H xs us Q I rv (hi xs H Q q)
theorem rOA_eq {F F' : Mu → List D → Option D} (h : ∀ m ds, F m ds = F' m ds) : ∀ xs H Q, rOA X.K g F xs H Q → rOA X.K g F' xs H Q := fun xs H Q ⟨ρ, m, ds, R, h1, P⟩ => ⟨ρ, m, ds, R, h1, by rw [← h]; exact P⟩
theorem bi_all (hc : X.calm = true) : CallR X (.builtin "all") (rOA X.K g fun m => biF m .all) := by
  refine CallR.imp (bi_of (g := g) (f := blD) (k := V.bl) (fun _ _ _ _ _ h e => h.of_bl e) (F := fun bs => some (.bl (bs.all id)))
    (fun pins s σ H a bs d us Q I r hs e q => cr_all hc pins s σ H _ us Q I r ⟨a, bs, rfl, hs, q _ (by cases e; exact .bl _)⟩) (fun bs d e => ⟨0, bs.all id, .inr (by cases e; rfl)⟩)) (rOA_eq ?_)
  intro m ds
  match ds with
  | [x] => simp only [biF]; rw [bind_some_map]
  | [] => rfl
  | _ :: _ :: _ => rfl
theorem bi_any (hc : X.calm = true) : CallR X (.builtin "any") (rOA X.K g fun m => biF m .any) := by
  refine CallR.imp (bi_of (g := g) (f := blD) (k := V.bl) (fun _ _ _ _ _ h e => h.of_bl e) (F := fun bs => some (.bl (bs.any id)))
    (fun pins s σ H a bs d us Q I r hs e q => cr_any hc pins s σ H _ us Q I r ⟨a, bs, rfl, hs, q _ (by cases e; exact .bl _)⟩) (fun bs d e => ⟨0, bs.any id, .inr (by cases e; rfl)⟩)) (rOA_eq ?_)
  intro m ds
  match ds with
  | [x] => simp only [biF]; rw [bind_some_map]
  | [] => rfl
  | _ :: _ :: _ => rfl
theorem bi_sum (hc : X.calm = true) : CallR X (.builtin "sum") (rOA X.K g fun m => biF m .sum) := by
  refine CallR.imp (bi_of (g := g) (f := intD) (k := V.int) (fun _ _ _ _ _ h e => h.of_int e) (F := fun ns => some (.int ns.sum))
    (fun pins s σ H a ns d us Q I r hs e q => cr_sum hc pins s σ H _ us Q I r ⟨a, ns, rfl, hs, q _ (by cases e; exact .int _)⟩) (fun ns d e => ⟨ns.sum, true, .inl (by cases e; rfl)⟩)) (rOA_eq ?_)
  intro m ds
  match ds with
  | [x] => simp only [biF]; rw [bind_some_map]
  | [] => rfl
  | _ :: _ :: _ => rfl
theorem foldl_max : ∀ (r : List Int) (x : Int), x ≤ r.foldl max x ∧ (∀ y ∈ r, y ≤ r.foldl max x) ∧ (r.foldl max x = x ∨ r.foldl max x ∈ r)
  | [], x => ⟨Int.le_refl _, fun y h => (nomatch h), .inl rfl⟩
  | a :: r, x => by
    obtain ⟨h1, h2, h3⟩ := foldl_max r (max x a)
    rw [List.foldl_cons]
    refine ⟨by omega, fun y hy => ?_, ?_⟩
    · rcases List.mem_cons.mp hy with e | hy
      · subst e; omega
      · exact h2 y hy
    · rcases h3 with h3 | h3
      · rw [h3]
        by_cases hx : a ≤ x
        · exact .inl (by omega)
        · exact .inr (List.mem_cons.mpr (.inl (by omega)))
      · exact .inr (List.mem_cons_of_mem _ h3)
theorem foldl_min : ∀ (r : List Int) (x : Int), r.foldl min x ≤ x ∧ (∀ y ∈ r, r.foldl min x ≤ y) ∧ (r.foldl min x = x ∨ r.foldl min x ∈ r)
  | [], x => ⟨Int.le_refl _, fun y h => (nomatch h), .inl rfl⟩
  | a :: r, x => by
    obtain ⟨h1, h2, h3⟩ := foldl_min r (min x a)
    rw [List.foldl_cons]
    refine ⟨by omega, fun y hy => ?_, ?_⟩
    · rcases List.mem_cons.mp hy with e | hy
      · subst e; omega
      · exact h2 y hy
    · rcases h3 with h3 | h3
      · rw [h3]
        by_cases hx : x ≤ a
        · exact .inl (by omega)
        · exact .inr (List.mem_cons.mpr (.inl (by omega)))
      · exact .inr (List.mem_cons_of_mem _ h3)
theorem bi_max (hc : X.calm = true) : CallR X (.builtin "max") (rOA X.K g fun m => biF m .max) := by
  refine CallR.imp (bi_of (g := g) (f := intD) (k := V.int) (fun _ _ _ _ _ h e => h.of_int e) (F := fun ns => (maxL ns).map .int)
    (fun pins s σ H a ns d us Q I r hs e q => cr_max hc pins s σ H _ us Q I r ⟨a, ns, rfl, hs, ?_, fun mx h1 h2 => q _ ?_⟩) (fun ns d e => ?_)) (rOA_eq ?_)
  · cases ns with
    | nil => cases e
    | cons x t => exact Nat.succ_pos _
  · cases ns with
    | nil => cases e
    | cons x t =>
      cases e
      obtain ⟨a1, a2, a3⟩ := foldl_max t x
      have e : t.foldl max x = mx := by
        refine Int.le_antisymm ?_ ?_
        · rcases a3 with a3 | a3
          · rw [a3]; exact h2 x List.mem_cons_self
          · exact h2 _ (List.mem_cons_of_mem _ a3)
        · rcases List.mem_cons.mp h1 with z | z
          · rw [z]; exact a1
          · exact a2 mx z
      rw [e]
      exact .int _
  · cases ns with
    | nil => cases e
    | cons x t => exact ⟨t.foldl max x, true, .inl (by cases e; rfl)⟩
  · intro m ds
    match ds with
    | [x] => simp only [biF]; cases (lsD m x).bind (allD intD) <;> rfl
    | [] => rfl
    | _ :: _ :: _ => rfl
theorem bi_min (hc : X.calm = true) : CallR X (.builtin "min") (rOA X.K g fun m => biF m .min) := by
  refine CallR.imp (bi_of (g := g) (f := intD) (k := V.int) (fun _ _ _ _ _ h e => h.of_int e) (F := fun ns => (minL ns).map .int)
    (fun pins s σ H a ns d us Q I r hs e q => cr_min hc pins s σ H _ us Q I r ⟨a, ns, rfl, hs, ?_, fun mx h1 h2 => q _ ?_⟩) (fun ns d e => ?_)) (rOA_eq ?_)
  · cases ns with
    | nil => cases e
    | cons x t => exact Nat.succ_pos _
  · cases ns with
    | nil => cases e
    | cons x t =>
      cases e
      obtain ⟨a1, a2, a3⟩ := foldl_min t x
      have e : t.foldl min x = mx := by
        refine Int.le_antisymm ?_ ?_
        · rcases List.mem_cons.mp h1 with z | z
          · rw [z]; exact a1
          · exact a2 mx z
        · rcases a3 with a3 | a3
          · rw [a3]; exact h2 x List.mem_cons_self
          · exact h2 _ (List.mem_cons_of_mem _ a3)
      rw [e]
      exact .int _
  · cases ns with
    | nil => cases e
    | cons x t => exact ⟨t.foldl min x, true, .inl (by cases e; rfl)⟩
  · intro m ds
    match ds with
    | [x] => simp only [biF]; cases (lsD m x).bind (allD intD) <;> rfl
    | [] => rfl
    | _ :: _ :: _ => rfl
theorem bi_max2 (hc : X.calm = true) : CallR X (.builtin "max") (rOA X.K g fun m => biF m .max2) := by
  intro pins s σ H xs us Q I r h
  obtain ⟨ρ, m, ds, R, h1, P⟩ := h
  match ds, h1, P with
  | [.int i, .int j], h1, P =>
    obtain ⟨v, w, rfl, h2, h3⟩ := h1.two
    cases h2
    cases h3
    exact call_max2 hc pins s σ H _ us Q I r ⟨i, j, rfl, P ρ H _ .refl R (.int _)⟩
theorem bi_min2 (hc : X.calm = true) : CallR X (.builtin "min") (rOA X.K g fun m => biF m .min2) := by
  intro pins s σ H xs us Q I r h
  obtain ⟨ρ, m, ds, R, h1, P⟩ := h
  match ds, h1, P with
  | [.int i, .int j], h1, P =>
    obtain ⟨v, w, rfl, h2, h3⟩ := h1.two
    cases h2
    cases h3
    exact call_min2 hc pins s σ H _ us Q I r ⟨i, j, rfl, P ρ H _ .refl R (.int _)⟩
theorem RVs.three {K : PySem.W.Frag} {ρ : Rh} {H : Hp} {a b c : D} {xs : List V} (h : RVs K g ρ H [a, b, c] xs) : ∃ u v w, xs = [u, v, w] ∧ RV K g ρ H a u ∧ RV K g ρ H b v ∧ RV K g ρ H c w := by
  cases h with
  | cons h1 r =>
    obtain ⟨v, w, rfl, h2, h3⟩ := r.two
    exact ⟨_, v, w, rfl, h1, h2, h3⟩
theorem bi_min3 (hc : X.calm = true) : CallR X (.builtin "min") (rOA X.K g fun m => biF m .min3) := by
  intro pins s σ H xs us Q I r h
  obtain ⟨ρ, m, ds, R, h1, P⟩ := h
  dsimp only at P
  match ds, h1, P with
  | [], _, P => simp [biF, PostO] at P
  | [_], _, P => simp [biF, PostO] at P
  | [_, _], _, P => simp [biF, PostO] at P
  | _ :: _ :: _ :: _ :: _, _, P => simp [biF, PostO] at P
  | [x, y, z], h1, P =>
    cases x with
    | int i =>
      cases y with
      | int j =>
        cases z with
        | int k =>
          obtain ⟨u, v, w, rfl, h2, h3, h4⟩ := h1.three
          cases h2
          cases h3
          cases h4
          refine call_min3Nu hc pins s σ H _ us Q I r ⟨_, _, _, .int (if k < (if j < i then j else i) then k else (if j < i then j else i)), rfl, ?_, P ρ H _ .refl R (.int _)⟩
          by_cases h1 : j < i
          · by_cases h2 : k < j <;> simp [nuMin3, nuMin2, nuLt, nuCB, h1, h2]
          · by_cases h2 : k < i <;> simp [nuMin3, nuMin2, nuLt, nuCB, h1, h2]
        | _ => simp [biF, PostO] at P
      | _ => simp [biF, PostO] at P
    | _ => simp [biF, PostO] at P
theorem bi_ord : CallR X (.builtin "ord") (rOA X.K g fun m => biF m .ord) := by
  intro pins s σ H xs us Q I r h
  obtain ⟨ρ, m, ds, R, h1, P⟩ := h
  match ds, h1, P with
  | [.str z], h1, P =>
    obtain ⟨v, rfl, h2⟩ := h1.one
    cases h2
    simp only [biF] at P
    by_cases hz : z.length = 1
    · rw [if_pos hz] at P
      exact call_ord pins s σ H _ us Q I r ⟨z, rfl, hz, P ρ H _ .refl R (.int _)⟩
    · rw [if_neg hz] at P
      exact P.elim
theorem bi_int : CallR X (.type "int") (rOA X.K g fun m => biF m .int) := by
  intro pins s σ H xs us Q I r h
  obtain ⟨ρ, m, ds, R, h1, P⟩ := h
  match ds, h1, P with
  | [.int i], h1, P =>
    obtain ⟨v, rfl, h2⟩ := h1.one
    cases h2
    exact call_int1 pins s σ H _ us Q I r (.inl ⟨i, rfl, P ρ H _ .refl R (.int _)⟩)
  | [.bl i], h1, P =>
    obtain ⟨v, rfl, h2⟩ := h1.one
    cases h2
    exact call_int1 pins s σ H _ us Q I r (.inr ⟨i, rfl, P ρ H _ .refl R (.int _)⟩)
end
end Ev
namespace Ev
open PySem PySem.Spec PyProof.Rows L2
section
variable {X : Cx} {g : Gm} {pins : List (Addr × Obj)} {s : Shared} {σ : L2.St} {H : Hp}
mutual
theorem flatT_reads (I : Inv X pins σ H s) {ρ : Rh} {m : Mu} : ∀ {d : D} {v : V}, RV X.K g ρ H d v → ∀ {u : Value} {p : PyData}, RelV v u → pyD m d = some p → flatT p = true → ∃ as, Reads s.heap u p as ∧ sysModules ∉ as
  | _, _, .non, u, p, r, e, _ => by
    simp [pyD] at e; subst e; cases r; exact ⟨_, Reads.none, by simp⟩
  | _, _, .bl b, u, p, r, e, _ => by
    simp [pyD] at e; subst e; cases r; exact ⟨_, Reads.bool b, by simp⟩
  | _, _, .int i, u, p, r, e, _ => by
    simp [pyD] at e; subst e; obtain ⟨t, rfl⟩ := r; exact ⟨_, Reads.int i t, by simp⟩
  | _, _, .str x, u, p, r, e, _ => by
    simp [pyD] at e; subst e; obtain ⟨t, rfl⟩ := r; exact ⟨_, Reads.str x t, by simp⟩
  | _, _, .tup (a := a) (vs := vs) (xs := xs) hs hr, u, p, r, e, hf => by
    simp only [pyD] at e
    cases r
    cases e2 : pyDs m xs with
    | none => rw [e2] at e; cases e
    | some ps =>
      rw [e2] at e
      cases e
      obtain ⟨its, rv, ⟨o, ho, hc, n, hd⟩, _⟩ := I.tuple hs.1
      obtain ⟨as, q1, q2⟩ := flatTs_read I hr rv e2 (by simpa [flatT] using hf)
      exact ⟨as, Reads.tuple ho hc hd q1, q2⟩
  | _, _, .dct a1 a2, u, p, r, e, _ => by
    simp [pyD] at e
    subst e
    cases r
    obtain ⟨_, hsm, vs, kv, o, es, ep, ho, ex, hd, _, hl, _⟩ := I.hok _ _ a1
    have hvs : vs = [] := by cases kv; rfl
    subst hvs
    have hes : es.toList = [] := by cases hz : es.toList with | nil => rfl | cons a b => rw [hz] at hl; cases hl
    refine ⟨_, Reads.dict (as := []) (bs := []) ho ex.1 hd (by rw [hes]; exact .nil) (by rw [hes]; exact .nil), fun hm => ?_⟩
    have := beq_eq_false_iff_ne.mp hsm
    simp at hm
    exact this hm.symm
  | _, _, .lst _ _ _, u, p, r, e, hf => by
    exfalso
    simp only [pyD, Option.map_eq_some_iff] at e
    obtain ⟨ps, _, rfl⟩ := e
    simp [flatT] at hf
  | _, _, .scr _, u, p, r, e, hf => by
    exfalso
    first
      | (simp [pyD] at e; done)
      | (simp [pyD] at e; subst e; simp [flatT] at hf)
  | _, _, .ref _, u, p, r, e, hf => by exfalso; simp [pyD] at e
  | _, _, .fn _, u, p, r, e, hf => by exfalso; simp [pyD] at e
  | _, _, .cls _, u, p, r, e, hf => by exfalso; simp [pyD] at e
  | _, _, .ty _, u, p, r, e, hf => by exfalso; simp [pyD] at e
  | _, _, .xo0 _ _ _, u, p, r, e, hf => by exfalso; simp [pyD] at e
  | _, _, .xo1 _ _ _ _ _ _ _ _, u, p, r, e, hf => by exfalso; simp [pyD] at e
  | _, _, .dks _ _ _ _ _ _, u, p, r, e, hf => by exfalso; simp [pyD] at e
  | _, _, .dcn _ _ _ _ _ _ _ _ _, u, p, r, e, hf => by exfalso; simp [pyD] at e
  | _, _, .tts _ _ _ _, u, p, r, e, hf => by exfalso; simp [pyD] at e
  | _, _, .lam _ _ _ _ _, u, p, r, e, hf => by exfalso; simp [pyD] at e
theorem flatTs_read (I : Inv X pins σ H s) {ρ : Rh} {m : Mu} : ∀ {ds : List D} {vs : List V}, RVs X.K g ρ H ds vs → ∀ {us : List Value} {ps : List PyData}, Vals vs us → pyDs m ds = some ps → flatTs ps = true → ∃ as, ReadsAll s.heap us ps as ∧ sysModules ∉ as
  | _, _, .nil, us, ps, r, e, _ => by
    cases r
    simp [pyDs] at e
    subst e
    exact ⟨[], .nil, by simp⟩
  | _, _, .cons h r, us, ps, rv, e, hf => by
    cases rv with
    | cons r1 r2 =>
      simp only [pyDs] at e
      split at e
      · rename_i a l e1 e2
        cases e
        simp only [flatTs, Bool.and_eq_true] at hf
        obtain ⟨as, q1, q2⟩ := flatT_reads I h r1 e1 hf.1
        obtain ⟨bs, q3, q4⟩ := flatTs_read I r r2 e2 hf.2
        exact ⟨as ++ bs, .cons q1 q3, by simp [q2, q4]⟩
      · cases e
end
end
section
variable {X : Cx} {g : Gm}
theorem bi_repr (gd : X.A.guards = some []) (hu : X.A.units + 64 < cLine) : CallR X (.builtin "repr") (rOA X.K g fun m => biF m .repr) := by
  intro pins s σ H xs us Q I r h
  obtain ⟨ρ, m, ds, R, h1, P⟩ := h
  match ds, h1, P with
  | [], _, P => exact P.elim
  | _ :: _ :: _, _, P => exact P.elim
  | [d], h1, P =>
    obtain ⟨v, rfl, h2⟩ := h1.one
    obtain ⟨u, rfl, ru⟩ := vals1 r
    simp only [biF, reprF] at P
    cases e1 : pyM m d with
    | none => rw [e1] at P; exact P.elim
    | some p =>
      rw [e1] at P
      dsimp only at P
      cases hk : (plainP p && p.showable && decide (p.depth ≤ 60) && decide (p.shown.length ≤ sizeLine)) with
      | false => rw [hk] at P; exact P.elim
      | true =>
        rw [hk] at P
        simp only [Bool.and_eq_true, decide_eq_true_eq] at hk
        obtain ⟨⟨⟨k1, k2⟩, k3⟩, k4⟩ := hk
        have q : Q (.str p.shown) H := P ρ H _ .refl R (.str _)
        have box : ∀ {a : Addr} {as : List Addr}, u = .ref a → Reads s.heap (.ref a) p as → (p.hasDict = true → sysModules ∉ as) → wpAny (model X.prog X.w) X.A (call (.builtin "repr") [u]) (EP X pins σ Q) X.xe s := by
          intro a as e rd hm
          subst e
          exact repr_of_reads' rd k2 hm gd (by omega) (fun _ _ e => e) (fun h' u' tk hk => ⟨.str p.shown, H, I.kept hk, ⟨_, rfl⟩, q⟩) k4
        have seq : ∀ {a : Addr}, v = .ref a → (p.canLay0 = true) → wpAny (model X.prog X.w) X.A (call (.builtin "repr") [u]) (EP X pins σ Q) X.xe s := by
          intro a e hc
          subst e
          obtain ⟨as, rd⟩ := Dp.reads I p _ u (h2.dpM R e1 hc) ru
          cases ru
          exact box rfl rd (PyData.noDict_hsm (PyData.hasDict_of_canLay p hc))
        have lay : (∀ a, p ≠ .dict a) → flatT p = false → p.canLay0 = true := by
          intro hn hf
          cases p <;> first | (exact absurd rfl (hn _)) | (simp only [plainP, hf, Bool.or_false] at k1; exact k1)
        cases h2 with
        | non =>
          simp [pyM, pyD] at e1
          subst e1
          cases ru
          exact PySem.P.repr_of_none ⟨.str _, H, I.tok _, ⟨_, rfl⟩, q⟩
        | bl b =>
          simp [pyM, pyD] at e1
          subst e1
          cases ru
          exact PySem.P.repr_of_bool ⟨.str _, H, I.tok _, ⟨_, rfl⟩, q⟩
        | int i =>
          simp [pyM, pyD] at e1
          subst e1
          obtain ⟨t, rfl⟩ := ru
          exact PySem.P.repr_of_int (by simpa [PyData.showable] using k2) ⟨.str _, H, I.tok _, ⟨_, rfl⟩, q⟩
        | str x =>
          simp [pyM, pyD] at e1
          subst e1
          obtain ⟨t, rfl⟩ := ru
          exact PySem.P.repr_of_str ⟨.str _, H, I.tok _, ⟨_, rfl⟩, q⟩ (by simpa [PyData.shown] using k4)
        | tup a1 a2 =>
          by_cases hT : flatT p = true
          · obtain ⟨as, rd, ns⟩ := flatT_reads I (.tup a1 a2) ru e1 hT
            cases ru
            exact box rfl rd fun _ => ns
          · exact seq rfl (lay (fun a e => by subst e; simp [pyM, pyD] at e1) (by simpa using hT))
        | lst a1 a2 a3 =>
          obtain ⟨ps, rfl⟩ : ∃ ps, p = .list ps := by
            simp only [pyM, pyD, Option.map_eq_some_iff] at e1
            obtain ⟨ps, _, h⟩ := e1
            exact ⟨ps, h.symm⟩
          exact seq rfl (lay (fun a e => by cases e) rfl)
        | scr a1 =>
          obtain ⟨ps, rfl⟩ : ∃ ps, p = .list ps := by
            simp [pyM, pyD] at e1
            exact ⟨_, e1.symm⟩
          exact seq rfl (lay (fun a e => by cases e) rfl)
        | ref a1 =>
          obtain ⟨ps, rfl⟩ : ∃ ps, p = .list ps := by
            simp only [pyM] at e1
            split at e1
            · simp only [Option.map_eq_some_iff] at e1
              obtain ⟨ps, _, h⟩ := e1
              exact ⟨ps, h.symm⟩
            · simp at e1
          exact seq rfl (lay (fun a e => by cases e) rfl)
        | xo0 _ _ _ => simp [pyM, pyD] at e1
        | xo1 _ _ _ _ _ _ _ _ => simp [pyM, pyD] at e1
        | dks _ _ _ _ _ _ => simp [pyM, pyD] at e1
        | dcn _ _ _ _ _ _ _ _ _ => simp [pyM, pyD] at e1
        | tts _ _ _ _ => simp [pyM, pyD] at e1
        | lam _ _ _ _ _ => simp [pyM, pyD] at e1
        | dct a1 a2 =>
          simp [pyM, pyD] at e1
          subst e1
          cases ru
          obtain ⟨_, hsm, vs, kv, o, es, ep, ho, ex, hd, _, hl, _⟩ := I.hok _ _ a1
          have hvs : vs = [] := by cases kv; rfl
          subst hvs
          have hes : es.toList = [] := by cases hz : es.toList with | nil => rfl | cons a b => rw [hz] at hl; cases hl
          refine box rfl (Reads.dict (as := []) (bs := []) ho ex.1 hd (by rw [hes]; exact .nil) (by rw [hes]; exact .nil)) fun _ hm => ?_
          have := beq_eq_false_iff_ne.mp hsm
          simp at hm
          exact this hm.symm
        | fn a1 => simp [pyM, pyD] at e1
        | cls a1 => simp [pyM, pyD] at e1
        | ty a1 => simp [pyM, pyD] at e1
theorem RV.tyx {K : PySem.W.Frag} {ρ : Rh} {H : Hp} {m : Mu} (R : Rel K g ρ m H) {d : D} {v : V} {t : String} (h : RV K g ρ H d v) (e : tyD m d = some t) : TyX K H v (.type t) := by
  cases h with
  | non => simp [tyD] at e; subst e; exact .base .non
  | bl b => simp [tyD] at e; subst e; exact .base (.bl b)
  | int b => simp [tyD] at e; subst e; exact .base (.int b)
  | str b => simp [tyD] at e; subst e; exact .base (.str b)
  | tup a1 a2 =>
    simp [tyD] at e; subst e
    rcases a1 with (a1 | ⟨o, a1⟩) | ⟨o, its, n, a1, a2, _⟩
    · exact .base (.tup a1)
    · exact .fTuple a1
    · exact .kTuple a1 a2
  | lst a1 a2 a3 => simp [tyD] at e; subst e; exact .base (.lst a1)
  | scr a1 =>
    simp [tyD] at e; subst e
    rcases a1 with ⟨a1, _⟩ | ⟨o, a1⟩ | ⟨o, its, n, a1, a2, _⟩
    · exact .base (.lst a1)
    · exact .base (.frz a1)
    · exact .kList a1 a2
  | dct a1 a2 => simp [tyD] at e; subst e; exact .base (.dK a1)
  | dks a1 _ _ _ _ _ => simp [tyD] at e; subst e; exact .kDict a1 rfl
  | tts _ _ _ _ => simp [tyD] at e
  | dcn _ _ _ _ _ _ _ _ _ => simp [tyD] at e
  | lam _ _ _ _ _ => simp [tyD] at e
  | ref a1 =>
    simp only [tyD] at e
    split at e
    · rename_i xs hm
      cases e
      obtain ⟨a, h1, vs, h2, h3⟩ := R.get hm
      rw [a1] at h1; cases h1
      exact .base (.lst h2)
    · cases e
  | _ => simp [tyD] at e
end
end Ev
namespace Ev
open PySem PySem.SeqAt PySem.Calls PyProof.Rows
open PySem.W (EachIs Looks)
section
variable {prog : Program} {w : World} {A : Around} {E : Value → Shared → Prop} {s : Shared}
theorem call_tuple_lt {Q : Value → Shared → Prop} {l b : Addr} {items items2 : Array Value} {e r : Nat → Bool} (hl : s.heap.IsTuple l items) (hb : s.heap.IsTuple b items2)
    (he : ∀ j (h1 : j < items.size) (h2 : j < items2.size), EqAt A.in1 s items[j] items2[j] (e j)) (hr : ∀ j (h1 : j < items.size) (h2 : j < items2.size), e j = false → RcLt A.in1 s items[j] items2[j] (r j))
    (h : Q (.bool (firstLt e r (decide (items.size < items2.size)) (List.range (min items.size items2.size)))) s) : wpAny (model prog w) A (call (.builtin "tuple.__lt__") [.ref l, .ref b]) Q E s := by
  obtain ⟨⟨cls, dd, data, sl⟩, ho, hc, n, hd⟩ := id hl
  obtain ⟨⟨cls2, dd2, data2, sl2⟩, ho2, hc2, n2, hd2⟩ := id hb
  simp only at hc hd hc2 hd2
  subst hc hd hc2 hd2
  exact call_meets F.slot_tuple_lt ⟨_, ho, rfl⟩ F.entry_tuple_lt (F.args_tuple_lt_2 _ _) (tuple_ltAt l b items items2 n n2 dd dd2 sl sl2 e r) ⟨ho, ho2, he, hr, h⟩
theorem lt_tup {xs ys : List PyData} {a b : Value} {as bs : List Addr} {Q : Bool → Shared → Prop} (ra : Reads s.heap a (.tuple xs) as) (rb : Reads s.heap b (.tuple ys) bs) (h : PySem.W.alike (.tuple xs) (.tuple ys) = true)
    (hu : A.units + min (PyData.tuple xs).depth (PyData.tuple ys).depth < cLine) (hq : Q (PySem.W.dataLt (.tuple xs) (.tuple ys)) s) : wpAny (model prog w) A (keyLt' oneType' a b) Q E s := by
  have hal : PySem.W.alikeAll xs ys = true := by simpa [PySem.W.alike] using h
  cases ra with
  | @tuple l o vs n _ as₁ h1 h2 h3 h4 =>
    cases rb with
    | @tuple l' o' vs' n' _ bs₁ k1 k2 k3 k4 =>
      have n1 : vs.size = xs.length := by simpa using ReadsAll.length _ _ _ h4
      have n2 : vs'.size = ys.length := by simpa using ReadsAll.length _ _ _ k4
      rw [PySem.W.dataLt_tuple, ← PySem.W.firstLt_toks xs ys hal, ← n1, ← n2] at hq
      rw [keyLt'_oneType, oneLt'_eq]
      simp only [if_true]
      refine wpAny_bind (wpAny_cRoomFor (room_here hu) ?_)
      refine wpAny_bind (wpAny_callSpecialIfBound?_slot (T := "tuple") ⟨_, h1, h2⟩ F.slot_tuple_lt (call_tuple_lt (e := pairEq xs ys) (r := fun j => PySem.W.dataLt (xs.getD j .none) (ys.getD j .none)) ⟨_, h1, h2, _, h3⟩ ⟨_, k1, k2, _, k3⟩ (fun j j1 j2 => ?_) (fun j j1 j2 hj => ?_) ?_))
      · have := PySem.W.eqAt_alikeAll xs ys A.in1 s vs.toList vs'.toList _ _ h4 k4 hal (room_in hu) j (by simpa using j1) (by simpa using j2)
        simpa using this
      · have := PySem.W.rcLt_alikeAll xs ys A.in1 s vs.toList vs'.toList _ _ h4 k4 hal (room_in hu) j (by simpa using j1) (by simpa using j2) hj
        simpa using this
      · exact wpAny_truthy_bool hq
theorem firsts_any : ∀ (vs : List Value) {Q : List (Option Value) → Shared → Prop}, (∀ v ∈ vs, ∃ xs as, Reads s.heap v (.tuple xs) as) → (∀ fs : List (Option Value), fs.length = vs.length → Q fs s) → wpAny (model prog w) A (vs.mapM firstOfTuple') Q E s
  | [], Q, _, h => by rw [List.mapM_nil]; exact wpAny_pure (h [] rfl)
  | v :: vs, Q, hv, h => by
    obtain ⟨xs, as, r⟩ := hv v (List.mem_cons_self ..)
    cases r with
    | @tuple l o its n _ _ ho hc hd h4 =>
      rw [List.mapM_cons]
      refine wpAny_bind ?_
      rw [PySem.W.kas_first_eq]
      refine wpAny_bind (Looks.here (show Looks (model prog w) s.heap (typeOf (.ref l)) o.cls from (Looks.ld ho).andThen .now) ?_)
      rw [hc, if_neg (by first | decide | simp)]
      refine wpAny_bind (listItems_at ho hd (wpAny_pure ?_))
      exact wpAny_bind (firsts_any vs (Q := fun bs s' => wpAny (model prog w) A (pure (its[0]? :: bs)) Q E s') (fun u hu => hv u (List.mem_cons_of_mem _ hu)) fun fs hfs => wpAny_pure (h _ (by rw [List.length_cons, List.length_cons, hfs])))
theorem kind_tup {v : Value} {vs : List Value} {Q : SortKind → Shared → Prop} (h0 : ∃ as, Reads s.heap v (.tuple []) as) (hv : ∀ u ∈ vs, ∃ xs as, Reads s.heap u (.tuple xs) as) (h : Q oneType' s) :
    wpAny (model prog w) A (keyKind' (v :: vs).toArray) Q E s := by
  obtain ⟨as, r⟩ := h0
  have hall : ∀ u ∈ v :: vs, Looks (model prog w) s.heap (typeOf u) (Value.type "tuple") := fun u hu => by
    rcases List.mem_cons.mp hu with rfl | hu
    · exact PySem.W.looks_reads (d := .tuple []) r
    · obtain ⟨xs, as, r⟩ := hv u hu
      exact PySem.W.looks_reads r
  have r0 := r
  cases r with
  | @tuple l o its n _ _ ho hc hd h4 =>
    have hn : its.size = 0 := by simpa using ReadsAll.length _ _ _ h4
    have h00 : its[0]? = none := by simp [hn]
    rw [keyKind'_eq, List.mapM_toArray, map_eq_pure_bind]
    refine wpAny_bind (wpAny_bind ?_)
    rw [List.mapM_cons]
    refine wpAny_bind ?_
    rw [PySem.W.kas_first_eq]
    refine wpAny_bind (Looks.here (show Looks (model prog w) s.heap (typeOf (.ref l)) o.cls from (Looks.ld ho).andThen .now) ?_)
    rw [hc, if_neg (by first | decide | simp)]
    refine wpAny_bind (listItems_at ho hd (wpAny_pure ?_))
    rw [h00]
    refine wpAny_bind (firsts_any vs hv fun fs hfs => wpAny_pure (wpAny_pure ?_))
    rw [if_neg (by simp), if_neg (by simp)]
    rw [oneTypeOnly'_eq, List.mapM_toArray, map_eq_pure_bind]
    refine wpAny_bind (wpAny_bind (wpAny_bind (PySem.W.kas_mapM (r := Value.type "tuple") _ (fun v hv Q' hq => (hall v hv).here hq) (wpAny_pure ?_))))
    have hall2 : ((List.map (fun _ => Value.type "tuple") (Value.ref l :: vs)).toArray.all fun x => x == Value.type "tuple") = true := by
      simp only [List.all_toArray, List.all_map, List.all_eq_true]
      intro _ _
      exact beq_self_eq_true _
    have h0 : (List.map (fun _ => Value.type "tuple") (Value.ref l :: vs)).toArray[0]? = some (Value.type "tuple") := by simp
    rw [h0]
    simp only [hall2, if_true]
    exact wpAny_pure (wpAny_pure h)
theorem sorts_rows {v : Value} {vs : List Value} {ds : List PyData} (e : EachIs (fun v d => ∃ as, Reads s.heap v d as) (v :: vs) (.tuple [] :: ds)) (ht : ∀ d ∈ ds, ∃ xs, d = .tuple xs) (hal : PySem.W.AllAlike (.tuple [] :: ds)) (hu : ∀ d, d ∈ PyData.tuple [] :: ds → A.units + d.depth < cLine) :
    PySem.W.SortsAt prog w A s (PySem.W.dataKind s.heap (.tuple [] :: ds)) (v :: vs) := by
  have room : ∀ {d d' : PyData}, d ∈ PyData.tuple [] :: ds → A.units + min d.depth d'.depth < cLine := fun {d d'} hd => Nat.lt_of_le_of_lt (Nat.add_le_add_left (Nat.min_le_left _ _) _) (hu d hd)
  have ht' : ∀ d ∈ PyData.tuple [] :: ds, ∃ xs, d = .tuple xs := fun d hd => by
    rcases List.mem_cons.mp hd with rfl | hd
    · exact ⟨[], rfl⟩
    · exact ht d hd
  refine ⟨fun v hv => ?_, oneType', ?_, fun h2 E Q hq => ?_⟩
  · obtain ⟨d, hd, as, r⟩ := e.left v hv
    exact ⟨_, PySem.W.dataKind_some hal hd r⟩
  · intro E x y a b Q ha hb hq
    obtain ⟨d, as, hd, ra, rfl⟩ := PySem.W.dataKind_inv ha
    obtain ⟨d', as', hd', rb, rfl⟩ := PySem.W.dataKind_inv hb
    have hdd := hal d hd d' hd'
    have hroom := room (d' := d') hd
    obtain ⟨xs, rfl⟩ := ht' d hd
    obtain ⟨ys, rfl⟩ := ht' d' hd'
    exact lt_tup ra rb hdd hroom hq
  · cases e with
    | cons h1 h2 =>
      refine kind_tup h1 (fun u hu => ?_) hq
      obtain ⟨d, hd, as, r⟩ := h2.left u hu
      obtain ⟨xs, rfl⟩ := ht d hd
      exact ⟨xs, as, r⟩
theorem firsts_some : ∀ {vs : List Value} {xss : List (List PyData)} {Q : List (Option Value) → Shared → Prop}, EachIs (fun v xs => ∃ as, Reads s.heap v (.tuple xs) as) vs xss → (∀ fs : List (Option Value), fs.map (·.isSome) = xss.map (fun xs => !xs.isEmpty) → Q fs s) → wpAny (model prog w) A (vs.mapM firstOfTuple') Q E s
  | [], _, Q, .nil, h => by rw [List.mapM_nil]; exact wpAny_pure (h [] rfl)
  | v :: vs, _, Q, .cons (b := xs) ⟨as, r⟩ t, h => by
    cases r with
    | @tuple l o its n _ _ ho hc hd h4 =>
      have hl : its.size = xs.length := by simpa using ReadsAll.length _ _ _ h4
      rw [List.mapM_cons]
      refine wpAny_bind ?_
      rw [PySem.W.kas_first_eq]
      refine wpAny_bind (Looks.here (show Looks (model prog w) s.heap (typeOf (.ref l)) o.cls from (Looks.ld ho).andThen .now) ?_)
      rw [hc, if_neg (by first | decide | simp)]
      refine wpAny_bind (listItems_at ho hd (wpAny_pure ?_))
      refine wpAny_bind (firsts_some (Q := fun bs s' => wpAny (model prog w) A (pure (its[0]? :: bs)) Q E s') t fun fs hfs => wpAny_pure (h _ ?_))
      rw [List.map_cons, List.map_cons, hfs]
      congr 1
      cases xs with
      | nil => simp at hl; simp [hl]
      | cons x r => simp at hl; simp [hl]
theorem kind_gen {vs : List Value} {xs : List PyData} {xss : List (List PyData)} {Q : SortKind → Shared → Prop} (e : EachIs (fun v xs => ∃ as, Reads s.heap v (.tuple xs) as) vs (xs :: xss)) (h1 : xs ≠ []) (h2 : [] ∈ xss) (h : Q general' s) :
    wpAny (model prog w) A (keyKind' vs.toArray) Q E s := by
  rw [keyKind'_eq, List.mapM_toArray, map_eq_pure_bind]
  refine wpAny_bind (wpAny_bind (firsts_some e fun fs hfs => wpAny_pure ?_))
  cases fs with
  | nil => simp at hfs
  | cons f fr =>
    simp only [List.map_cons, List.cons.injEq] at hfs
    have hf : f.isSome = true := by rw [hfs.1]; cases xs with | nil => exact absurd rfl h1 | cons _ _ => rfl
    have hno : ((f :: fr).toArray.all (·.isSome)) = false := by
      rw [List.all_toArray, List.all_cons, hf, Bool.true_and]
      rw [show fr.all (·.isSome) = (fr.map (·.isSome)).all id by rw [List.all_map]; rfl, hfs.2, List.all_map]
      rw [List.all_eq_false]
      exact ⟨[], h2, by simp⟩
    rw [if_neg (by rw [hno]; simp)]
    obtain ⟨f', rfl⟩ := Option.isSome_iff_exists.mp hf
    rw [if_pos (by simp)]
    exact wpAny_pure h
theorem lt_gen {xs ys : List PyData} {a b : Value} {as bs : List Addr} {Q : Bool → Shared → Prop} (ra : Reads s.heap a (.tuple xs) as) (rb : Reads s.heap b (.tuple ys) bs) (h : PySem.W.alike (.tuple xs) (.tuple ys) = true)
    (hu : A.units + min (PyData.tuple xs).depth (PyData.tuple ys).depth < cLine) (hq : Q (PySem.W.dataLt (.tuple xs) (.tuple ys)) s) : wpAny (model prog w) A (keyLt' general' a b) Q E s := by
  rw [show keyLt' general' a b = oneLt' false a b from rfl, oneLt'_eq]
  simp only [Bool.false_eq_true, if_false]
  refine wpAny_bind (PySem.W.rcLt_alike _ _ A s a b as bs ra rb h (fun z => nomatch z) hu prog w E _ ?_)
  exact wpAny_truthy_bool hq
theorem sorts_any {vs : List Value} {ds : List PyData} (e : EachIs (fun v d => ∃ as, Reads s.heap v d as) vs ds) (ht : ∀ d ∈ ds, ∃ xs, d = .tuple xs) (hal : PySem.W.AllAlike ds) (hu : ∀ d, d ∈ ds → A.units + d.depth < cLine) :
    PySem.W.SortsAt prog w A s (PySem.W.dataKind s.heap ds) vs := by
  by_cases hne : ∀ d ∈ ds, ∃ x r, d = .tuple (x :: r)
  · exact PySem.W.SortsAt.data e hal (.inl hne) hu
  · cases ds with
    | nil => exact absurd (fun d hd => nomatch hd) hne
    | cons d0 dr =>
      obtain ⟨xs0, rfl⟩ := ht _ (List.mem_cons_self ..)
      cases xs0 with
      | nil =>
        cases e with
        | cons e1 e2 => exact sorts_rows (.cons e1 e2) (fun d hd => ht d (List.mem_cons_of_mem _ hd)) hal hu
      | cons x0 r0 =>
        have room : ∀ {d d' : PyData}, d ∈ PyData.tuple (x0 :: r0) :: dr → A.units + min d.depth d'.depth < cLine := fun {d d'} hd => Nat.lt_of_le_of_lt (Nat.add_le_add_left (Nat.min_le_left _ _) _) (hu d hd)
        refine ⟨fun v hv => ?_, general', ?_, fun h2 E Q hq => ?_⟩
        · obtain ⟨d, hd, as, r⟩ := e.left v hv
          exact ⟨_, PySem.W.dataKind_some hal hd r⟩
        · intro E x y a b Q ha hb hq
          obtain ⟨d, as, hd, ra, rfl⟩ := PySem.W.dataKind_inv ha
          obtain ⟨d', as', hd', rb, rfl⟩ := PySem.W.dataKind_inv hb
          have hdd := hal d hd d' hd'
          have hroom := room (d' := d') hd
          obtain ⟨xs, rfl⟩ := ht d hd
          obtain ⟨ys, rfl⟩ := ht d' hd'
          exact lt_gen ra rb hdd hroom hq
        · have tups : ∀ {vs : List Value} {ds : List PyData}, EachIs (fun v d => ∃ as, Reads s.heap v d as) vs ds → (∀ d ∈ ds, ∃ xs, d = .tuple xs) → ∃ xss, ds = xss.map PyData.tuple ∧ EachIs (fun v xs => ∃ as, Reads s.heap v (.tuple xs) as) vs xss := by
            intro vs ds e
            induction e with
            | nil => exact fun _ => ⟨[], rfl, .nil⟩
            | cons q t ih =>
              intro ht
              obtain ⟨xss, rfl, h2⟩ := ih fun d hd => ht d (List.mem_cons_of_mem _ hd)
              obtain ⟨xs, rfl⟩ := ht _ (List.mem_cons_self ..)
              exact ⟨xs :: xss, rfl, .cons q h2⟩
          obtain ⟨xss, hx, he⟩ := tups e ht
          cases xss with
          | nil => cases hx
          | cons ys yss =>
            rw [List.map_cons] at hx
            obtain ⟨h3, h4⟩ := List.cons.inj hx
            have h3' : x0 :: r0 = ys := PyData.tuple.inj h3
            refine kind_gen he (by rw [← h3']; simp) ?_ hq
            refine Classical.byContradiction fun hno => hne fun d hd => ?_
            rcases List.mem_cons.mp hd with rfl | hd
            · exact ⟨_, _, rfl⟩
            · rw [h4] at hd
              obtain ⟨zs, hz, rfl⟩ := List.mem_map.mp hd
              cases zs with
              | nil => exact absurd hz hno
              | cons z zr => exact ⟨_, _, rfl⟩
theorem collect_tup {l : Addr} {vs : List Value} {Q : List Value → Shared → Prop} (hl : s.heap.IsTuple l vs.toArray)
    (h : Q vs { s with heap := (s.heap.push (seqObj "list" #[] 0)).update s.heap.objs.size (Obj.mapSeq (· ++ vs.toArray)) }) (hsz : vs.length ≤ sizeLine) :
    wpAny (model prog w) A (collect (.ref l)) Q E s := by
  obtain ⟨o, ho, hc, n, hd⟩ := id hl
  unfold collect
  refine wpAny_bind (wpAny_runValue (codeAny_builtin entry_proto_collect' ?_))
  show wpAny _ _ (do again (.builtin "list.__iadd__" ⟨[← newList [], .ref l], []⟩)) _ _ s
  refine wpAny_bind (wpAny_newList (wpAny_pure ⟨Code.quiet_builtin _ (by decide +kernel), codeAny_builtin entry_list_iadd' ?_⟩))
  show wpAny _ _ (Builtin.List.listExtendWith (.ref s.heap.objs.size) (.ref l) (.ref s.heap.objs.size)) _ _ { s with heap := s.heap.push (seqObj "list" #[] 0) }
  unfold Builtin.List.listExtendWith
  have ho' : (s.heap.push (seqObj "list" #[] 0)).get? l = some o := Heap.get?_push_of_some _ ho
  refine wpAny_bind (wpAny_typeOf (T := "tuple") ⟨o, ho', hc⟩ ?_)
  have ht : (Value.type "tuple" == Value.type "tuple") = true := by rfl
  rw [if_pos (by rw [ht]; simp)]
  refine wpAny_bind (listItems_at ho' hd ?_)
  refine wpAny_bind (listItems_at (xs := #[]) (n := 0) (Heap.get?_push_size _ rfl) rfl ?_)
  rw [if_neg (by simp)]
  refine wpAny_bind (listUpdate_at (xs := #[]) (n := 0) (Heap.get?_push_size _ rfl) rfl ?_ (Nat.zero_le _) (by show (#[] ++ vs.toArray).size ≤ sizeLine + 1; simp only [Array.size_append, List.size_toArray, List.length_nil]; omega))
  refine wpAny_pure ?_
  show wpAny (model prog w) A (do
      let o ← load s.heap.objs.size
      match o.data with
      | .seq xs _ => pure xs.toList
      | _ => unsupported "internal:collect") Q E { s with heap := (s.heap.push (seqObj "list" #[] 0)).update s.heap.objs.size (Obj.mapSeq (· ++ vs.toArray)) }
  refine wpAny_bind (wpAny_load (get?_update_seq (Heap.get?_push_size _ rfl) _) ?_)
  show wpAny _ _ (pure ((#[] : Array Value) ++ vs.toArray).toList) Q E _
  rw [show ((#[] : Array Value) ++ vs.toArray).toList = vs by simp]
  exact wpAny_pure h
theorem sortedT_vals {κ : PyProof.Rows.KeyKind} {l : Addr} {vs : List Value} {Q : Value → Shared → Prop} (hl : s.heap.IsTuple l vs.toArray) (S : PySem.W.SortsAt prog w A.in1.in1 { s with heap := PySem.W.sortingHeap (PySem.W.copyHeap s.heap vs) (s.heap.objs.size + 1) vs } κ vs) (hL : vs.length ≤ sizeLine)
    (h : Q (.ref (s.heap.objs.size + 1)) { s with heap := sortedAll s.heap vs (PySem.W.sortVals κ false vs vs).toArray }) : wpAny (model prog w) A (call (.builtin "sorted") [.ref l]) Q E s := by
  refine call_function_entry_kw kind_sorted plain_sorted entry_sorted (args_sorted1 _) ?_
  unfold Builtin.«sorted»
  refine wpAny_bind (m := checkCount "sorted" 1 1 _) (wpAny_pure ?_)
  refine wpAny_bind (collect_tup hl ?_ hL)
  refine wpAny_bind (wpAny_newList ?_ hL)
  have hsz : ((s.heap.push (seqObj "list" #[] 0)).update s.heap.objs.size (Obj.mapSeq (· ++ vs.toArray))).objs.size = s.heap.objs.size + 1 := by
    rw [Heap.size_update, size_push']
  show wpAny _ _ _ _ _ { s with heap := PySem.W.copyHeap s.heap vs }
  rw [hsz]
  refine wpAny_bind (wpAny_holding (wpAny_call_entry_kw slot_list_sort ⟨_, PySem.W.copyHeap_at s.heap vs, rfl⟩ entry_list_sort ?body (args_list_sort _)))
  case body =>
    show wpAny (model prog w) A.in1.in1 (Builtin.«list.sort» ⟨[.ref (s.heap.objs.size + 1)], []⟩) _ _ _
    exact PySem.W.list_sort_vals (s := { s with heap := PySem.W.copyHeap s.heap vs }) (PySem.W.copyHeap_at s.heap vs) S hL ⟨_, rfl, wpAny_pure ⟨_, rfl, h⟩⟩
end
open L2
theorem row_ints : ∀ {ps : List PyData}, (ps.all fun p => match p with | .int _ => true | _ => false) = true → ∃ ns : List Int, ps = ns.map .int
  | [], _ => ⟨[], rfl⟩
  | p :: r, h => by
    rw [List.all_cons, Bool.and_eq_true] at h
    obtain ⟨ns, rfl⟩ := row_ints h.2
    cases p <;> simp at h
    exact ⟨_ :: ns, rfl⟩
theorem rowP_inv {p : PyData} (h : rowP p = true) : ∃ ns : List Int, p = .tuple (ns.map .int) := by
  cases p <;> simp only [rowP] at h <;> first | (cases h; done) | skip
  obtain ⟨ns, rfl⟩ := row_ints h
  exact ⟨ns, rfl⟩
theorem lay_ints : ∀ ns : List Int, PyData.canLayAll0 (ns.map .int) = true
  | [] => rfl
  | _ :: r => by simp [PyData.canLayAll0, PyData.canLay0, lay_ints r]
theorem alike_rows {p q : PyData} (hp : rowP p = true) (hq : rowP q = true) : PySem.W.alike p q = true := by
  obtain ⟨ns, rfl⟩ := rowP_inv hp
  obtain ⟨ms, rfl⟩ := rowP_inv hq
  simpa only [PySem.W.alike] using PySem.W.alike_ints ns ms
theorem prP_inv {p : PyData} (h : prP p = true) : ∃ a b : List Int, p = .tuple [.tuple (a.map .int), .tuple (b.map .int)] := by
  unfold prP at h
  split at h
  · rw [Bool.and_eq_true] at h
    obtain ⟨a, rfl⟩ := rowP_inv h.1
    obtain ⟨b, rfl⟩ := rowP_inv h.2
    exact ⟨a, b, rfl⟩
  · cases h
theorem piP_inv {p : PyData} (h : piP p = true) : ∃ (a : List Int) (b : Int), p = .tuple [.tuple (a.map .int), .int b] := by
  unfold piP at h
  split at h
  · obtain ⟨a, rfl⟩ := rowP_inv h
    exact ⟨a, _, rfl⟩
  · cases h
theorem pi_lay (a : List Int) (b : Int) : (PyData.tuple [.tuple (a.map .int), .int b]).canLay0 = true := by
  simp only [PyData.canLay0, PyData.canLayAll0, lay_ints, Bool.and_self]
theorem pi_depth (a : List Int) (b : Int) : (PyData.tuple [.tuple (a.map .int), .int b]).depth ≤ 2 := by
  simp only [PyData.depth, PyData.depthAll, PySem.W.depth_ints]
  omega
theorem alike_pis {p q : PyData} (hp : piP p = true) (hq : piP q = true) : PySem.W.alike p q = true := by
  obtain ⟨a, b, rfl⟩ := piP_inv hp
  obtain ⟨c, d, rfl⟩ := piP_inv hq
  simp only [PySem.W.alike, PySem.W.alikeAll, PySem.W.alike_ints, Bool.and_self]
theorem pr_lay (a b : List Int) : (PyData.tuple [.tuple (a.map .int), .tuple (b.map .int)]).canLay0 = true := by
  simp only [PyData.canLay0, PyData.canLayAll0, lay_ints, Bool.and_self]
theorem pr_depth (a b : List Int) : (PyData.tuple [.tuple (a.map .int), .tuple (b.map .int)]).depth ≤ 2 := by
  simp only [PyData.depth, PyData.depthAll, PySem.W.depth_ints]
  omega
theorem alike_prs {p q : PyData} (hp : prP p = true) (hq : prP q = true) : PySem.W.alike p q = true := by
  obtain ⟨a, b, rfl⟩ := prP_inv hp
  obtain ⟨c, d, rfl⟩ := prP_inv hq
  simp only [PySem.W.alike, PySem.W.alikeAll, PySem.W.alike_ints, Bool.and_self]
section
variable {X : Cx} {g : Gm}
theorem each_zip {K : PySem.W.Frag} {ρ : Rh} {H : Hp} {T : Value → D × V → Prop} : ∀ {ds : List D} {vs : List V} {us : List Value}, RVs K g ρ H ds vs → Vals vs us → (∀ d v u, d ∈ ds → RV K g ρ H d v → RelV v u → T u (d, v)) → EachIs T us (ds.zip vs)
  | _, _, _, .nil, .nil, _ => .nil
  | _, _, _, .cons h r, .cons q t, hT => .cons (hT _ _ _ (List.mem_cons_self ..) h q) (each_zip r t fun d v u hd => hT d v u (List.mem_cons_of_mem _ hd))
theorem zip_fst {K : PySem.W.Frag} {ρ : Rh} {H : Hp} : ∀ {ds : List D} {vs : List V}, RVs K g ρ H ds vs → (ds.zip vs).map (·.1) = ds ∧ ∀ p ∈ ds.zip vs, RV K g ρ H p.1 p.2
  | _, _, .nil => ⟨rfl, fun p hp => by simp at hp⟩
  | _, _, .cons h r => by
    obtain ⟨e, q⟩ := zip_fst r
    refine ⟨by simp [e], fun p hp => ?_⟩
    rw [List.zip_cons_cons] at hp
    rcases List.mem_cons.mp hp with rfl | hp
    · exact h
    · exact q p hp
theorem rvs_pairs {K : PySem.W.Frag} {ρ : Rh} {H : Hp} : ∀ {ps : List (D × V)}, (∀ p ∈ ps, RV K g ρ H p.1 p.2) → RVs K g ρ H (ps.map (·.1)) (ps.map (·.2))
  | [], _ => .nil
  | p :: r, h => .cons (h p (List.mem_cons_self ..)) (rvs_pairs fun q hq => h q (List.mem_cons_of_mem _ hq))
theorem vals_pairs : ∀ {ps : List (D × V)} {us : List Value}, EachIs (fun u (p : D × V) => RelV p.2 u) us ps → Vals (ps.map (·.2)) us
  | _, _, .nil => .nil
  | _, _, .cons h t => .cons h (vals_pairs t)
theorem srt_fin {pins : List (Addr × Obj)} {σ : L2.St} {H : Hp} {s : Shared} {ρ : Rh} {m : Mu} {ds : List D} {vs : List V} {Q : VK} {out : List Value} {hF : Heap} {t ep : Nat} {L : Addr} (I : Inv X pins σ H s) (R : Rel X.K g ρ m H) (hr : RVs X.K g ρ H ds vs) (hz : vs.length ≤ sizeLine)
    (P : ∀ ρ' H' v, Grow ρ H ρ' H' → Rel X.K g ρ' m H' → RV X.K g ρ' H' (.lst (ds.mergeSort (rowLe m))) v → Q v H')
    (hE : EachIs (fun u (p : D × V) => RelV p.2 u) out ((ds.zip vs).mergeSort (PySem.W.dataLe false fun p : D × V => pyd m p.1)))
    (keeps : ∀ b o, s.heap.get? b = some o → hF.get? b = some o) (hL : s.heap.objs.size ≤ L) (hat : hF.get? L = some (seqObj "list" out.toArray ep)) : EP X pins σ Q (.ref L) { s with heap := hF, toks := t } := by
  have hlen := hr.length
  obtain ⟨z1, z2⟩ := zip_fst hr
  generalize hS : (ds.zip vs).mergeSort (PySem.W.dataLe false fun p : D × V => pyd m p.1) = S at hE
  have hperm : S.Perm (ds.zip vs) := by rw [← hS]; exact List.mergeSort_perm _ _
  have hfst : S.map (·.1) = ds.mergeSort (rowLe m) := by
    conv => rhs; rw [← z1]
    rw [← hS]
    exact List.map_mergeSort fun p _ q _ => rfl
  have hrvs : RVs X.K g ρ H (S.map (·.1)) (S.map (·.2)) := rvs_pairs fun p hp => z2 p (hperm.mem_iff.mp hp)
  have hn : H L = none := I.hok.fresh hL
  have G : Grow ρ H ρ (upd H L (.lst (S.map (·.2)))) := Grow.new hn
  have hlz : (S.map (·.2)).length ≤ sizeLine := by
    rw [List.length_map, hperm.length_eq, List.length_zip]
    omega
  refine ⟨.ref _, upd H L (.lst (S.map (·.2))), I.laid (t' := t) keeps hL ⟨hlz, out, ep, vals_pairs hE, hat⟩, rfl, ?_⟩
  refine P ρ _ _ G (R.new hn) ?_
  rw [← hfst]
  exact .lst upd_same (R.out hn) (hrvs.grow G)
theorem orB3 {a b c : Bool} (h : (a || b || c) = true) : a = true ∨ b = true ∨ c = true := by
  cases a <;> cases b <;> cases c <;> simp_all
theorem srt_each {pins : List (Addr × Obj)} {σ : L2.St} {H : Hp} {s : Shared} {ρ : Rh} {m : Mu} {ds : List D} {vs : List V} {its : List Value} (I : Inv X pins σ H s) (hr : RVs X.K g ρ H ds vs) (rv : Vals vs its) (hall : rowsB m ds = true) :
    EachIs (fun u (p : D × V) => RelV p.2 u) its (ds.zip vs) ∧ EachIs (fun u (p : D × V) => ∃ as, Reads s.heap u (pyd m p.1) as) its (ds.zip vs) ∧ PySem.W.AllAlike ((ds.zip vs).map fun p => pyd m p.1) ∧ (∀ d ∈ (ds.zip vs).map (fun p : D × V => pyd m p.1), ∃ xs, d = .tuple xs) ∧ ∀ d ∈ (ds.zip vs).map (fun p : D × V => pyd m p.1), d.depth ≤ 2 := by
  obtain ⟨z1, z2⟩ := zip_fst hr
  have hmem : ∀ p ∈ ds.zip vs, p.1 ∈ ds := fun p hp => by
    have : p.1 ∈ (ds.zip vs).map (·.1) := List.mem_map.mpr ⟨p, hp, rfl⟩
    rw [z1] at this
    exact this
  have one : ∀ {f : PyData → Bool}, (ds.all fun y => (pyD m y).isSome && f (pyd m y)) = true → ∀ y ∈ ds, (∃ p, pyD m y = some p) ∧ f (pyd m y) = true := fun {f} h y hy => by
    rw [List.all_eq_true] at h
    have := h y hy
    rw [Bool.and_eq_true, Option.isSome_iff_exists] at this
    exact this
  refine ⟨each_zip hr rv fun _ _ _ _ _ q => q, each_zip hr rv fun y v u hy hv q => ?_, ?_⟩
  · show ∃ as, Reads s.heap u (pyd m y) as
    rcases orB3 hall with h | h | h
    · obtain ⟨⟨p, hp⟩, hrow⟩ := one h y hy
      have hpd : pyd m y = p := by simp [pyd, hp]
      rw [hpd] at hrow ⊢
      obtain ⟨ns, rfl⟩ := rowP_inv hrow
      exact Dp.reads I _ _ u (hv.dp hp (by simpa only [PyData.canLay0] using lay_ints ns)) q
    · obtain ⟨⟨p, hp⟩, hrow⟩ := one h y hy
      have hpd : pyd m y = p := by simp [pyd, hp]
      rw [hpd] at hrow ⊢
      obtain ⟨n1, n2, rfl⟩ := prP_inv hrow
      exact Dp.reads I _ _ u (hv.dp hp (pr_lay n1 n2)) q
    · obtain ⟨⟨p, hp⟩, hrow⟩ := one h y hy
      have hpd : pyd m y = p := by simp [pyd, hp]
      rw [hpd] at hrow ⊢
      obtain ⟨n1, n2, rfl⟩ := piP_inv hrow
      exact Dp.reads I _ _ u (hv.dp hp (pi_lay n1 n2)) q
  · rcases orB3 hall with h | h | h
    · refine ⟨fun p hp q hq => ?_, fun d hd => ?_, fun d hd => ?_⟩
      · obtain ⟨p', hp', rfl⟩ := List.mem_map.mp hp
        obtain ⟨q', hq', rfl⟩ := List.mem_map.mp hq
        exact alike_rows (one h _ (hmem p' hp')).2 (one h _ (hmem q' hq')).2
      · obtain ⟨p', hp', rfl⟩ := List.mem_map.mp hd
        obtain ⟨ns, q⟩ := rowP_inv (one h _ (hmem p' hp')).2
        exact ⟨_, q⟩
      · obtain ⟨p', hp', rfl⟩ := List.mem_map.mp hd
        obtain ⟨ns, q⟩ := rowP_inv (one h _ (hmem p' hp')).2
        rw [q]
        simp only [PyData.depth, PySem.W.depth_ints]
        omega
    · refine ⟨fun p hp q hq => ?_, fun d hd => ?_, fun d hd => ?_⟩
      · obtain ⟨p', hp', rfl⟩ := List.mem_map.mp hp
        obtain ⟨q', hq', rfl⟩ := List.mem_map.mp hq
        exact alike_prs (one h _ (hmem p' hp')).2 (one h _ (hmem q' hq')).2
      · obtain ⟨p', hp', rfl⟩ := List.mem_map.mp hd
        obtain ⟨n1, n2, q⟩ := prP_inv (one h _ (hmem p' hp')).2
        exact ⟨_, q⟩
      · obtain ⟨p', hp', rfl⟩ := List.mem_map.mp hd
        obtain ⟨n1, n2, q⟩ := prP_inv (one h _ (hmem p' hp')).2
        rw [q]
        exact pr_depth n1 n2
    · refine ⟨fun p hp q hq => ?_, fun d hd => ?_, fun d hd => ?_⟩
      · obtain ⟨p', hp', rfl⟩ := List.mem_map.mp hp
        obtain ⟨q', hq', rfl⟩ := List.mem_map.mp hq
        exact alike_pis (one h _ (hmem p' hp')).2 (one h _ (hmem q' hq')).2
      · obtain ⟨p', hp', rfl⟩ := List.mem_map.mp hd
        obtain ⟨n1, n2, q⟩ := piP_inv (one h _ (hmem p' hp')).2
        exact ⟨_, q⟩
      · obtain ⟨p', hp', rfl⟩ := List.mem_map.mp hd
        obtain ⟨n1, n2, q⟩ := piP_inv (one h _ (hmem p' hp')).2
        rw [q]
        exact pi_depth n1 n2
theorem srt_at {pins : List (Addr × Obj)} {σ : L2.St} {H : Hp} {s s1 : Shared} {ρ : Rh} {m : Mu} {ds : List D} {vs : List V} {its : List Value} {A : Around} (I : Inv X pins σ H s) (hr : RVs X.K g ρ H ds vs) (rv : Vals vs its) (hall : rowsB m ds = true) (hu : A.units + 2 < cLine) (keeps : ∀ b o, s.heap.get? b = some o → s1.heap.get? b = some o) :
    PySem.W.SortsAt X.prog X.w A s1 (PySem.W.dataKind s1.heap ((ds.zip vs).map fun p => pyd m p.1)) its ∧ EachIs (fun u (p : D × V) => RelV p.2 u) (PySem.W.sortVals (PySem.W.dataKind s1.heap ((ds.zip vs).map fun p => pyd m p.1)) false its its) ((ds.zip vs).mergeSort (PySem.W.dataLe false fun p : D × V => pyd m p.1)) := by
  obtain ⟨e, er, hal, ht, hd⟩ := srt_each I hr rv hall
  have er' : EachIs (fun u (p : D × V) => ∃ as, Reads s1.heap u (pyd m p.1) as) its (ds.zip vs) := er.mono fun _ _ ⟨as, r⟩ => ⟨as, PyProof.Rows.Reads.keeps keeps r⟩
  have em := PySem.W.each_map (R := fun v' d => ∃ as, Reads s1.heap v' d as) (fun p : D × V => pyd m p.1) er'
  exact ⟨sorts_any em ht hal fun d hd' => by have := hd d hd'; omega, PySem.W.sortVals_data false e er' hal⟩
theorem srt_ints {pins : List (Addr × Obj)} {σ : L2.St} {H : Hp} {s s1 : Shared} {ρ : Rh} {m : Mu} {ds : List D} {vs : List V} {its : List Value} {A : Around} (I : Inv X pins σ H s) (hr : RVs X.K g ρ H ds vs) (rv : Vals vs its) (hall : intsB ds = true) (hu : A.units + 2 < cLine) (keeps : ∀ b o, s.heap.get? b = some o → s1.heap.get? b = some o) :
    PySem.W.SortsAt X.prog X.w A s1 (PySem.W.dataKind s1.heap ((ds.zip vs).map fun p => pyd m p.1)) its ∧ EachIs (fun u (p : D × V) => RelV p.2 u) (PySem.W.sortVals (PySem.W.dataKind s1.heap ((ds.zip vs).map fun p => pyd m p.1)) false its its) ((ds.zip vs).mergeSort (PySem.W.dataLe false fun p : D × V => pyd m p.1)) := by
  obtain ⟨z1, z2⟩ := zip_fst hr
  have hint : ∀ y ∈ ds, ∃ i, y = .int i := fun y hy => by
    have h := List.all_eq_true.mp hall y hy
    cases y with
    | int i => exact ⟨i, rfl⟩
    | _ => cases h
  have hmem : ∀ p ∈ ds.zip vs, p.1 ∈ ds := fun p hp => by
    have : p.1 ∈ (ds.zip vs).map (·.1) := List.mem_map.mpr ⟨p, hp, rfl⟩
    rw [z1] at this
    exact this
  have e : EachIs (fun u (p : D × V) => RelV p.2 u) its (ds.zip vs) := each_zip hr rv fun _ _ _ _ _ q => q
  have er : EachIs (fun u (p : D × V) => ∃ as, Reads s.heap u (pyd m p.1) as) its (ds.zip vs) := each_zip hr rv fun y v u hy hv q => by
    show ∃ as, Reads s.heap u (pyd m y) as
    obtain ⟨i, rfl⟩ := hint y hy
    have hp : pyD m (.int i) = some (.int i) := rfl
    exact Dp.reads I _ _ u (hv.dp hp rfl) q
  have hd : ∀ d ∈ (ds.zip vs).map (fun p : D × V => pyd m p.1), ∃ i, d = .int i := fun d hd => by
    obtain ⟨p, hp, rfl⟩ := List.mem_map.mp hd
    obtain ⟨i, h⟩ := hint _ (hmem p hp)
    exact ⟨i, by rw [h]; rfl⟩
  have hal : PySem.W.AllAlike ((ds.zip vs).map fun p => pyd m p.1) := fun d h1 d' h2 => by
    obtain ⟨i, rfl⟩ := hd d h1
    obtain ⟨j, rfl⟩ := hd d' h2
    rfl
  have er' : EachIs (fun u (p : D × V) => ∃ as, Reads s1.heap u (pyd m p.1) as) its (ds.zip vs) := er.mono fun _ _ ⟨as, r⟩ => ⟨as, PyProof.Rows.Reads.keeps keeps r⟩
  have em := PySem.W.each_map (R := fun v' d => ∃ as, Reads s1.heap v' d as) (fun p : D × V => pyd m p.1) er'
  refine ⟨PySem.W.SortsAt.data em hal (.inr fun d h => ?_) fun d h => ?_, PySem.W.sortVals_data false e er' hal⟩
  · obtain ⟨i, rfl⟩ := hd d h
    exact ⟨fun z => (by cases z), fun xs z => (by cases z)⟩
  · obtain ⟨i, rfl⟩ := hd d h
    show A.units + 0 < cLine
    omega
theorem bi_sorted (hu : X.A.units + 64 < cLine) : CallR X (.builtin "sorted") (rOA X.K g fun m => biF m .sorted) := by
  intro pins s σ H xs us Q I r h
  obtain ⟨ρ, m, ds, R, h1, P⟩ := h
  match ds, h1, P with
  | [], _, P => exact P.elim
  | _ :: _ :: _, _, P => exact P.elim
  | [x], h1, P =>
    obtain ⟨v, rfl, h2⟩ := h1.one
    have P0 : PostO X.K g ρ H m Q (sortF m x) := P
    clear P
    obtain ⟨u, rfl, ru⟩ := vals1 r
    have hu2 : X.A.in1.in1.units + 2 < cLine := by show X.A.units + 1 + 1 + 2 < cLine; omega
    have keeps : ∀ {its : List Value} b o, s.heap.get? b = some o → ({ s with heap := PySem.W.sortingHeap (PySem.W.copyHeap s.heap its) (s.heap.objs.size + 1) its } : Shared).heap.get? b = some o := fun _ _ e => PySem.W.sorting_copy_old e
    have lists : ∀ ds, lstD m x = some ds → (rowsB m ds = true ∨ intsB ds = true) → (∀ ρ' H' v, Grow ρ H ρ' H' → Rel X.K g ρ' m H' → RV X.K g ρ' H' (.lst (ds.mergeSort (rowLe m))) v → Q v H') → wpAny (model X.prog X.w) X.A (call (.builtin "sorted") [u]) (EP X pins σ Q) X.xe s := by
      intro ds e1 hall P
      obtain ⟨a, vs, rfl, ha, hr⟩ := RV.lstL R h2 e1
      obtain rfl : u = Value.ref a := ru
      obtain ⟨its, rv, hl, hz⟩ := I.list (show SqL X.K H a vs from .inl (.inl ha))
      have SE : PySem.W.SortsAt X.prog X.w X.A.in1.in1 { s with heap := PySem.W.sortingHeap (PySem.W.copyHeap s.heap its) (s.heap.objs.size + 1) its } (PySem.W.dataKind (PySem.W.sortingHeap (PySem.W.copyHeap s.heap its) (s.heap.objs.size + 1) its) ((ds.zip vs).map fun p => pyd m p.1)) its ∧ EachIs (fun u (p : D × V) => RelV p.2 u) (PySem.W.sortVals (PySem.W.dataKind (PySem.W.sortingHeap (PySem.W.copyHeap s.heap its) (s.heap.objs.size + 1) its) ((ds.zip vs).map fun p => pyd m p.1)) false its its) ((ds.zip vs).mergeSort (PySem.W.dataLe false fun p : D × V => pyd m p.1)) := by
        rcases hall with hall | hall
        · exact srt_at (s1 := { s with heap := PySem.W.sortingHeap (PySem.W.copyHeap s.heap its) (s.heap.objs.size + 1) its }) I hr rv hall hu2 keeps
        · exact srt_ints (s1 := { s with heap := PySem.W.sortingHeap (PySem.W.copyHeap s.heap its) (s.heap.objs.size + 1) its }) I hr rv hall hu2 keeps
      obtain ⟨S, hE⟩ := SE
      obtain ⟨ep, he'⟩ := PyProof.Rows.sortedAll_at s.heap its (List.toArray (PySem.W.sortVals (PySem.W.dataKind (PySem.W.sortingHeap (PySem.W.copyHeap s.heap its) (s.heap.objs.size + 1) its) ((ds.zip vs).map fun p => pyd m p.1)) false its its))
      refine PySem.W.sorted_vals hl.isList S (by rw [← rv.length]; exact hz) ?_
      exact srt_fin (t := s.toks) I R hr hz P hE (fun _ _ => PyProof.Rows.sortedAll_old) (Nat.le_succ _) he'
    unfold sortF at P0
    split at P0
    · rename_i ds
      split at P0
      · rename_i hall
        cases h2 with
        | @tup a vs _ hs hr =>
          obtain rfl : u = Value.ref a := ru
          obtain ⟨its, rv, hl, hz⟩ := I.tuple hs.1
          obtain ⟨S, hE⟩ := srt_at (s1 := { s with heap := PySem.W.sortingHeap (PySem.W.copyHeap s.heap its) (s.heap.objs.size + 1) its }) I hr rv hall hu2 keeps
          obtain ⟨ep, he'⟩ := PyProof.Rows.sortedAll_at s.heap its (List.toArray (PySem.W.sortVals (PySem.W.dataKind (PySem.W.sortingHeap (PySem.W.copyHeap s.heap its) (s.heap.objs.size + 1) its) ((ds.zip vs).map fun p => pyd m p.1)) false its its))
          refine sortedT_vals hl S (by rw [← rv.length]; exact hz) ?_
          exact srt_fin (t := s.toks) I R hr hz P0 hE (fun _ _ => PyProof.Rows.sortedAll_old) (Nat.le_succ _) he'
      · exact P0.elim
    · split at P0
      · rename_i ds e1
        split at P0
        · rename_i hall
          exact lists ds e1 (.inl hall) P0
        · split at P0
          · rename_i hall
            exact lists ds e1 (.inr hall) P0
          · exact P0.elim
      · exact P0.elim
end
end Ev
namespace Ev
open PySem PySem.Spec PyProof.Rows L2 HT
section
variable {prog : Program} {w : World} {A : Around} {E : Value → Shared → Prop} {s : Shared}
end
section
variable {X : Cx}
end
end Ev
namespace Ev
open PySem PySem.Spec PyProof.Rows L2
section
variable {K : PySem.W.Frag} {g : Gm} {W : WX} {σ : L2.St} {ρ : Rh} {H : Hp}
theorem PostE.mono {Q Q' : VK} {r : R D} (h : PostE K g W σ ρ H Q r) (hq : ∀ v H', Q v H' → Q' v H') : PostE K g W σ ρ H Q' r := by
  cases r with
  | ok d m => exact fun ρ' H' v G R V => hq _ _ (h ρ' H' v G R V)
  | exc c fs m => exact h
  | bad => exact h
theorem PostT.mono {Q Q' : Bool → Hp → Prop} {r : R D} (h : PostT K g W σ ρ H Q r) (hq : ∀ v H', Q v H' → Q' v H') : PostT K g W σ ρ H Q' r := by
  cases r with
  | ok d m => cases d <;> first | exact h | exact fun ρ' H' G R => hq _ _ (h ρ' H' G R)
  | exc c fs m => exact h
  | bad => exact h
theorem PostA.mono {Q Q' : List V → Hp → Prop} {r : R (List D)} (h : PostA K g W σ ρ H Q r) (hq : ∀ v H', Q v H' → Q' v H') : PostA K g W σ ρ H Q' r := by
  cases r with
  | ok d m => exact fun ρ' H' v G R V => hq _ _ (h ρ' H' v G R V)
  | exc c fs m => exact h
  | bad => exact h
theorem PostE.bl {Q : VK} {d : D} {v : V} {m : Mu} {k : D → Mu → R D} (hk : ∀ d m, blD d = none → k d m = .bad) (V : RV K g ρ H d v) (h : PostE K g W σ ρ H Q (k d m)) : ∃ b, d = .bl b ∧ v = .bl b := by
  cases e : blD d with
  | none => rw [hk d m e] at h; exact h.elim
  | some b =>
    obtain rfl := blD_some e
    cases V
    exact ⟨b, rfl, rfl⟩
end
section
variable {X : Cx} {g : Gm} {W : WX} {a b c : Expr} {fa fb fc : Sl → Mu → R D} {pos : Pos}
theorem i_op2 {F : Mu → D → D → Option D} {σ : L2.St} {H : Hp} {Q : VK} (h : tE X.K g W (fun s m => (fa s m).bind fun x m => (fb s m).bind fun y m => opt m (F m x y)) σ H Q) :
    tOp (rO X.K g F) (tE X.K g W fa) (tE X.K g W fb) σ H Q := by
  obtain ⟨ρ, m, s, R, E, P⟩ := h
  refine ⟨ρ, m, s, R, E, (PostE.first P E).mono ?_⟩
  rintro v H1 ⟨ρ1, m1, d1, G1, R1, E1, V1, P1⟩
  refine ⟨ρ1, m1, s, R1, E1, ?_⟩
  revert P1
  cases fb s m1 with
  | ok d2 m2 =>
    intro P1 ρ2 H2 v2 G2 R2 V2
    exact ⟨ρ2, m2, d1, d2, R2, V1.grow G2, V2, (PostE.opt P1).grow G2⟩
  | exc c fs m2 => intro P1; exact P1
  | bad => intro P1; exact P1
theorem r_bin (op : Operator) (ha : PE X a (tE X.K g W fa)) (hb : PE X b (tE X.K g W fb)) :
    PE X (.BinOp a op b pos) (tE X.K g W fun s m => (fa s m).bind fun x m => (fb s m).bind fun y m => opt m (binF m op x y)) :=
  PE.imp (pe_op (op_binM op) ha hb) fun σ H Q h => i_op2 (F := fun m => binF m op) h
theorem un_negM : UnR X (unaryOp .USub) (rO1 X.K g fun _ x => (intD x).map fun i => .int (-i)) := by
  intro pins s σ H x v Q I rx h
  obtain ⟨ρ, m, d, R, h1, P⟩ := h
  cases h1 <;> first
    | exact P.elim
    | exact un_neg pins s σ H _ v Q I rx ⟨_, rfl, P ρ H _ .refl R (.int _)⟩
theorem r_neg (ha : PE X a (tE X.K g W fa)) : PE X (.UnaryOp .USub a pos) (tE X.K g W fun s m => (fa s m).bind fun x m => opt m ((intD x).map fun i => .int (-i))) :=
  r_op1 (F := fun _ x => (intD x).map fun i => .int (-i)) (pe_un un_negM ha)
theorem r_cmp (hpr : X.w.params = g.pr) (hu : X.A.units + 64 < cLine) (op : CmpOp) (ha : PE X a (tE X.K g W fa)) (hb : PE X b (tE X.K g W fb)) (hm : behindInMarks op b = false) :
    PE X (.Compare a [op] [b] pos) (tE X.K g W fun s m => (fa s m).bind fun x m => (fb s m).bind fun y m => opt m ((cmpF m op x y).map .bl)) :=
  PE.imp (pe_cmpR (op_cmpM hpr hu op) ha hb hm) fun σ H Q h => i_op2 (F := fun m x y => (cmpF m op x y).map .bl) h
theorem opt_bl {m m' : Mu} {o : Option Bool} {d : D} (h : opt m (o.map D.bl) = .ok d m') : ∃ k, d = .bl k := by
  cases o with
  | none => cases h
  | some k => cases h; exact ⟨k, rfl⟩
theorem bind_ok {α β : Type} {r : R α} {f : α → Mu → R β} {d : β} {m : Mu} (h : r.bind f = .ok d m) : ∃ a m1, r = .ok a m1 ∧ f a m1 = .ok d m := by
  cases r with
  | ok a m1 => exact ⟨a, m1, rfl, h⟩
  | exc c fs m1 => cases h
  | bad => cases h
theorem r_cmpT (hpr : X.w.params = g.pr) (hu : X.A.units + 64 < cLine) (op : CmpOp) (ha : PE X a (tE X.K g W fa)) (hb : PE X b (tE X.K g W fb)) (hm : behindInMarks op b = false) :
    PT X (.Compare a [op] [b] pos) (tT X.K g W fun s m => tst true ((fa s m).bind fun x m => (fb s m).bind fun y m => opt m ((cmpF m op x y).map .bl))) := by
  refine r_testB (fa := fun s m => (fa s m).bind fun x m => (fb s m).bind fun y m => opt m ((cmpF m op x y).map .bl)) (pt_cmpR (op_cmpM (g := g) hpr hu op) ha hb hm) (fun σ H Q h => i_op2 (F := fun m x y => (cmpF m op x y).map .bl) h) ?_
  intro s m d m' h
  obtain ⟨_, _, _, h⟩ := bind_ok h
  obtain ⟨_, _, _, h⟩ := bind_ok h
  exact opt_bl h
theorem i_chain {o1 o2 : CmpOp} {σ : L2.St} {H : Hp} {Q : VK} (h : tE X.K g W (fun s m => (fa s m).bind fun x m => (fb s m).bind fun y m => (opt m (cmpF m o1 x y)).bind fun k m =>
      if k then (fc s m).bind fun z m => opt m ((cmpF m o2 y z).map .bl) else .ok (.bl false) m) σ H Q) :
    tChain (rO X.K g fun m x y => (cmpF m o1 x y).map .bl) (rO X.K g fun m x y => (cmpF m o2 x y).map .bl) (tE X.K g W fa) (tE X.K g W fb) (tE X.K g W fc) σ H Q := by
  obtain ⟨ρ, m, s, R, E, P⟩ := h
  refine ⟨ρ, m, s, R, E, (PostE.first P E).mono ?_⟩
  rintro v H1 ⟨ρ1, m1, d1, G1, R1, E1, V1, P1⟩
  refine ⟨ρ1, m1, s, R1, E1, (PostE.first P1 E1).mono ?_⟩
  rintro v2 H2 ⟨ρ2, m2, d2, G2, R2, E2, V2, P2⟩
  refine ⟨ρ2, m2, d1, d2, R2, V1.grow G2, V2, ?_⟩
  cases e : cmpF m2 o1 d1 d2 with
  | none => rw [e] at P2; exact P2.elim
  | some k =>
    rw [e] at P2
    dsimp only
    rw [e]
    intro ρ3 H3 z G3 R3 V3
    cases V3
    refine ⟨k, rfl, ?_⟩
    have P3 := PostE.grow G3 P2
    simp only [opt_s, bind_k] at P3
    cases k with
    | false => exact P3 ρ3 H3 _ .refl R3 (.bl _)
    | true =>
      simp only [if_true] at P3 ⊢
      refine ⟨ρ3, m2, s, R3, E2.grow G3, ?_⟩
      revert P3
      cases fc s m2 with
      | ok d3 m3 =>
        intro P3 ρ4 H4 v3 G4 R4 V4
        exact ⟨ρ4, m3, d2, d3, R4, V2.grow (G3.trans G4), V4, (PostE.opt P3).grow G4⟩
      | exc c fs m3 => intro P3; exact P3
      | bad => intro P3; exact P3
theorem r_chain (hpr : X.w.params = g.pr) (hu : X.A.units + 64 < cLine) (o1 o2 : CmpOp) (ha : PE X a (tE X.K g W fa)) (hb : PE X b (tE X.K g W fb)) (hc : PE X c (tE X.K g W fc)) (hm : lastMarks [o1, o2] [b, c] = false) :
    PE X (.Compare a [o1, o2] [b, c] pos) (tE X.K g W fun s m => (fa s m).bind fun x m => (fb s m).bind fun y m => (opt m (cmpF m o1 x y)).bind fun k m =>
      if k then (fc s m).bind fun z m => opt m ((cmpF m o2 y z).map .bl) else .ok (.bl false) m) :=
  PE.imp (pe_chain (op_cmpM hpr hu o1) (op_cmpM hpr hu o2) ha hb hc hm) fun σ H Q h => i_chain h
theorem r_chainT (hpr : X.w.params = g.pr) (hu : X.A.units + 64 < cLine) (o1 o2 : CmpOp) (ha : PE X a (tE X.K g W fa)) (hb : PE X b (tE X.K g W fb)) (hc : PE X c (tE X.K g W fc)) (hm : lastMarks [o1, o2] [b, c] = false) :
    PT X (.Compare a [o1, o2] [b, c] pos) (tT X.K g W fun s m => tst true ((fa s m).bind fun x m => (fb s m).bind fun y m => (opt m (cmpF m o1 x y)).bind fun k m =>
      if k then (fc s m).bind fun z m => opt m ((cmpF m o2 y z).map .bl) else .ok (.bl false) m)) := by
  refine r_testB (fa := fun s m => (fa s m).bind fun x m => (fb s m).bind fun y m => (opt m (cmpF m o1 x y)).bind fun k m =>
      if k then (fc s m).bind fun z m => opt m ((cmpF m o2 y z).map .bl) else .ok (.bl false) m) (pt_chain (op_cmpM (g := g) hpr hu o1) (op_cmpM hpr hu o2) ha hb hc hm) (fun σ H Q h => i_chain h) ?_
  intro s m d m' h
  obtain ⟨_, _, _, h⟩ := bind_ok h
  obtain ⟨_, _, _, h⟩ := bind_ok h
  obtain ⟨k, _, _, h⟩ := bind_ok h
  cases k with
  | false => cases h; exact ⟨false, rfl⟩
  | true =>
    simp only [if_true] at h
    obtain ⟨_, _, _, h⟩ := bind_ok h
    exact opt_bl h
theorem r_andT {rest : List Expr} (ha : PT X a (tT X.K g W fa)) (hb : PW X (.BoolOp .And (b :: rest) pos) (tT X.K g W fb)) :
    PW X (.BoolOp .And (a :: b :: rest) pos) (tT X.K g W fun s m => (fa s m).bind fun x m => match x with
      | .bl true => fb s m
      | .bl false => .ok (.bl false) m
      | _ => .bad) := by
  refine PW.imp (pw_and ha hb) fun σ H Q h => ?_
  obtain ⟨ρ, m, s, R, E, P⟩ := h
  refine ⟨ρ, m, s, R, E, (PostT.firstT ?_ P E).mono ?_⟩
  · intro d m hd
    cases d <;> first | rfl | cases hd
  · rintro k H1 ⟨ρ1, m1, G1, R1, E1, P1⟩
    cases k with
    | true => exact iteT ⟨ρ1, m1, s, R1, E1, P1⟩
    | false => exact iteF (P1 ρ1 H1 .refl R1)
theorem r_orT {rest : List Expr} (ha : PT X a (tT X.K g W fa)) (hb : PW X (.BoolOp .Or (b :: rest) pos) (tT X.K g W fb)) :
    PW X (.BoolOp .Or (a :: b :: rest) pos) (tT X.K g W fun s m => (fa s m).bind fun x m => match x with
      | .bl false => fb s m
      | .bl true => .ok (.bl true) m
      | _ => .bad) := by
  refine PW.imp (pw_or ha hb) fun σ H Q h => ?_
  obtain ⟨ρ, m, s, R, E, P⟩ := h
  refine ⟨ρ, m, s, R, E, (PostT.firstT ?_ P E).mono ?_⟩
  · intro d m hd
    cases d <;> first | rfl | cases hd
  · rintro k H1 ⟨ρ1, m1, G1, R1, E1, P1⟩
    cases k with
    | false => exact iteF ⟨ρ1, m1, s, R1, E1, P1⟩
    | true => exact iteT (P1 ρ1 H1 .refl R1)
theorem r_and {rest : List Expr} (ha : PE X a (tE X.K g W fa)) (hb : PE X (.BoolOp .And (b :: rest) pos) (tE X.K g W fb)) :
    PE X (.BoolOp .And (a :: b :: rest) pos) (tE X.K g W fun s m => (fa s m).bind fun x m => match x with
      | .bl true => fb s m
      | .bl false => .ok (.bl false) m
      | _ => .bad) := by
  refine PE.imp (pe_and ha hb) fun σ H Q h => ?_
  obtain ⟨ρ, m, s, R, E, P⟩ := h
  refine ⟨ρ, m, s, R, E, (PostE.first P E).mono ?_⟩
  rintro v H1 ⟨ρ1, m1, d1, G1, R1, E1, V1, P1⟩
  obtain ⟨k, rfl, rfl⟩ := PostE.bl (k := fun x m => match x with
      | .bl true => fb s m
      | .bl false => .ok (.bl false) m
      | _ => .bad) (fun d m hd => by cases d <;> first | rfl | cases hd) V1 P1
  refine ⟨k, rfl, ?_⟩
  cases k with
  | true => exact iteT ⟨ρ1, m1, s, R1, E1, P1⟩
  | false => exact iteF (P1 ρ1 H1 _ .refl R1 (.bl _))
theorem r_or {rest : List Expr} (ha : PE X a (tE X.K g W fa)) (hb : PE X (.BoolOp .Or (b :: rest) pos) (tE X.K g W fb)) :
    PE X (.BoolOp .Or (a :: b :: rest) pos) (tE X.K g W fun s m => (fa s m).bind fun x m => match x with
      | .bl false => fb s m
      | .bl true => .ok (.bl true) m
      | _ => .bad) := by
  refine PE.imp (pe_or ha hb) fun σ H Q h => ?_
  obtain ⟨ρ, m, s, R, E, P⟩ := h
  refine ⟨ρ, m, s, R, E, (PostE.first P E).mono ?_⟩
  rintro v H1 ⟨ρ1, m1, d1, G1, R1, E1, V1, P1⟩
  obtain ⟨k, rfl, rfl⟩ := PostE.bl (k := fun x m => match x with
      | .bl false => fb s m
      | .bl true => .ok (.bl true) m
      | _ => .bad) (fun d m hd => by cases d <;> first | rfl | cases hd) V1 P1
  refine ⟨k, rfl, ?_⟩
  cases k with
  | false => exact iteF ⟨ρ1, m1, s, R1, E1, P1⟩
  | true => exact iteT (P1 ρ1 H1 _ .refl R1 (.bl _))
theorem r_notT (ha : PT X a (tT X.K g W fa)) : PT X (.UnaryOp .Not a pos) (tT X.K g W fun s m => (fa s m).bind fun x m => opt m ((blD x).map fun b => .bl (!b))) := by
  refine PT.imp (pt_not ha) fun σ H Q h => ?_
  obtain ⟨ρ, m, s, R, E, P⟩ := h
  refine ⟨ρ, m, s, R, E, (PostT.firstT ?_ P E).mono ?_⟩
  · intro d m hd
    rw [hd]; rfl
  · rintro k H1 ⟨ρ1, m1, G1, R1, E1, P1⟩
    exact P1 ρ1 H1 .refl R1
theorem r_not (ha : PE X a (tE X.K g W fa)) : PE X (.UnaryOp .Not a pos) (tE X.K g W fun s m => (fa s m).bind fun x m => opt m ((blD x).map fun b => .bl (!b))) := by
  refine PE.imp (pe_not ha) fun σ H Q h => ?_
  obtain ⟨ρ, m, s, R, E, P⟩ := h
  refine ⟨ρ, m, s, R, E, (PostE.first P E).mono ?_⟩
  rintro v H1 ⟨ρ1, m1, d1, G1, R1, E1, V1, P1⟩
  obtain ⟨k, rfl, rfl⟩ := PostE.bl (k := fun x m => opt m ((blD x).map fun b => .bl (!b))) (fun d m hd => by simp [hd]) V1 P1
  exact ⟨k, rfl, P1 ρ1 H1 _ .refl R1 (.bl _)⟩
theorem r_ite (hc : PT X c (tT X.K g W fc)) (ha : PE X a (tE X.K g W fa)) (hb : PE X b (tE X.K g W fb)) :
    PE X (.IfExp c a b pos) (tE X.K g W fun s m => (fc s m).bind fun k m => match k with
      | .bl true => fa s m
      | .bl false => fb s m
      | _ => .bad) := by
  refine PE.imp (pe_ifExp hc ha hb) fun σ H Q h => ?_
  obtain ⟨ρ, m, s, R, E, P⟩ := h
  refine ⟨ρ, m, s, R, E, (PostE.firstT ?_ P E).mono ?_⟩
  · intro d m hd
    cases d <;> first | rfl | cases hd
  · rintro k H1 ⟨ρ1, m1, G1, R1, E1, P1⟩
    cases k with
    | true => exact iteT ⟨ρ1, m1, s, R1, E1, P1⟩
    | false => exact iteF ⟨ρ1, m1, s, R1, E1, P1⟩
theorem r_ix (hpr : X.w.params = g.pr) (ha : PE X a (tE X.K g W fa)) (hb : PE X b (tE X.K g W fb)) (hs : PlainIx b) : PE X (.Subscript a b pos) (tE X.K g W fun s m => (fa s m).bind fun x m => (fb s m).bind fun y m => opt m (ixF m x y)) :=
  PE.imp (pe_ix (ix_M hpr) ha hb hs) fun σ H Q h => i_op2 (F := ixF) h
def tP (K : PySem.W.Frag) (g : Gm) (W : WX) (ab : Bool) (f : Sl → Mu → R D) : TO := fun σ H Q => ∃ ρ m s, Rel K g ρ m H ∧ REnv K g ρ H s σ ∧ match f s m with
  | .ok d m' => (match partD ab d with
    | some o => ∀ ρ' H', Grow ρ H ρ' H' → Rel K g ρ' m' H' → Q o H'
    | none => False)
  | .exc c fs m' => ∀ ρ' H' cv dd, Grow ρ H ρ' H' → Rel K g ρ' m' H' → RX K g ρ' H' c fs cv dd → W cv dd σ H'
  | .bad => False
theorem PO.imp {e : Option Expr} {t t' : TO} (h : PO X e t) (hi : ∀ σ H Q, t' σ H Q → t σ H Q) : PO X e t' := ⟨fun pins s σ H Q I q => h.run pins s σ H Q I (hi σ H Q q)⟩
theorem r_part0 : PO X none (tP X.K g W true fun _ m => .ok .non m) :=
  PO.imp po_none fun σ H Q ⟨ρ, m, s, R, E, P⟩ => P ρ H .refl R
theorem r_part1 (ha : PE X a (tE X.K g W fa)) : PO X (some a) (tP X.K g W false fa) := by
  refine PO.imp (po_some ha) fun σ H Q h => ?_
  obtain ⟨ρ, m, s, R, E, P⟩ := h
  refine ⟨ρ, m, s, R, E, ?_⟩
  revert P
  cases fa s m with
  | ok d m1 =>
    intro P ρ1 H1 v G1 R1 V1
    cases V1 <;> first | exact P.elim | exact ⟨_, rfl, P ρ1 H1 G1 R1⟩
  | exc c fs m1 => intro P; exact P
  | bad => intro P; exact P
theorem r_sl {lo hi : Option Expr} {l h : Bool} {fl fh : Sl → Mu → R D} {p2 : Pos} (ha : PE X a (tE X.K g W fa)) (hl : PO X lo (tP X.K g W l fl)) (hh : PO X hi (tP X.K g W h fh)) :
    PE X (.Subscript a (.Slice lo hi none p2) pos) (tE X.K g W fun s m => (fa s m).bind fun x m => (fl s m).bind fun y m => (opt m (partD l y)).bind fun y m => (fh s m).bind fun z m => (opt m (partD h z)).bind fun z m => opt m (slF m x y z)) := by
  refine PE.imp (pe_slice (sl_M (g := g)) ha hl hh) fun σ H Q q => ?_
  obtain ⟨ρ, m, s, R, E, P⟩ := q
  refine ⟨ρ, m, s, R, E, (PostE.first P E).mono ?_⟩
  rintro v H1 ⟨ρ1, m1, d1, G1, R1, E1, V1, P1⟩
  refine ⟨ρ1, m1, s, R1, E1, ?_⟩
  revert P1
  cases fl s m1 with
  | exc c fs m2 => intro P1; exact P1
  | bad => intro P1; exact P1
  | ok d2 m2 =>
    intro P1
    simp only [bind_k] at P1
    cases e2 : partD l d2 with
    | none => simp only [e2, opt_s, opt_n, bind_k, bind_b] at P1; exact P1.elim
    | some o2 =>
      simp only [e2, opt_s, opt_n, bind_k, bind_b] at P1
      dsimp only
      rw [e2]
      dsimp only
      intro ρ2 H2 G2 R2
      refine ⟨ρ2, m2, s, R2, E1.grow G2, ?_⟩
      have P2 := PostE.grow G2 P1
      revert P2
      cases fh s m2 with
      | exc c fs m3 => intro P2; exact P2
      | bad => intro P2; exact P2
      | ok d3 m3 =>
        intro P2
        simp only [bind_k] at P2
        cases e3 : partD h d3 with
        | none => simp only [e3, opt_s, opt_n, bind_k, bind_b] at P2; exact P2.elim
        | some o3 =>
          simp only [e3, opt_s, opt_n, bind_k, bind_b] at P2
          dsimp only
          rw [e3]
          dsimp only
          intro ρ3 H3 G3 R3
          exact ⟨ρ3, m3, d1, R3, V1.grow (G2.trans G3), (PostE.opt P2).grow G3⟩
theorem kits {K : PySem.W.Frag} {t : String} : ∀ {ts : List String}, (∀ u ∈ ts, kitB t u = some (u == t || (t == "bool" && u == "int"))) → PySem.W.kitAny K (.type t) (ts.map Value.type) = some (isiT t ts)
  | [], _ => rfl
  | u :: r, h => by
    have h1 := h u List.mem_cons_self
    refine kitAny_cons (kit_ty h1) (fun e => ?_) (fun e => ?_)
    · have ih := kits (K := K) (t := t) (ts := r) fun v hv => h v (List.mem_cons_of_mem _ hv)
      rw [ih]
      unfold isiT
      rw [List.any_cons, e, Bool.false_or]
    · unfold isiT
      rw [List.any_cons, e, Bool.true_or]
theorem kit_all : ∀ t ∈ tyNames, ∀ u ∈ ["bool", "int", "str", "tuple", "list", "dict"], kitB t u = some (u == t || (t == "bool" && u == "int")) := by decide +kernel
theorem tyD_in {m : Mu} {d : D} {t : String} (h : tyD m d = some t) : t ∈ tyNames := by
  cases d <;> simp [tyD] at h <;> first
    | (subst h; decide)
    | (split at h <;> simp at h; subst h; decide)
theorem bi_isi1 {t : String} (ht : t ∈ ["bool", "int", "str", "tuple", "list", "dict"]) : CallR X (.builtin "isinstance") (fun xs H Q => ∃ ρ m d v, xs = [v, .ty t] ∧ Rel X.K g ρ m H ∧ RV X.K g ρ H d v ∧ PostO X.K g ρ H m Q ((tyD m d).map fun u => .bl (isiT u [t]))) := by
  intro pins s σ H xs us Q I r h
  obtain ⟨ρ, m, d, v, rfl, R, V, P⟩ := h
  cases e : tyD m d with
  | none => rw [e] at P; exact P.elim
  | some u =>
    rw [e] at P
    refine call_isi pins s σ H _ us Q I r ⟨v, .ty t, .type u, .type t, isiT u [t], rfl, .ty t, V.tyx R e, ?_, P ρ H _ .refl R (.bl _)⟩
    have := kit_all u (tyD_in e) t ht
    rw [show isiT u [t] = (t == u || (u == "bool" && t == "int")) by simp [isiT]]
    exact kit_ty this
end
end Ev
namespace Ev
open PySem PySem.Spec PyProof.Rows L2
section
variable {X : Cx} {g : Gm} {W : WX} {a : Expr} {fa : Sl → Mu → R D} {pos : Pos}
theorem rgV_ints (n : Int) : rgV 0 n = ((List.range n.toNat).map fun (i : Nat) => (0 : Int) + (i : Int)).map V.int := by
  unfold rgV
  rw [Int.sub_zero, List.map_map]
  rfl
theorem rngD_ints (k : Nat) : rngD 0 k = ((List.range k).map fun (i : Nat) => (0 : Int) + (i : Int)).map D.int := by
  unfold rngD
  rw [List.map_map]
  rfl
theorem r_lrg {p1 p2 p3 : Pos} (hc : X.calm = true) (hl : Gl X "list") (ml : X.mg "list" = none) (hr : Gl X "range") (mr : X.mg "range" = none) (ha : PE X a (tE X.K g W fa)) (na : starEach [a] X.env = (false, eval a X.env) :: starEach [] X.env) :
    PE X (.Call (.Name "list" p1) [.Call (.Name "range" p2) [a] [] p3] [] pos) (tE X.K g W fun s m => (fa s m).bind fun x m => opt m (lrgF x)) := by
  refine PE.imp (pe_listRg hc hl ml (prg_1 hr mr ha na)) fun σ H Q q => ?_
  obtain ⟨ρ, m, s, R, E, P⟩ := q
  refine ⟨ρ, m, s, R, E, (PostE.first P E).mono ?_⟩
  rintro v H1 ⟨ρ1, m1, d1, G1, R1, E1, V1, P1⟩
  cases V1 with
  | int n =>
    simp only [lrgF, intD, Option.bind_some] at P1
    by_cases hk : small24 n = true
    · rw [if_pos hk] at P1
      simp only [small24, Bool.and_eq_true, decide_eq_true_eq] at hk
      refine ⟨n, rfl, RgOk.of_le (Int.le_refl 0) hk.2 (by omega) hk.1, fun q hq => ?_⟩
      refine P1 ρ1 _ _ (Grow.new hq) (R1.new hq) (.lst upd_same (R1.out hq) ?_)
      rw [rgV_ints, rngD_ints]
      exact RVs.ints _
    · rw [if_neg hk] at P1
      exact P1.elim
  | _ => exact P1.elim
end
end Ev
namespace Ev
open PySem PySem.Spec PyProof.Rows L2
open AutoSeq1 (wpAny_loadPart')
section
variable {X : Cx} {g : Gm} {W : WX}
def WalkOk (K : PySem.W.Frag) (g : Gm) (J : L2.It) (ds bs : List D) (ws : List V) : Prop := ∀ ρ m H, RVs K g ρ H bs ws → Rel K g ρ m H →
  (∀ i d, ds[i]? = some d → J.go i H ∧ ∀ x H', J.yld i H x H' → Grow ρ H ρ H' ∧ Rel K g ρ m H' ∧ RV K g ρ H' d x) ∧ J.stop ds.length H
theorem RV.stands {K : PySem.W.Frag} {ρ : Rh} {H : Hp} {d : D} {v : V} {xs : List D} (h : RV K g ρ H d v) (e : lstF d = some xs) : ∃ l vs, v = .ref l ∧ SqL K H l vs ∧ RVs K g ρ H xs vs := by
  cases h with
  | lst a1 a2 a3 =>
    simp [lstF] at e
    subst e
    exact ⟨_, _, rfl, SqL.of a1, a3⟩
  | scr a1 =>
    simp [lstF] at e
    subst e
    exact ⟨_, _, rfl, a1.sq, RVs.ints _⟩
  | _ => simp [lstF] at e
theorem RVs.one' {K : PySem.W.Frag} {ρ : Rh} {H : Hp} {d : D} {v : V} (h : RVs K g ρ H [d] [v]) : RV K g ρ H d v := by
  cases h with
  | cons h r => exact h
theorem walk_list {K : PySem.W.Frag} {l : Addr} {d : D} {ds : List D} (hd : lstF d = some ds) : WalkOk K g (Itl K l) ds [d] [.ref l] := by
  intro ρ m H B R
  obtain ⟨l', vs, e, hs, hr⟩ := B.one'.stands hd
  cases e
  refine ⟨fun i d hd => ?_, ⟨vs, hs, Nat.le_of_eq hr.length.symm⟩⟩
  obtain ⟨v, e, rv⟩ := hr.get hd
  refine ⟨⟨vs, v, hs, e⟩, ?_⟩
  rintro x H' ⟨rfl, h⟩
  have e2 := h vs hs
  rw [e] at e2
  cases e2
  exact ⟨.refl, R, rv⟩
theorem walk_tup {K : PySem.W.Frag} {l : Addr} {ds : List D} : WalkOk K g (Itt K l) ds [.tup ds] [.ref l] := by
  intro ρ m H B R
  cases B.one' with
  | tup hs hr =>
    rename_i vs
    refine ⟨fun i d hd => ?_, ⟨vs, hs.1, Nat.le_of_eq hr.length.symm⟩⟩
    obtain ⟨v, e, rv⟩ := hr.get hd
    refine ⟨⟨vs, v, hs.1, e⟩, ?_⟩
    rintro x H' ⟨rfl, h⟩
    have e2 := h vs hs.1
    rw [e] at e2
    cases e2
    exact ⟨.refl, R, rv⟩
theorem walk_str {K : PySem.W.Frag} (z : Str) : WalkOk K g (Its z) (strItems z) [] [] := by
  intro ρ m H _ R
  refine ⟨fun i d hd => ?_, by show z.cps.size ≤ (strItems z).length; simp [strItems]⟩
  simp only [strItems, List.getElem?_map] at hd
  cases e0 : z.cps.toList[i]? with
  | none => rw [e0] at hd; cases hd
  | some c =>
    rw [e0] at hd
    cases hd
    have hi : i < z.cps.size := by simpa using (List.getElem?_eq_some_iff.mp e0).1
    refine ⟨hi, ?_⟩
    rintro x H' ⟨rfl, c', hc, rfl⟩
    have e3 : c' = c := by
      rw [← Array.getElem?_toList, e0] at hc
      exact (Option.some.inj hc).symm
    subst e3
    exact ⟨.refl, R, .str _⟩
theorem walk_rng {K : PySem.W.Frag} (lo : Int) (n : Nat) : WalkOk K g (Itr lo n) (rngD lo n) [] [] := by
  intro ρ m H _ R
  refine ⟨fun i d hd => ?_, by show n ≤ (rngD lo n).length; simp [rngD]⟩
  simp only [rngD, List.getElem?_map] at hd
  cases e0 : (List.range n)[i]? with
  | none => rw [e0] at hd; cases hd
  | some c =>
    rw [e0] at hd
    cases hd
    obtain ⟨h1, h2⟩ := List.getElem?_eq_some_iff.mp e0
    rw [List.getElem_range] at h2
    subst h2
    refine ⟨by rw [List.length_range] at h1; exact h1, ?_⟩
    rintro x H' ⟨rfl, rfl⟩
    exact ⟨.refl, R, .int _⟩
end
end Ev
namespace Ev
open PySem PySem.Spec PyProof.Rows L2
def tI (K : PySem.W.Frag) (g : Gm) (W : WX) (f : Sl → Mu → R (List D)) : TI := fun σ H Q => ∃ ρ m s, Rel K g ρ m H ∧ REnv K g ρ H s σ ∧ match f s m with
  | .ok ds m' => ∀ ρ' H' J bs ws, Grow ρ H ρ' H' → Rel K g ρ' m' H' → RVs K g ρ' H' bs ws → WalkOk K g J ds bs ws → Q J H'
  | .exc c fs m' => ∀ ρ' H' cv dd, Grow ρ H ρ' H' → Rel K g ρ' m' H' → RX K g ρ' H' c fs cv dd → W cv dd σ H'
  | .bad => False
section
variable {X : Cx} {g : Gm} {W : WX} {tg a b c : Expr} {fa fb fc : Sl → Mu → R D} {pos p : Pos}
theorem PI.imp {e : Expr} {t t' : TI} (h : PI X tg e t) (hi : ∀ σ H Q, t' σ H Q → t σ H Q) : PI X tg e t' := ⟨fun pins s σ H Q I q => h.run pins s σ H Q I (hi σ H Q q)⟩
theorem pi_any {te : TE} (he : PE X a te) : PI X tg a (fun σ H R => te σ H fun x H1 => (∃ l, x = .ref l ∧ (∃ xs, SqL X.K H1 l xs) ∧ R (Itl X.K l) H1) ∨ (∃ l, x = .ref l ∧ (∃ xs, SqT X.K H1 l xs) ∧ R (Itt X.K l) H1) ∨ ∃ z, x = .str z ∧ R (Its z) H1) := by
  constructor
  intro pins s σ H R I h
  refine thn (he.run pins s σ H _ I h) ?_
  rintro v s1 ⟨x, H1, I1, r1, q1⟩
  rcases q1 with ⟨l, rfl, ⟨xs, hq⟩, q⟩ | ⟨l, rfl, ⟨xs, hq⟩, q⟩ | ⟨z, rfl, q⟩
  · cases r1
    obtain ⟨its, rv, pl, hz⟩ := I1.list hq
    exact wpAny_pyIter_list pl.isList (pi_one (tk := s1.toks) I1 _ (turn_list l _) ⟨_, Heap.get?_push_size _ rfl, rfl, rfl⟩ q)
  · cases r1
    obtain ⟨its, rv, pl, hz⟩ := I1.tuple hq
    exact wpAny_pyIter_tuple (show s1.heap.IsTuple l its.toArray from pl) (pi_one (tk := s1.toks) I1 _ (turn_tuple l _) ⟨_, Heap.get?_push_size _ rfl, rfl, rfl⟩ q)
  · obtain ⟨t, rfl⟩ := r1
    cases ha : z.cps.all (· < 128)
    · exact wpAny_pyIter_wide ha (pi_one (tk := s1.toks) I1 _ (turn_str _ z t "str_iterator" (.inr rfl)) ⟨_, Heap.get?_push_size _ rfl, rfl, rfl⟩ q)
    · exact wpAny_pyIter_ascii ha (pi_one (tk := s1.toks) I1 _ (turn_str _ z t "str_ascii_iterator" (.inl rfl)) ⟨_, Heap.get?_push_size _ rfl, rfl, rfl⟩ q)
theorem r_itOf (ha : PE X a (tE X.K g W fa)) : PI X tg a (tI X.K g W fun s m => (fa s m).bind fun x m => opt m (itF x)) := by
  refine PI.imp (pi_any ha) fun σ H Q h => ?_
  obtain ⟨ρ, m, s, R, E, P⟩ := h
  refine ⟨ρ, m, s, R, E, ?_⟩
  dsimp only at P
  revert P
  cases fa s m with
  | exc c fs m1 => intro P; exact P
  | bad => intro P; exact P
  | ok d m1 =>
    intro P ρ1 H1 v G1 R1 V1
    simp only [bind_k] at P
    cases V1 with
    | tup a1 a2 => exact .inr (.inl ⟨_, rfl, ⟨_, a1.1⟩, P ρ1 H1 _ _ _ G1 R1 (.cons (.tup a1 a2) .nil) walk_tup⟩)
    | lst a1 a2 a3 => exact .inl ⟨_, rfl, ⟨_, SqL.of a1⟩, P ρ1 H1 _ _ _ G1 R1 (.cons (.lst a1 a2 a3) .nil) (walk_list rfl)⟩
    | scr a1 => exact .inl ⟨_, rfl, ⟨_, a1.sq⟩, P ρ1 H1 _ _ _ G1 R1 (.cons (.scr a1) .nil) (walk_list rfl)⟩
    | str z => exact .inr (.inr ⟨z, rfl, P ρ1 H1 _ _ _ G1 R1 .nil (walk_str z)⟩)
    | _ => exact P.elim
theorem small62_of {i : Int} (h : small62 i = true) : -(2 ^ 62) ≤ i ∧ i < 2 ^ 62 := by
  simp only [small62, Bool.and_eq_true, decide_eq_true_eq] at h
  exact h
theorem r_rng1 (hg : Gl X "range") (hm : X.mg "range" = none) (ha : PA X [a] (tA X.K g W fun s m => (fa s m).bind fun d m => (.ok [d] m))) (hs : starEach [a] X.env = [(false, eval a X.env)]) :
    PI X tg (.Call (.Name "range" p) [a] [] pos) (tI X.K g W fun s m => (fa s m).bind fun x m => opt m ((intD x).bind fun n => if small62 n then some (rngD 0 n.toNat) else none)) := by
  refine PI.imp (pi_range1 hg hm ha hs) fun σ H Q h => ?_
  obtain ⟨ρ, m, s, R, E, P⟩ := h
  refine ⟨ρ, m, s, R, E, ?_⟩
  dsimp only at P ⊢
  revert P
  cases fa s m with
  | exc c fs m1 => intro P; exact P
  | bad => intro P; exact P
  | ok d m1 =>
    intro P ρ1 H1 vs G1 R1 V1
    simp only [bind_k] at P
    obtain ⟨v, rfl, h2⟩ := V1.one
    cases h2 with
    | int i =>
      simp only [intD, Option.bind_some] at P
      by_cases hk : small62 i = true
      · rw [if_pos hk] at P
        obtain ⟨q1, q2⟩ := small62_of hk
        exact ⟨i, rfl, q1, q2, P ρ1 H1 _ _ _ G1 R1 .nil (walk_rng 0 i.toNat)⟩
      · rw [if_neg hk] at P
        exact P.elim
    | _ => exact P.elim
end
end Ev
namespace Ev
open PySem PySem.Spec PyProof.Rows L2
section
variable {X : Cx} {g : Gm} {W : WX} {tg a b c : Expr} {fa fb fc : Sl → Mu → R D} {pos p : Pos}
theorem REnv.set {K : PySem.W.Frag} {ρ : Rh} {H : Hp} {s : Sl} {σ : L2.St} {d : D} {v : V} (h : REnv K g ρ H s σ) (r : RV K g ρ H d v) (i : Nat) : REnv K g ρ H (s.set i (some d)) (σ.set i (some v)) := by
  refine ⟨by simp [h.len], fun j e q => ?_⟩
  by_cases hj : i = j
  · subst hj
    have hl : i < s.length := by
      by_cases hl : i < s.length
      · exact hl
      · rw [List.getElem?_eq_none (by simpa using hl)] at q
        cases q
    rw [List.getElem?_set_self hl] at q
    cases q
    exact ⟨v, List.getElem?_set_self (by rw [← h.len]; exact hl), r⟩
  · rw [List.getElem?_set_ne hj] at q ⊢
    exact h.at_ j e q
theorem REnv.sets {K : PySem.W.Frag} {ρ : Rh} {H : Hp} : ∀ (is : List Nat) {s : Sl} {σ : L2.St} {ds : List D} {vs : List V}, REnv K g ρ H s σ → RVs K g ρ H ds vs →
    REnv K g ρ H ((is.zip ds).foldl (fun s p => s.set p.1 (some p.2)) s) ((is.zip vs).foldl (fun s p => s.set p.1 (some p.2)) σ)
  | [], _, _, _, _, h, _ => h
  | i :: is, _, _, _, _, h, .nil => h
  | i :: is, _, _, _, _, h, .cons r rs => by
    rw [List.zip_cons_cons, List.zip_cons_cons, List.foldl_cons, List.foldl_cons]
    exact REnv.sets is (h.set r i) rs
def gM (K : PySem.W.Frag) (g : Gm) (t : Tg) : TG := fun v σ H Q => ∃ ρ m s d s', Rel K g ρ m H ∧ REnv K g ρ H s σ ∧ RV K g ρ H d v ∧ setT t d m s = some s' ∧ ∀ σ', REnv K g ρ H s' σ' → Q σ' H
theorem PG.imp {e : Expr} {t t' : TG} (h : PG X e t) (hi : ∀ v σ H Q, t' v σ H Q → t v σ H Q) : PG X e t' := ⟨fun pins s σ H v u Q I r q => h.run pins s σ H v u Q I r (hi v σ H Q q)⟩
theorem PG.or {e : Expr} {t t' : TG} (h : PG X e t) (h' : PG X e t') : PG X e (fun v σ H Q => t v σ H Q ∨ t' v σ H Q) := ⟨fun pins s σ H v u Q I r q => q.elim (h.run pins s σ H v u Q I r) (h'.run pins s σ H v u Q I r)⟩
theorem r_tgN {i : Nat} {x : Str} (hN : X.N.Nodup) (hi : X.N[i]? = some x) (hx : Loc X.env.scope x) (hf : X.fn x = true ∨ X.env.scope.names.lookup x = some .local) : PG X (.Name x pos) (gM X.K g (.nm i)) := by
  refine PG.imp (pg_name hN hi hx hf) fun v σ H Q h => ?_
  obtain ⟨ρ, m, s, d, s', R, E, V, e, q⟩ := h
  cases e
  exact q _ (E.set V i)
def gNs : List Nat → TGs
  | [] => gNil
  | i :: is => gCons (gName i) (gNs is)
theorem gNs_of : ∀ {is : List Nat} {vs : List V} {σ : L2.St} {H : Hp} {Q : L2.St → Hp → Prop}, vs.length = is.length → Q ((is.zip vs).foldl (fun s p => s.set p.1 (some p.2)) σ) H → gNs is vs σ H Q
  | [], [], _, _, _, _, q => ⟨rfl, q⟩
  | i :: is, v :: vs, _, _, _, hl, q => ⟨v, vs, rfl, gNs_of (by simpa using hl) q⟩
  | [], _ :: _, _, _, _, hl, _ => by simp at hl
  | _ :: _, [], _, _, _, hl, _ => by simp at hl
inductive NamesAre (X : Cx) : List Nat → List Expr → Prop
  | nil : NamesAre X [] []
  | cons {i : Nat} {x : Str} {is : List Nat} {es : List Expr} {pos : Pos} : X.N[i]? = some x → Loc X.env.scope x → (X.fn x = true ∨ X.env.scope.names.lookup x = some .local) → NamesAre X is es → NamesAre X (i :: is) (.Name x pos :: es)
theorem NamesAre.pgs (hN : X.N.Nodup) : ∀ {is : List Nat} {es : List Expr}, NamesAre X is es → PGs X es (gNs is)
  | _, _, .nil => pgs_nil
  | _, _, .cons h1 h2 h3 r => pgs_cons (pg_name hN h1 h2 h3) (NamesAre.pgs hN r) rfl
theorem NamesAre.each : ∀ {is : List Nat} {es : List Expr}, NamesAre X is es → (assignEach es X.env).length = is.length ∧ (assignEach es X.env).findIdx? (·.1) = none
  | _, _, .nil => ⟨rfl, rfl⟩
  | _, _, .cons h1 h2 h3 r => by
    obtain ⟨e1, e2⟩ := NamesAre.each r
    refine ⟨by simp only [assignEach, List.length_cons, e1], ?_⟩
    simp only [assignEach, List.findIdx?_cons, e2]
    rfl
theorem r_tgT {is : List Nat} {es : List Expr} {k : Nat} (hc : X.calm = true) (hN : X.N.Nodup) (h : NamesAre X is es) : PG X (.Tuple es k pos) (gM X.K g (.tp is)) := by
  refine PG.imp (PG.or (pg_tup hc (h.pgs hN) h.each.1 h.each.2) (pg_unl hc (h.pgs hN) h.each.1 h.each.2)) fun v σ H Q q => ?_
  obtain ⟨ρ, m, s, d, s', R, E, V, e, q⟩ := q
  cases V with
  | tup a1 a2 =>
    rename_i l vs xs
    simp only [setT] at e
    by_cases hl : xs.length = is.length
    · rw [if_pos hl] at e
      cases e
      have hv : vs.length = is.length := by rw [← a2.length]; exact hl
      exact .inl ⟨l, vs, rfl, a1.1, hv, gNs_of hv (q _ (REnv.sets is E a2))⟩
    · rw [if_neg hl] at e
      cases e
  | lst a1 a2 a3 =>
    rename_i l vs xs
    simp only [setT] at e
    by_cases hl : xs.length = is.length
    · rw [if_pos hl] at e
      cases e
      have hv : vs.length = is.length := by rw [← a3.length]; exact hl
      exact .inr ⟨l, vs, rfl, SqL.of a1, hv, gNs_of hv (q _ (REnv.sets is E a3))⟩
    · rw [if_neg hl] at e
      cases e
  | _ => simp [setT] at e
end
theorem REnv.wipe {K : PySem.W.Frag} {g : Gm} {ρ : Rh} {H : Hp} {s : Sl} {σ : L2.St} (h : REnv K g ρ H s σ) : ∀ vs : List Nat, REnv K g ρ H (wipeS s vs) (wipe σ vs)
  | [] => h
  | v :: vs => by
    have ih := REnv.wipe h vs
    refine ⟨by simp [wipeS, L2.wipe, ih.len], fun i d q => ?_⟩
    simp only [wipeS, L2.wipe] at q ⊢
    by_cases hv : v = i
    · subst hv
      by_cases hl : v < (wipeS s vs).length
      · rw [List.getElem?_set_self hl] at q; cases q
      · rw [List.getElem?_eq_none (by simpa using hl)] at q; cases q
    · rw [List.getElem?_set_ne hv] at q ⊢
      exact ih.at_ i d q
theorem wipe_set_out {σ : L2.St} {o : Option V} {i : Nat} : ∀ (ws : List Nat), i ∉ ws → wipe (σ.set i o) ws = (wipe σ ws).set i o
  | [], _ => rfl
  | x :: xs, hx => by
    simp only [List.mem_cons, not_or] at hx
    simp only [L2.wipe]
    rw [wipe_set_out xs hx.2, List.set_comm _ _ hx.1]
theorem wipe_set_in {σ : L2.St} {o : Option V} {i : Nat} : ∀ {vs : List Nat}, i ∈ vs → wipe (σ.set i o) vs = wipe σ vs
  | w :: vs, h => by
    simp only [L2.wipe]
    by_cases hw : i ∈ vs
    · rw [wipe_set_in hw]
    · have e : i = w := by
        rcases List.mem_cons.mp h with e | e
        · exact e
        · exact absurd e hw
      subst e
      rw [wipe_set_out vs hw, List.set_set]
theorem wipe_wipe {σ : L2.St} (vs : List Nat) : ∀ (ws : List Nat), (∀ v ∈ ws, v ∈ vs) → wipe (wipe σ ws) vs = wipe σ vs
  | [], _ => rfl
  | w :: ws, h => by
    show wipe ((wipe σ ws).set w none) vs = wipe σ vs
    rw [wipe_set_in (h w List.mem_cons_self)]
    exact wipe_wipe vs ws fun v hv => h v (List.mem_cons_of_mem _ hv)
theorem goL_cons {f : D → Mu → R (Option D)} {x : D} {xs : List D} {m mF : Mu} {ys : List D} (h : goL f (x :: xs) m = .ok ys mF) : ∃ o m1 zs, f x m = .ok o m1 ∧ goL f xs m1 = .ok zs mF ∧ ys = o.toList ++ zs := by
  simp only [goL] at h
  cases e : f x m with
  | exc c fs m1 => rw [e] at h; cases h
  | bad => rw [e] at h; cases h
  | ok o m1 =>
    rw [e, bind_k] at h
    cases e2 : goL f xs m1 with
    | exc c fs m2 => rw [e2] at h; cases h
    | bad => rw [e2] at h; cases h
    | ok zs m2 =>
      rw [e2, bind_k] at h
      cases h
      exact ⟨o, m1, zs, rfl, e2, rfl⟩
theorem i_lc {X : Cx} {g : Gm} {W W0 : WX} {t : Tg} {fi : Sl → Mu → R (List D)} {fc fe : Sl → Mu → R D} {gv : TG} {σ : L2.St} {H : Hp} {Q : VK} {own : List Nat} (hown : ∀ v ∈ ownT t, v ∈ own)
    (hgv : ∀ v σ H Q, (∃ ρ m s d s', Rel X.K g ρ m H ∧ REnv X.K g ρ H s σ ∧ RV X.K g ρ H d v ∧ setT t d m s = some s' ∧ ∀ σ', REnv X.K g ρ H s' σ' → wipe σ' own = wipe σ own → Q σ' H) → gv v σ H Q)
    (h : tE X.K g W (fun s m => (fi s m).bind fun xs m => (noX (goL (fun x m => match setT t x m (wipeS s own) with
        | some s' => (fc s' m).bind fun k m => match k with
          | .bl true => (fe s' m).bind fun d m => .ok (some d) m
          | .bl false => .ok none m
          | _ => .bad
        | none => .bad) xs m)).bind fun ys m => if ys.length ≤ sizeLine then .ok (.lst ys) m else .bad) σ H Q) :
    tLc (tI X.K g W fi) gv (tT X.K g W0 fc) (tE X.K g W0 fe) own σ H Q := by
  obtain ⟨ρ0, m0, s, R0, E0, P⟩ := h
  refine ⟨ρ0, m0, s, R0, E0, ?_⟩
  dsimp only at P
  revert P
  cases hfi : fi s m0 with
  | exc c fs m1 => intro P; exact P
  | bad => intro P; exact P
  | ok xs m1 =>
    intro P ρ1 H1 J bs ws G1 R1 B1 WJ D0 hD
    simp only [bind_k] at P
    generalize hf : (fun x m => match setT t x m (wipeS s own) with
        | some s' => (fc s' m).bind fun k m => match k with
          | .bl true => (fe s' m).bind fun d m => .ok (some d) m
          | .bl false => .ok none m
          | _ => .bad
        | none => .bad) = f at P
    cases hgo : goL f xs m1 with
    | exc c fs m2 => rw [hgo] at P; exact P.elim
    | bad => rw [hgo] at P; exact P.elim
    | ok total mF =>
      rw [hgo, noX_k, bind_k] at P
      have hlen : total.length ≤ sizeLine := by
        by_cases hl : total.length ≤ sizeLine
        · exact hl
        · rw [if_neg hl] at P; exact P.elim
      rw [if_pos hlen] at P
      have E1 := E0.grow G1
      refine ⟨fun i k H2 => ∃ ρ m acc vs ys, Grow ρ1 H1 ρ H2 ∧ Rel X.K g (ρ.hide D0) m H2 ∧ H2 D0 = some (.lst vs) ∧ D0 ∉ ρ.lv ∧ RVs X.K g (ρ.hide D0) H2 acc vs ∧ RVs X.K g (ρ.hide D0) H2 bs ws ∧ REnv X.K g (ρ.hide D0) H2 s σ ∧ k + i = xs.length ∧ goL f (xs.drop i) m = .ok ys mF ∧ acc ++ ys = total, ⟨xs.length, ?_⟩, ?_⟩
      · exact ⟨ρ1, m1, [], [], total, Grow.new hD, R1.hide hD, upd_same, R1.notin hD, .nil, B1.hide hD, E1.map fun _ _ z => z.hide hD, by omega, by rw [List.drop_zero]; exact hgo, rfl⟩
      · rintro i k H2 ⟨ρ, m, acc, vs, ys, G, R2, hD2, hDn, V2, B2, E2, hk, hgo2, htot⟩
        obtain ⟨W1, W2⟩ := WJ _ m H2 B2 R2
        by_cases hi : i < xs.length
        · right
          have hdrop : xs.drop i = xs[i] :: xs.drop (i + 1) := List.drop_eq_getElem_cons hi
          rw [hdrop] at hgo2
          obtain ⟨o, m3, zs, hfx, hgo3, hys⟩ := goL_cons hgo2
          obtain ⟨hgoi, hyld⟩ := W1 i xs[i] (List.getElem?_eq_getElem hi)
          refine ⟨hgoi, fun H4 => ∃ ρ' acc' vs', Grow ρ1 H1 ρ' H4 ∧ Rel X.K g (ρ'.hide D0) m3 H4 ∧ H4 D0 = some (.lst vs') ∧ D0 ∉ ρ'.lv ∧ RVs X.K g (ρ'.hide D0) H4 acc' vs' ∧ RVs X.K g (ρ'.hide D0) H4 bs ws ∧ REnv X.K g (ρ'.hide D0) H4 s σ ∧ acc' ++ zs = total, ?_, ?_⟩
          · rintro H4 ⟨ρ', acc', vs', a1, a2, a3, a4, a5, a6, a7, a8⟩
            exact ⟨k - 1, by omega, ρ', m3, acc', vs', zs, a1, a2, a3, a4, a5, a6, a7, by omega, hgo3, a8⟩
          · intro x H3 hx
            obtain ⟨G3, R3, V3⟩ := hyld x H3 hx
            subst hf
            dsimp only at hfx
            cases hset : setT t xs[i] m (wipeS s own) with
            | none => rw [hset] at hfx; cases hfx
            | some s' =>
              rw [hset] at hfx
              dsimp only at hfx
              refine hgv x _ H3 _ ⟨ρ.hide D0, m, _, xs[i], s', R3, (E2.grow G3).wipe own, V3, hset, fun σ' E' hw => ⟨by rw [hw, wipe_wipe own own fun _ z => z], ρ.hide D0, m, s', R3, E', ?_⟩⟩
              -- how things stand behind a look at (ρ.hide D0, H3) that came to (ρ2, H5)
              have later : ∀ {ρ2 : Rh} {H5 : Hp}, Grow (ρ.hide D0) H3 ρ2 H5 → ∃ l, ρ2 = (⟨l, ρ.hd⟩ : Rh).hide D0 ∧ Grow ρ1 H1 ⟨l, ρ.hd⟩ H5 ∧ H5 D0 = some (.lst vs) ∧ D0 ∉ l := by
                intro ρ2 H5 G5
                have G35 := G3.trans G5
                obtain ⟨l, rfl, Gl⟩ := G35.unhide
                obtain ⟨q1, q2⟩ := Gl.at_ hD2 hDn True.intro
                exact ⟨l, rfl, G.trans Gl, q1, q2⟩
              revert hfx
              cases fc s' m with
              | exc c fs m4 => intro hfx; cases hfx
              | bad => intro hfx; cases hfx
              | ok kd m4 =>
                intro hfx
                simp only [bind_k] at hfx
                cases kd with
                | bl kb =>
                  intro ρ2 H5 G5 R5
                  cases kb with
                  | false =>
                    refine iteF ?_
                    cases hfx
                    obtain ⟨l, rfl, Gl, hDl, hnl⟩ := later G5
                    refine ⟨⟨l, ρ.hd⟩, acc, vs, Gl, R5, hDl, hnl, V2.grow (G3.trans G5), B2.grow (G3.trans G5), E2.grow (G3.trans G5), ?_⟩
                    rw [← htot, hys]
                    rfl
                  | true =>
                    refine iteT ?_
                    refine ⟨ρ2, m4, s', R5, E'.grow G5, ?_⟩
                    dsimp only at hfx
                    revert hfx
                    cases fe s' m4 with
                    | exc c fs m5 => intro hfx; cases hfx
                    | bad => intro hfx; cases hfx
                    | ok d m5 =>
                      intro hfx ρ3 H6 v G6 R6 V6
                      simp only [bind_k] at hfx
                      cases hfx
                      obtain ⟨l, rfl, Gl, hDl, hnl⟩ := later (G5.trans G6)
                      have V2' := V2.grow (G3.trans (G5.trans G6))
                      have hh : D0 ∈ ((⟨l, ρ.hd⟩ : Rh).hide D0).hd := List.mem_cons_self
                      refine ⟨vs, hDl, ?_, ⟨l, ρ.hd⟩, acc ++ [d], vs ++ [v], Gl.over hD, R6.under hh hnl (Mut.lst hDl), upd_same, hnl, ?_, (B2.grow (G3.trans (G5.trans G6))).under hh (Mut.lst hDl), (E2.grow (G3.trans (G5.trans G6))).map fun _ _ z => z.under hh (Mut.lst hDl), ?_⟩
                      · rw [← V2.length]
                        have hz : (acc ++ ys).length ≤ sizeLine := by rw [htot]; exact hlen
                        rw [hys] at hz
                        simp at hz
                        omega
                      · exact (V2'.append (.cons V6 .nil)).under hh (Mut.lst hDl)
                      · rw [← htot, hys, List.append_assoc]
                        rfl
                | _ => cases hfx
        · left
          have ei : i = xs.length := by omega
          subst ei
          rw [List.drop_length] at hgo2
          cases hgo2
          rw [List.append_nil] at htot
          subst htot
          have hout : ρ.out D0 := ⟨hDn, by
            have q := (R1.out hD).2
            rw [← G.hid] at q
            exact q⟩
          exact ⟨W2, P ρ H2 (.ref D0) (G1.trans G) R2.unhide (.lst hD2 hout V2.unhide)⟩
end Ev
namespace Ev
open PySem PySem.Spec PyProof.Rows L2
end Ev
namespace Ev
open PySem PySem.Spec PyProof.Rows L2
end Ev
namespace Ev
open PySem PySem.Spec PyProof.Rows L2
end Ev
namespace Ev
open PySem PySem.Spec PyProof.Rows L2
end Ev
namespace Ev
open PySem PySem.Spec PyProof.Rows L2
abbrev F0 : WX := fun _ _ _ _ => False
section
variable {X : Cx} {g : Gm} {W : WX} {tg a b c : Expr} {fa fb fc : Sl → Mu → R D} {pos p : Pos}
def gB (K : PySem.W.Frag) : Tg → TG
  | .nm i => gName i
  | .tp is => fun v σ H Q => gTup K is.length (gNs is) v σ H Q ∨ gUnl K is.length (gNs is) v σ H Q
theorem wipe_sets {own : List Nat} : ∀ (is : List Nat) {σ : L2.St} (vs : List V), (∀ v ∈ is, v ∈ own) → wipe ((is.zip vs).foldl (fun s p => s.set p.1 (some p.2)) σ) own = wipe σ own
  | [], _, _, _ => rfl
  | _ :: _, _, [], _ => rfl
  | i :: is, σ, v :: vs, h => by
    rw [List.zip_cons_cons, List.foldl_cons, wipe_sets is vs fun v hv => h v (List.mem_cons_of_mem _ hv), wipe_set_in (h i List.mem_cons_self)]
theorem gB_of {t : Tg} {own : List Nat} (hown : ∀ v ∈ ownT t, v ∈ own) : ∀ v σ H Q, (∃ ρ m s d s', Rel X.K g ρ m H ∧ REnv X.K g ρ H s σ ∧ RV X.K g ρ H d v ∧ setT t d m s = some s' ∧ ∀ σ', REnv X.K g ρ H s' σ' → wipe σ' own = wipe σ own → Q σ' H) → gB X.K t v σ H Q := by
  intro v σ H Q ⟨ρ, m, s, d, s', R, E, V, e, q⟩
  cases t with
  | nm i =>
    cases e
    exact q _ (E.set V i) (wipe_set_in (hown i (by simp [ownT])))
  | tp is =>
    cases V with
    | tup a1 a2 =>
      rename_i l vs xs
      simp only [setT] at e
      by_cases hl : xs.length = is.length
      · rw [if_pos hl] at e
        cases e
        have hv : vs.length = is.length := by rw [← a2.length]; exact hl
        exact .inl ⟨l, vs, rfl, a1.1, hv, gNs_of hv (q _ (REnv.sets is E a2) (wipe_sets is vs hown))⟩
      · rw [if_neg hl] at e
        cases e
    | lst a1 a2 a3 =>
      rename_i l vs xs
      simp only [setT] at e
      by_cases hl : xs.length = is.length
      · rw [if_pos hl] at e
        cases e
        have hv : vs.length = is.length := by rw [← a3.length]; exact hl
        exact .inr ⟨l, vs, rfl, SqL.of a1, hv, gNs_of hv (q _ (REnv.sets is E a3) (wipe_sets is vs hown))⟩
      · rw [if_neg hl] at e
        cases e
    | _ => simp [setT] at e
theorem r_gBN {i : Nat} {x : Str} (hN : X.N.Nodup) (hi : X.N[i]? = some x) (hx : Loc X.env.scope x) (hf : X.fn x = true ∨ X.env.scope.names.lookup x = some .local) : PG X (.Name x pos) (gB X.K (.nm i)) := pg_name hN hi hx hf
theorem r_gBT {is : List Nat} {es : List Expr} {k : Nat} (hc : X.calm = true) (hN : X.N.Nodup) (h : NamesAre X is es) : PG X (.Tuple es k pos) (gB X.K (.tp is)) := PG.or (pg_tup hc (h.pgs hN) h.each.1 h.each.2) (pg_unl hc (h.pgs hN) h.each.1 h.each.2)
theorem r_ifs0 : PTs X [] (tT X.K g W fun _ m => .ok (.bl true) m) :=
  ⟨fun pins s σ H Q I ⟨ρ, m, sl, R, E, P⟩ => pts_nil.run pins s σ H Q I (P ρ H .refl R)⟩
abbrev lcF (t : Tg) (fi : Sl → Mu → R (List D)) (fc fe : Sl → Mu → R D) : Sl → Mu → R D := fun s m => (fi s m).bind fun xs m => (noX (goL (fun x m => match setT t x m (wipeS s (ownT t)) with
        | some s' => (fc s' m).bind fun k m => match k with
          | .bl true => (fe s' m).bind fun d m => .ok (some d) m
          | .bl false => .ok none m
          | _ => .bad
        | none => .bad) xs m)).bind fun ys m => if ys.length ≤ sizeLine then .ok (.lst ys) m else .bad
theorem r_lc {elt iter : Expr} {ifs : List Expr} {scope : Scope} {own : List (Str × Nat)} {t : Tg} {fi : Sl → Mu → R (List D)} {fe : Sl → Mu → R D} (hc : X.calm = true) (hN : X.N.Nodup) (hi : PI X tg iter (tI X.K g W fi)) (ok : BlkOk X.N X.env.scope scope own)
    (ho : own.map (·.2) = ownT t)
    (hg : ∀ (s : Shared) (H : Hp) (C : Addr) (cl : List (Str × Addr)) (fp : List Addr), PG (X.blk s H scope (compEnvC scope cl C X.env) fp) tg (gB X.K t))
    (ht : ∀ (s : Shared) (H : Hp) (C : Addr) (cl : List (Str × Addr)) (fp : List Addr), PTs (X.blk s H scope (compEnvC scope cl C X.env) fp) ifs (tT X.K g F0 fc))
    (he : ∀ (s : Shared) (H : Hp) (C : Addr) (cl : List (Str × Addr)) (fp : List Addr), PE (X.blk s H scope (compEnvC scope cl C X.env) fp) elt (tE X.K g F0 fe)) (hs : ∀ x, foldedSetIterable iter X.env x = pure x) :
    PE X (.ListComp elt [⟨tg, iter, ifs, 0⟩] scope pos) (tE X.K g W (lcF t fi fc fe)) := by
  refine PE.imp (pe_lc hc hN hi ok hg ht he hs) fun σ H Q h => ?_
  rw [ho]
  exact i_lc (fun _ z => z) (gB_of fun _ z => z) h
def PostS (K : PySem.W.Frag) (g : Gm) (W : WX) (ρ : Rh) (H : Hp) (E : Ends) : RS → Prop
  | .nx s m => ∀ ρ' H' σ', Grow ρ H ρ' H' → Rel K g ρ' m H' → REnv K g ρ' H' s σ' → E.nx σ' H'
  | .rt d m => ∀ ρ' H' v, Grow ρ H ρ' H' → Rel K g ρ' m H' → RV K g ρ' H' d v → E.rt v H'
  | .bk s m => ∀ ρ' H' σ', Grow ρ H ρ' H' → Rel K g ρ' m H' → REnv K g ρ' H' s σ' → E.bk σ' H'
  | .ct s m => ∀ ρ' H' σ', Grow ρ H ρ' H' → Rel K g ρ' m H' → REnv K g ρ' H' s σ' → E.ct σ' H'
  | .exc c fs s m => ∀ ρ' H' σ' cv dd, Grow ρ H ρ' H' → Rel K g ρ' m H' → REnv K g ρ' H' s σ' → RX K g ρ' H' c fs cv dd → W cv dd σ' H'
  | .bad => False
def tS (K : PySem.W.Frag) (g : Gm) (W : WX) (f : Sl → Mu → RS) : TS := fun E σ H => ∃ ρ m s, Rel K g ρ m H ∧ REnv K g ρ H s σ ∧ PostS K g W ρ H E (f s m)
theorem PostS.grow {K : PySem.W.Frag} {ρ ρ1 : Rh} {H H1 : Hp} (G : Grow ρ H ρ1 H1) {E : Ends} {r : RS} (h : PostS K g W ρ H E r) : PostS K g W ρ1 H1 E r := by
  cases r with
  | nx s m => exact fun ρ' H' σ' G' => h ρ' H' σ' (G.trans G')
  | rt d m => exact fun ρ' H' v G' => h ρ' H' v (G.trans G')
  | bk s m => exact fun ρ' H' σ' G' => h ρ' H' σ' (G.trans G')
  | ct s m => exact fun ρ' H' σ' G' => h ρ' H' σ' (G.trans G')
  | exc c fs s m => exact fun ρ' H' σ' cv dd G' => h ρ' H' σ' cv dd (G.trans G')
  | bad => exact h
theorem PostS.first {K : PySem.W.Frag} {ρ : Rh} {H : Hp} {σ : L2.St} {E : Ends} {r : R D} {s : Sl} {k : D → Mu → RS} (h : PostS K g W ρ H E (r.toS s k)) (he : REnv K g ρ H s σ) :
    PostE K g W σ ρ H (fun v H1 => ∃ ρ1 m1 d, Grow ρ H ρ1 H1 ∧ Rel K g ρ1 m1 H1 ∧ REnv K g ρ1 H1 s σ ∧ RV K g ρ1 H1 d v ∧ PostS K g W ρ1 H1 E (k d m1)) r := by
  cases r with
  | ok d m => exact fun ρ' H' v G R V => ⟨ρ', m, d, G, R, he.grow G, V, h.grow G⟩
  | exc c fs m => exact fun ρ' H' cv dd G R X => h ρ' H' σ cv dd G R (he.grow G) X
  | bad => exact h
theorem PostS.firstT {K : PySem.W.Frag} {ρ : Rh} {H : Hp} {σ : L2.St} {E : Ends} {r : R D} {s : Sl} {k : D → Mu → RS} (hk : ∀ d m, blD d = none → k d m = .bad) (h : PostS K g W ρ H E (r.toS s k)) (he : REnv K g ρ H s σ) :
    PostT K g W σ ρ H (fun b H1 => ∃ ρ1 m1, Grow ρ H ρ1 H1 ∧ Rel K g ρ1 m1 H1 ∧ REnv K g ρ1 H1 s σ ∧ PostS K g W ρ1 H1 E (k (.bl b) m1)) r := by
  cases r with
  | ok d m =>
    simp only [toS_k] at h
    cases e : blD d with
    | none => rw [hk d m e] at h; exact h.elim
    | some b =>
      obtain rfl := blD_some e
      exact fun ρ' H' G R => ⟨ρ', m, G, R, he.grow G, h.grow G⟩
  | exc c fs m => exact fun ρ' H' cv dd G R X => h ρ' H' σ cv dd G R (he.grow G) X
  | bad => exact h
theorem r_ssnil : PSs X [] (tS X.K g W fun s m => .nx s m) :=
  PSs.imp pss_nil fun E σ H ⟨ρ, m, s, R, En, P⟩ => P ρ H σ .refl R En
theorem r_sscons {st : Stmt} {rest : List Stmt} {f h : Sl → Mu → RS} (h1 : PS X st (tS X.K g W f)) (h2 : PSs X rest (tS X.K g W h)) : PSs X (st :: rest) (tS X.K g W fun s m => (f s m).thn fun s m => h s m) := by
  refine PSs.imp (pss_cons h1 h2) fun E σ H q => ?_
  obtain ⟨ρ, m, s, R, En, P⟩ := q
  refine ⟨ρ, m, s, R, En, ?_⟩
  dsimp only at P
  revert P
  cases f s m with
  | nx s1 m1 => intro P ρ' H' σ' G R' E'; exact ⟨ρ', m1, s1, R', E', PostS.grow G P⟩
  | rt d m1 => intro P; exact P
  | bk s1 m1 => intro P; exact P
  | ct s1 m1 => intro P; exact P
  | exc c fs s1 m1 => intro P; exact P
  | bad => intro P; exact P
theorem r_ex (ha : PE X a (tE X.K g W fa)) (hs : swapsWith a none pos.line X.env = pure false) : PS X (.Expr a pos) (tS X.K g W fun s m => (fa s m).toS s fun _ m => .nx s m) := by
  refine PS.imp (ps_expr ha hs) fun E σ H q => ?_
  obtain ⟨ρ, m, s, R, En, P⟩ := q
  refine ⟨ρ, m, s, R, En, (PostS.first P En).mono ?_⟩
  rintro v H1 ⟨ρ1, m1, d, G1, R1, E1, V1, P1⟩
  exact P1 ρ1 H1 σ .refl R1 E1
theorem r_ret (ha : PE X a (tE X.K g W fa)) : PS X (.Return (some a) pos) (tS X.K g W fun s m => (fa s m).toS s fun d m => .rt d m) := by
  refine PS.imp (ps_ret ha) fun E σ H q => ?_
  obtain ⟨ρ, m, s, R, En, P⟩ := q
  refine ⟨ρ, m, s, R, En, (PostS.first P En).mono ?_⟩
  rintro v H1 ⟨ρ1, m1, d, G1, R1, E1, V1, P1⟩
  exact P1 ρ1 H1 v .refl R1 V1
theorem r_retN : PS X (.Return none pos) (tS X.K g W fun _ m => .rt .non m) :=
  PS.imp ps_retN fun E σ H ⟨ρ, m, s, R, En, P⟩ => P ρ H _ .refl R .non
theorem r_pass : PS X (.Pass pos) (tS X.K g W fun s m => .nx s m) :=
  PS.imp ps_pass fun E σ H ⟨ρ, m, s, R, En, P⟩ => P ρ H σ .refl R En
theorem r_brk : PS X (.Break pos) (tS X.K g W fun s m => .bk s m) :=
  PS.imp ps_break fun E σ H ⟨ρ, m, s, R, En, P⟩ => P ρ H σ .refl R En
theorem r_cont : PS X (.Continue pos) (tS X.K g W fun s m => .ct s m) :=
  PS.imp ps_continue fun E σ H ⟨ρ, m, s, R, En, P⟩ => P ρ H σ .refl R En
theorem r_setOf {st : Stmt} {i : Nat} (h : PS X st (tAsg (tE X.K g W fa) (gName i))) : PS X st (tS X.K g W fun s m => (fa s m).toS s fun d m => .nx (s.set i (some d)) m) := by
  refine PS.imp h fun E σ H q => ?_
  obtain ⟨ρ, m, s, R, En, P⟩ := q
  refine ⟨ρ, m, s, R, En, (PostS.first P En).mono ?_⟩
  rintro v H1 ⟨ρ1, m1, d, G1, R1, E1, V1, P1⟩
  exact P1 ρ1 H1 _ .refl R1 (E1.set V1 i)
theorem r_unp {is : List Nat} {st : Stmt} (h : PS X st (tAsg (tE X.K g W fa) (gM X.K g (.tp is)))) : PS X st (tS X.K g W fun s m => (fa s m).toS s fun d m => match unpF is d m s with
      | some s => .nx s m
      | none => .bad) := by
  refine PS.imp h fun E σ H q => ?_
  obtain ⟨ρ, m, s, R, En, P⟩ := q
  refine ⟨ρ, m, s, R, En, (PostS.first P En).mono ?_⟩
  rintro v H1 ⟨ρ1, m1, d, G1, R1, E1, V1, P1⟩
  cases e : unpF is d m1 s with
  | none => simp only [e] at P1; exact P1.elim
  | some s' =>
    simp only [e] at P1
    have e' : setT (.tp is) d m1 s = some s' := by
      cases d <;> first | exact e | cases e
    exact ⟨ρ1, m1, s, d, s', R1, E1, V1, e', fun σ' E' => P1 ρ1 H1 σ' .refl R1 E'⟩
theorem setM : PSet X (fun o i v H Q => ∃ ρ m d1 d2 d3, Rel X.K g ρ m H ∧ RV X.K g ρ H d1 o ∧ RV X.K g ρ H d2 i ∧ RV X.K g ρ H d3 v ∧ ∃ m', setSub m d1 d2 d3 = some m' ∧ ∀ H', Grow ρ H ρ H' → Rel X.K g ρ m' H' → Q H') := by
  intro pins s σ H o i v ov iv u Q I ro ri rv h
  obtain ⟨ρ, m, d1, d2, d3, R, h1, h2, h3, m', e, q⟩ := h
  cases h1 with
  | ref hi =>
    cases h2 with
    | int k =>
      simp only [setSub] at e
      split at e
      · rename_i xs hm
        simp only [Option.map_eq_some_iff] at e
        obtain ⟨j, ej, rfl⟩ := e
        obtain ⟨l, hl, vs, hv, hr⟩ := R.get hm
        rw [hi] at hl
        cases hl
        obtain ⟨R', G'⟩ := R.put hm hi (hr.set h3 j)
        exact set_list pins s σ H _ _ v ov iv u Q I ro ri rv ⟨_, vs, k, j, rfl, rfl, hv, by rw [← hr.length]; exact ej, q _ G' R'⟩
      · cases e
    | _ => simp [setSub] at e
  | _ => cases h2 <;> simp [setSub] at e
theorem r_sub {o i : Expr} {fo fi : Sl → Mu → R D} {pos' : Pos} (ha : PE X a (tE X.K g W fa)) (ho : PE X o (tE X.K g W fo)) (hi : PE X i (tE X.K g W fi))
    (has : ∀ v, assign (.Subscript o i pos') X.env v = (do
      let ov ← holding [v] (eval o X.env)
      let iv ← holding [v, ov] (eval i X.env)
      standAt pos'
      holding [v, ov, iv] (setItem ov iv v)
      release [v, ov, iv] []))
    (hs : swapsWithSole [.Subscript o i pos'] a pos.line X.env = pure false) (hw : swappedStores [.Subscript o i pos'] a X.env = pure none) (h1 : (assignEach [.Subscript o i pos'] X.env).map (·.2) = [assign (.Subscript o i pos') X.env]) :
    PS X (.Assign [.Subscript o i pos'] a pos) (tS X.K g W fun s m => (fa s m).toS s fun d m => (fo s m).toS s fun x m => (fi s m).toS s fun y m => match setSub m x y d with
      | some m => .nx s m
      | none => .bad) := by
  refine PS.imp (ps_asg ha (pg_sub ho hi (setM (g := g)) has) hs hw h1) fun E σ H q => ?_
  obtain ⟨ρ, m, s, R, En, P⟩ := q
  refine ⟨ρ, m, s, R, En, (PostS.first P En).mono ?_⟩
  rintro v H1 ⟨ρ1, m1, d, G1, R1, E1, V1, P1⟩
  refine ⟨ρ1, m1, s, R1, E1, (PostS.first P1 E1).mono ?_⟩
  rintro v2 H2 ⟨ρ2, m2, d2, G2, R2, E2, V2, P2⟩
  refine ⟨ρ2, m2, s, R2, E2, (PostS.first P2 E2).mono ?_⟩
  rintro v3 H3 ⟨ρ3, m3, d3, G3, R3, E3, V3, P3⟩
  cases e : setSub m3 d2 d3 d with
  | none => simp only [e] at P3; exact P3.elim
  | some m' =>
    simp only [e] at P3
    exact ⟨ρ3, m3, d2, d3, d, R3, V2.grow G3, V3, V1.grow (G2.trans G3), m', e, fun H' G' R' => P3 ρ3 H' σ G' R' (E3.grow G')⟩
theorem ipM (op : Operator) : PIp X op (fun x y H Q => ∃ ρ m d1 d2, Rel X.K g ρ m H ∧ RV X.K g ρ H d1 x ∧ RV X.K g ρ H d2 y ∧ PostO X.K g ρ H m Q (augF op d1 d2)) := by
  intro pins s σ H x y v u Q I r1 r2 h
  obtain ⟨ρ, m, d1, d2, R, h1, h2, P⟩ := h
  cases op with
  | Add =>
    cases h1 <;> first | exact P.elim | skip
    cases h2 <;> first | exact P.elim | skip
    exact ip_add pins s σ H _ _ v u Q I r1 r2 ⟨_, _, rfl, rfl, P ρ H _ .refl R (.int _)⟩
  | Sub =>
    cases h1 <;> first | exact P.elim | skip
    cases h2 <;> first | exact P.elim | skip
    exact ip_sub pins s σ H _ _ v u Q I r1 r2 ⟨_, _, rfl, rfl, P ρ H _ .refl R (.int _)⟩
  | _ => exact P.elim
theorem r_aug {i : Nat} {x : Str} {op : Operator} {pos' : Pos} (hN : X.N.Nodup) (hi : X.N[i]? = some x) (hx : Loc X.env.scope x) (hf : X.fn x = true ∨ X.env.scope.names.lookup x = some .local) (ha : PE X a (tE X.K g W fa)) :
    PS X (.AugAssign (.Name x pos') op a pos) (tS X.K g W fun s m => match s[i]? with
      | some (some x) => (fa s m).toS s fun y m => match augF op x y with
        | some z => .nx (s.set i (some z)) m
        | none => .bad
      | _ => .bad) := by
  refine PS.imp (ps_aug hN hi hx ha (ipM (g := g) op) hf) fun E σ H q => ?_
  obtain ⟨ρ, m, s, R, En, P⟩ := q
  dsimp only at P
  cases e : s[i]? with
  | none => rw [e] at P; exact P.elim
  | some o =>
    cases o with
    | none => rw [e] at P; exact P.elim
    | some d0 =>
      rw [e] at P
      dsimp only at P
      obtain ⟨v0, e0, r0⟩ := En.at_ i d0 e
      refine ⟨v0, e0, ρ, m, s, R, En, (PostS.first P En).mono ?_⟩
      rintro v H1 ⟨ρ1, m1, d, G1, R1, E1, V1, P1⟩
      refine ⟨ρ1, m1, d0, d, R1, r0.grow G1, V1, ?_⟩
      cases e2 : augF op d0 d with
      | none => simp only [e2] at P1; exact P1.elim
      | some z =>
        simp only [e2] at P1
        intro ρ2 H2 w G2 R2 V2
        exact P1 ρ2 H2 _ G2 R2 ((E1.grow G2).set V2 i)
theorem r_if {c : Expr} {x y : List Stmt} {fx fy : Sl → Mu → RS} (hc : PT X c (tT X.K g W fc)) (hx : PSs X x (tS X.K g W fx)) (hy : PSs X y (tS X.K g W fy)) :
    PS X (.If c x y pos) (tS X.K g W fun s m => (fc s m).toS s fun k m => match k with
      | .bl true => fx s m
      | .bl false => fy s m
      | _ => .bad) := by
  refine PS.imp (ps_if hc hx hy) fun E σ H q => ?_
  obtain ⟨ρ, m, s, R, En, P⟩ := q
  refine ⟨ρ, m, s, R, En, (PostS.firstT ?_ P En).mono ?_⟩
  · intro d m hd
    cases d <;> first | rfl | cases hd
  · rintro k H1 ⟨ρ1, m1, G1, R1, E1, P1⟩
    cases k with
    | true => exact iteT ⟨ρ1, m1, s, R1, E1, P1⟩
    | false => exact iteF ⟨ρ1, m1, s, R1, E1, P1⟩
theorem r_for {iter : Expr} {body : List Stmt} {t : Tg} {fi : Sl → Mu → R (List D)} {f : Sl → Mu → RS} (hp : PassesOwn (model X.prog X.w) X.A X.env X.xe) (hc : X.calm = true) (hi : PI X tg iter (tI X.K g W fi)) (hg : PG X tg (gM X.K g t)) (hb : PSs X body (tS X.K g W f))
    (hs : ∀ x, foldedSetIterable iter X.env x = pure x) :
    PS X (.For tg iter body [] pos) (tS X.K g W fun s m => (fi s m).toS s fun xs m => goF (fun x s m => match setT t x m s with
      | some s => f s m
      | none => .bad) xs s m) := by
  refine PS.imp (ps_for hp hc hi hg hb hs) fun E σ H q => ?_
  obtain ⟨ρ0, m0, s0, R0, E0, P⟩ := q
  refine ⟨ρ0, m0, s0, R0, E0, ?_⟩
  dsimp only at P
  revert P
  cases fi s0 m0 with
  | exc c fs m1 => intro P; exact fun ρ' H' cv dd G R X => P ρ' H' σ cv dd G R (E0.grow G) X
  | bad => intro P; exact P
  | ok xs m1 =>
    intro P ρ1 H1 J bs ws G1 R1 B1 WJ
    simp only [toS_k] at P
    generalize hf : (fun x s m => match setT t x m s with
      | some s => f s m
      | none => .bad) = F at P
    refine ⟨fun i k σ2 H2 => ∃ ρ m s, Grow ρ1 H1 ρ H2 ∧ Rel X.K g ρ m H2 ∧ REnv X.K g ρ H2 s σ2 ∧ RVs X.K g ρ H2 bs ws ∧ k + i = xs.length ∧ PostS X.K g W ρ H2 E (goF F (xs.drop i) s m), ⟨xs.length, ρ1, m1, s0, .refl, R1, E0.grow G1, B1, by omega, by rw [List.drop_zero]; exact P.grow G1⟩, ?_⟩
    rintro i k σ2 H2 ⟨ρ, m, s, G, R2, E2, B2, hk, P2⟩
    obtain ⟨W1, W2⟩ := WJ ρ m H2 B2 R2
    by_cases hi : i < xs.length
    · right
      rw [List.drop_eq_getElem_cons hi] at P2
      obtain ⟨hgo, hyld⟩ := W1 i xs[i] (List.getElem?_eq_getElem hi)
      refine ⟨hgo, fun σ' H' => ∃ ρ m s, Grow ρ1 H1 ρ H' ∧ Rel X.K g ρ m H' ∧ REnv X.K g ρ H' s σ' ∧ RVs X.K g ρ H' bs ws ∧ PostS X.K g W ρ H' E (goF F (xs.drop (i + 1)) s m), ?_, ?_⟩
      · rintro σ' H' ⟨ρ', m', s', a1, a2, a3, a4, a5⟩
        exact ⟨k - 1, by omega, ρ', m', s', a1, a2, a3, a4, by omega, a5⟩
      · intro x H3 hx
        obtain ⟨G3, R3, V3⟩ := hyld x H3 hx
        subst hf
        simp only [goF] at P2
        cases hset : setT t xs[i] m s with
        | none => simp only [hset] at P2; exact P2.elim
        | some s' =>
          simp only [hset] at P2
          refine ⟨ρ, m, s, xs[i], s', R3, E2.grow G3, V3, hset, fun σ' E' => ⟨ρ, m, s', R3, E', ?_⟩⟩
          have P3 := PostS.grow G3 P2
          revert P3
          cases f s' m with
          | nx s1 m1 => intro P3 ρ' H' σ'' G' R' E''; exact ⟨ρ', m1, s1, G.trans (G3.trans G'), R', E'', B2.grow (G3.trans G'), P3.grow G'⟩
          | ct s1 m1 => intro P3 ρ' H' σ'' G' R' E''; exact ⟨ρ', m1, s1, G.trans (G3.trans G'), R', E'', B2.grow (G3.trans G'), P3.grow G'⟩
          | bk s1 m1 => intro P3; exact P3
          | rt d m1 => intro P3; exact P3
          | exc c fs s1 m1 => intro P3; exact P3
          | bad => intro P3; exact P3
    · left
      have ei : i = xs.length := by omega
      subst ei
      rw [List.drop_length] at P2
      exact ⟨W2, P2 ρ H2 σ2 .refl R2 E2⟩
theorem r_while {cd : Expr} {body : List Stmt} {f : Sl → Mu → RS} (hp : PassesOwn (model X.prog X.w) X.A X.env X.xe) (hc : PT X cd (tT X.K g W fc)) (hb : PSs X body (tS X.K g W f)) (n : Nat) :
    PS X (.While cd body [] pos) (tS X.K g W fun s m => goW fc f n s m) := by
  refine PS.imp (ps_while hp hc hb) fun E σ H q => ?_
  obtain ⟨ρ0, m0, s0, R0, E0, P⟩ := q
  refine ⟨fun k σ2 H2 => ∃ ρ m s, Rel X.K g ρ m H2 ∧ REnv X.K g ρ H2 s σ2 ∧ PostS X.K g W ρ H2 E (goW fc f k s m), ⟨n, ρ0, m0, s0, R0, E0, P⟩, ?_⟩
  rintro k σ2 H2 ⟨ρ, m, s, R, En, P⟩
  cases k with
  | zero => exact P.elim
  | succ k =>
    simp only [goW] at P
    refine ⟨ρ, m, s, R, En, (PostS.firstT ?_ P En).mono ?_⟩
    · intro d m hd
      cases d <;> first | rfl | cases hd
    · rintro b H1 ⟨ρ1, m1, G1, R1, E1, P1⟩
      cases b with
      | false => exact iteF (P1 ρ1 H1 σ2 .refl R1 E1)
      | true =>
        refine iteT ⟨fun σ' H' => ∃ ρ m s, Rel X.K g ρ m H' ∧ REnv X.K g ρ H' s σ' ∧ PostS X.K g W ρ H' E (goW fc f k s m), fun σ' H' z => ⟨k, Nat.lt_succ_self _, z⟩, ρ1, m1, s, R1, E1, ?_⟩
        dsimp only at P1
        revert P1
        cases f s m1 with
        | nx s2 m2 => intro P1 ρ' H' σ' G' R' E'; exact ⟨ρ', m2, s2, R', E', P1.grow G'⟩
        | ct s2 m2 => intro P1 ρ' H' σ' G' R' E'; exact ⟨ρ', m2, s2, R', E', P1.grow G'⟩
        | bk s2 m2 => intro P1; exact P1
        | rt d m2 => intro P1; exact P1
        | exc c fs s2 m2 => intro P1; exact P1
        | bad => intro P1; exact P1
end
end Ev
namespace Ev
open PySem PySem.Spec PyProof.Rows L2
end Ev
namespace Ev
open PySem PySem.Spec PyProof.Rows L2
def notStar : Expr → Bool
  | .Starred .. => false
  | _ => true
theorem star_cons {e : Expr} {r : List Expr} {env : Env} (h : notStar e = true) : starEach (e :: r) env = (false, eval e env) :: starEach r env := by
  cases e <;> first | rfl | cases h
theorem star_any {pos : Pos} {env : Env} : ∀ {es : List Expr}, es.all notStar = true → (backTo pos (starEach es env)).any (·.1) = false
  | [], _ => rfl
  | e :: r, h => by
    rw [List.all_cons, Bool.and_eq_true] at h
    rw [star_cons h.1]
    show (false || (backTo pos (starEach r env)).any (·.1)) = false
    rw [star_any h.2]
    rfl
theorem star_all {pos : Pos} {env : Env} : ∀ {es : List Expr}, es.all notStar = true → (backTo pos (starEach es env)).all (fun x => !x.1) = true
  | [], _ => rfl
  | e :: r, h => by
    rw [List.all_cons, Bool.and_eq_true] at h
    rw [star_cons h.1]
    show (!false && (backTo pos (starEach r env)).all (fun x => !x.1)) = true
    rw [star_all h.2]
    rfl
def plainBase : Expr → Bool
  | .Call (.Name _ _) [] [] _ => false
  | _ => true
theorem base_plain {o : Expr} {attr : Str} {env : Env} {whole : Sem Value} (h : plainBase o = true) : attributeBase o attr env whole = whole := by
  unfold attributeBase
  split
  · simp [plainBase] at h
  · rfl
def spM (K : PySem.W.Frag) (P : List Fn) (g : Gm) (n f : Nat) : Sp := fun vs H Q E => ∃ ρ m ds, Rel K g ρ m H ∧ RVs K g ρ H ds vs ∧ PostE K g (fun c d _ H' => E c d H') [] ρ H Q (callF P n f ds m)
theorem PostE.re {K : PySem.W.Frag} {g : Gm} {W : WX} {σ : L2.St} {ρ : Rh} {H : Hp} {Q : VK} {r : R D} (h : PostE K g W σ ρ H Q r) : PostE K g (fun c d _ H' => W c d σ H') [] ρ H Q r := by
  cases r <;> exact h
section
variable {X : Cx} {g : Gm} {W : WX} {a b c e : Expr} {es : List Expr} {fa fb fc : Sl → Mu → R D} {fr : Sl → Mu → R (List D)} {pos p : Pos}
theorem r_call {P : List Fn} {j k f : Nat} {l : Addr} {fd : FuncData} {ps : List Str} {x : Str} (F : FnG X.prog X.w X.K X.mg X.base j l fd ps (spM X.K P g k f)) (room : Room j X.A) (gd : X.A.guards = some []) (hg : Gl X x) (hm : X.mg x = some (.ref l))
    (hk : PySem.W.keepIn X.K (.ref l) = true) (hb : Binds X.K fd ps []) (tk : Takes X W) (ha : PA X (e :: es) (tA X.K g W fr)) (hst : (e :: es).all notStar = true) (hdb : (x == ("__debug__" : Str)) = false) :
    PE X (.Call (.Name x p) (e :: es) [] pos) (tE X.K g W fun s m => (fr s m).bind fun ds m => callF P k f ds m) := by
  refine ⟨fun pins s σ H Q I h => ?_⟩
  obtain ⟨ρ, m, sl, R, E, Po⟩ := h
  refine wpAny_Call_Name_kw (ld_glob I hg hm ?_ hdb)
  have hA := ha.run pos pins s σ H _ I ⟨ρ, m, sl, R, E, PostE.firstA Po E⟩
  rw [List.all_cons, Bool.and_eq_true] at hst
  refine PySem.W.callWith_K (h₀ := X.base) I.ok.mod.kin hk (thn hA fun us s1 ⟨vs, H1, I1, r, ρ1, m1, ds, G1, R1, E1, V1, P1⟩ => ⟨I1.kIn, ?_⟩) (star_cons hst.1) (star_any hst.2)
  exact FnG.call F room gd hb tk I1 r ⟨ρ1, m1, ds, R1, V1, P1.re⟩
theorem r_call0 {P : List Fn} {j k f : Nat} {l : Addr} {fd : FuncData} {ps : List Str} {x : Str} (F : FnG X.prog X.w X.K X.mg X.base j l fd ps (spM X.K P g k f)) (room : Room j X.A) (gd : X.A.guards = some []) (hg : Gl X x) (hm : X.mg x = some (.ref l))
    (hk : PySem.W.keepIn X.K (.ref l) = true) (hb : Binds X.K fd ps []) (tk : Takes X W) (hdb : (x == ("__debug__" : Str)) = false) :
    PE X (.Call (.Name x p) [] [] pos) (tE X.K g W fun s m => (R.ok [] m : R (List D)).bind fun ds m => callF P k f ds m) := by
  refine ⟨fun pins s σ H Q I h => ?_⟩
  obtain ⟨ρ, m, sl, R, E, Po⟩ := h
  refine wpAny_Call_Name_kw (ld_glob I hg hm ?_ hdb)
  exact PySem.W.callWith_K0 I.kIn hk (FnG.call (us := []) F room gd hb tk I .nil ⟨ρ, m, [], R, .nil, PostE.re Po⟩)
def biN : Bi → Str
  | .len => "len" | .tuple => "tuple" | .list => "list" | .all => "all" | .any => "any" | .sum => "sum"
  | .max => "max" | .min => "min" | .max2 => "max" | .min2 => "min" | .min3 => "min" | .int => "int" | .repr => "repr" | .sorted => "sorted" | .ord => "ord" | .str => "str" | .abs => "abs"
def biHas : Bi → Bool
  | .str => false
  | .abs => false
  | _ => true
theorem r_bi {bi : Bi} {k : Nat} (hh : biHas bi = true) (hc : X.calm = true) (gd : X.A.guards = some []) (room : Room k X.A) (hg : Gl X (biN bi)) (hm : X.mg (biN bi) = none) (ha : PA X (e :: es) (tA X.K g W fr)) (hst : (e :: es).all notStar = true) :
    PE X (.Call (.Name (biN bi) p) (e :: es) [] pos) (tE X.K g W fun s m => (fr s m).bind fun ds m => opt m (biF m bi ds)) := by
  rw [List.all_cons, Bool.and_eq_true] at hst
  have h1 := star_cons (r := es) (env := X.env) hst.1
  have h2 := star_any (pos := pos) (env := X.env) hst.2
  cases bi with
  | len => exact r_opA (F := fun m => biF m .len) (pe_callB bi_len hg hm (by rfl) ha (by decide) (by decide) h1 h2)
  | tuple => exact r_opA (F := fun m => biF m .tuple) (pe_callTy bi_tuple hg hm (by rfl) ha (by decide) (by decide) h1 h2)
  | list => exact r_opA (F := fun m => biF m .list) (pe_callTy bi_list hg hm (by rfl) ha (by decide) (by decide) h1 h2)
  | all => exact r_opA (F := fun m => biF m .all) (pe_callB (bi_all hc) hg hm (by rfl) ha (by decide) (by decide) h1 h2)
  | any => exact r_opA (F := fun m => biF m .any) (pe_callB (bi_any hc) hg hm (by rfl) ha (by decide) (by decide) h1 h2)
  | sum => exact r_opA (F := fun m => biF m .sum) (pe_callB (bi_sum hc) hg hm (by rfl) ha (by decide) (by decide) h1 h2)
  | max => exact r_opA (F := fun m => biF m .max) (pe_callB (bi_max hc) hg hm (by rfl) ha (by decide) (by decide) h1 h2)
  | min => exact r_opA (F := fun m => biF m .min) (pe_callB (bi_min hc) hg hm (by rfl) ha (by decide) (by decide) h1 h2)
  | max2 => exact r_opA (F := fun m => biF m .max2) (pe_callB (bi_max2 hc) hg hm (by rfl) ha (by decide) (by decide) h1 h2)
  | min2 => exact r_opA (F := fun m => biF m .min2) (pe_callB (bi_min2 hc) hg hm (by rfl) ha (by decide) (by decide) h1 h2)
  | min3 => exact r_opA (F := fun m => biF m .min3) (pe_callB (bi_min3 hc) hg hm (by rfl) ha (by decide) (by decide) h1 h2)
  | int => exact r_opA (F := fun m => biF m .int) (pe_callTy bi_int hg hm (by rfl) ha (by decide) (by decide) h1 h2)
  | repr => exact r_opA (F := fun m => biF m .repr) (pe_callB (bi_repr gd room.units) hg hm (by rfl) ha (by decide) (by decide) h1 h2)
  | sorted => exact r_opA (F := fun m => biF m .sorted) (pe_callB (bi_sorted room.units) hg hm (by rfl) ha (by decide) (by decide) h1 h2)
  | ord => exact r_opA (F := fun m => biF m .ord) (pe_callB bi_ord hg hm (by rfl) ha (by decide) (by decide) h1 h2)
  | str => cases hh
  | abs => cases hh
theorem r_biInt (hg : Gl X (biN .int)) (hm : X.mg (biN .int) = none) (ha : PA X (e :: es) (tA X.K g W fr)) (hst : (e :: es).all notStar = true) :
    PE X (.Call (.Name (biN .int) p) (e :: es) [] pos) (tE X.K g W fun s m => (fr s m).bind fun ds m => opt m (biF m .int ds)) := by
  rw [List.all_cons, Bool.and_eq_true] at hst
  exact r_opA (F := fun m => biF m .int) (pe_callTy bi_int hg hm (by rfl) ha (by decide) (by decide) (star_cons (r := es) (env := X.env) hst.1) (star_any (pos := pos) (env := X.env) hst.2))
theorem r_biRepr (gd : X.A.guards = some []) (hu : X.A.units + 64 < cLine) (hg : Gl X (biN .repr)) (hm : X.mg (biN .repr) = none) (ha : PA X (e :: es) (tA X.K g W fr)) (hst : (e :: es).all notStar = true) :
    PE X (.Call (.Name (biN .repr) p) (e :: es) [] pos) (tE X.K g W fun s m => (fr s m).bind fun ds m => opt m (biF m .repr ds)) := by
  rw [List.all_cons, Bool.and_eq_true] at hst
  exact r_opA (F := fun m => biF m .repr) (pe_callB (bi_repr gd hu) hg hm (by rfl) ha (by decide) (by decide) (star_cons (r := es) (env := X.env) hst.1) (star_any (pos := pos) (env := X.env) hst.2))
def PostM (K : PySem.W.Frag) (g : Gm) (ρ : Rh) (H : Hp) (Q : VK) : Option (D × Mu) → Prop
  | some (d, m) => ∀ ρ' H' v, Grow ρ H ρ' H' → Rel K g ρ' m H' → RV K g ρ' H' d v → Q v H'
  | none => False
theorem PostE.mt {K : PySem.W.Frag} {σ : L2.St} {ρ : Rh} {H : Hp} {Q : VK} {r : Option (D × Mu)} (h : PostE K g W σ ρ H Q (match r with
      | some (y, m) => .ok y m
      | none => .bad)) : PostM K g ρ H Q r := by
  rcases r with _ | ⟨d, m⟩
  · exact h
  · exact h
theorem PostM.some {K : PySem.W.Frag} {ρ : Rh} {H : Hp} {Q : VK} {r : Option (D × Mu)} (h : PostM K g ρ H Q r) : ∃ d m, r = Option.some (d, m) := by
  rcases r with _ | ⟨d, m⟩
  · exact h.elim
  · exact ⟨d, m, rfl⟩
theorem few_ok {cpos : Pos} {env : Env} (hst : (e :: es).all notStar = true) (hn : (e :: es).length < 29) : ((backTo cpos (starEach (e :: es) env)).all (fun x => !x.1) && (backToKw cpos (keywordEach [] env)).all (fun x => x.1.isSome)
      && decide ((e :: es).length + ([] : List Keyword).length + (if ([] : List Keyword).isEmpty then 0 else 1) < 30)) = true := by
  rw [star_all hst, Bool.true_and, Bool.and_eq_true]
  exact ⟨rfl, decide_eq_true (by simp at hn ⊢; omega)⟩
def tys : List String := ["bool", "int", "str", "tuple", "list", "dict"]
theorem boot_ty : ∀ t ∈ tys, bootBuiltins (t : Str) = some (.type t) ∧ ((t : Str) ≠ "__name__") ∧ ((t : Str) == ("__debug__" : Str)) = false := by
  intro t ht
  simp only [tys, List.mem_cons, List.mem_nil_iff, or_false] at ht
  rcases ht with rfl | rfl | rfl | rfl | rfl | rfl <;> exact ⟨rfl, by decide, by decide⟩
theorem r_isi {t : String} {p2 : Pos} (ht : t ∈ tys) (hg : Gl X "isinstance") (hm : X.mg "isinstance" = none) (hg2 : Gl X (t : Str)) (hm2 : X.mg (t : Str) = none) (ha : PE X a (tE X.K g W fa)) (hst : notStar a = true) :
    PE X (.Call (.Name "isinstance" p) [a, .Name (t : Str) p2] [] pos) (tE X.K g W fun s m => (fa s m).bind fun x m => opt m ((tyD m x).map fun u => .bl (isiT u [t]))) := by
  obtain ⟨b1, b2, b3⟩ := boot_ty t ht
  have hT : PE X (.Name (t : Str) p2) (tC (.ty t)) := pe_bltn hg2 hm2 b1 rfl b2 b3
  refine PE.imp (pe_callB (bi_isi1 (g := g) ht) hg hm (by rfl) (pa_cons ha (pa_cons hT pa_nil (star_cons rfl)) (star_cons hst)) (by decide) (by decide) (star_cons hst) (star_any rfl)) fun σ H Q h => ?_
  obtain ⟨ρ, m, s, R, E, P⟩ := h
  refine ⟨ρ, m, s, R, E, (PostE.first P E).mono ?_⟩
  rintro v H1 ⟨ρ1, m1, d1, G1, R1, E1, V1, P1⟩
  exact ⟨ρ1, m1, d1, v, rfl, R1, V1, PostE.opt P1⟩
inductive TyNames (X : Cx) : List String → List Expr → Prop
  | nil : TyNames X [] []
  | cons {t : String} {ts : List String} {es : List Expr} {p : Pos} : t ∈ tys → Gl X (t : Str) → X.mg (t : Str) = none → TyNames X ts es → TyNames X (t :: ts) (.Name (t : Str) p :: es)
theorem TyNames.pa : ∀ {ts : List String} {es : List Expr}, TyNames X ts es → PA X es (fun _ H Q => Q (ts.map V.ty) H)
  | _, _, .nil => PA.imp pa_nil fun σ H Q h => h
  | _, _, .cons (t := t) (p := p) ht hg hm r => by
    obtain ⟨b1, b2, b3⟩ := boot_ty t ht
    have hT : PE X (.Name (t : Str) p) (tC (.ty t)) := pe_bltn hg hm b1 rfl b2 b3
    exact PA.imp (pa_cons hT r.pa (star_cons rfl)) fun σ H Q h => h
theorem TyNames.tys : ∀ {ts : List String} {es : List Expr}, TyNames X ts es → ∀ t ∈ ts, t ∈ Ev.tys
  | _, _, .nil, t, h => by simp at h
  | _, _, .cons ht _ _ r, t, h => by
    rcases List.mem_cons.mp h with rfl | h
    · exact ht
    · exact r.tys t h
theorem cls_all : ∀ ts : List String, Paired ClsV (ts.map V.ty) (ts.map Value.type)
  | [] => .nil
  | t :: r => .cons (.ty t) (cls_all r)
theorem r_isiTp {ts : List String} {ns : List Expr} {kk : Nat} {p2 : Pos} (hn : TyNames X ts ns) (hl : ts.length ≤ 100) (hg : Gl X "isinstance") (hm : X.mg "isinstance" = none) (ha : PE X a (tE X.K g W fa)) (hst : notStar a = true) :
    PE X (.Call (.Name "isinstance" p) [a, .Tuple ns kk p2] [] pos) (tE X.K g W fun s m => (fa s m).bind fun x m => opt m ((tyD m x).map fun u => .bl (isiT u ts))) := by
  refine PE.imp (pe_callB call_isiT hg hm (by rfl) (pa_cons ha (pa_cons (pe_tup hn.pa) pa_nil (star_cons rfl)) (star_cons hst)) (by decide) (by decide) (star_cons hst) (star_any rfl)) fun σ H Q h => ?_
  obtain ⟨ρ, m, s, R, E, P⟩ := h
  refine ⟨ρ, m, s, R, E, (PostE.first P E).mono ?_⟩
  rintro v H1 ⟨ρ1, m1, d1, G1, R1, E1, V1, P1⟩
  have P1 := PostE.opt P1
  cases e : tyD m1 d1 with
  | none => rw [e] at P1; exact P1.elim
  | some u =>
    rw [e] at P1
    refine ⟨by rw [List.length_map]; exact Nat.le_trans hl (by decide), fun q hq => ?_⟩
    have G2 : Grow ρ1 H1 ρ1 (upd H1 q (.tup (ts.map V.ty))) := Grow.new hq
    refine ⟨v, q, ts.map V.ty, .type u, ts.map Value.type, isiT u ts, rfl, upd_same, cls_all ts, (V1.grow G2).tyx (R1.new hq) e, kits fun t ht => kit_all u (tyD_in e) t (hn.tys t ht), P1 ρ1 _ _ G2 (R1.new hq) (.bl _)⟩
end
end Ev
namespace Ev
open PySem PySem.Spec PyProof.Rows L2
structure FnL (P : Program) (w : World) (K : PySem.W.Frag) (mg : Str → Option Value) (base : Heap) (k : Nat) (f c : Addr) (params : Arguments) (body : Expr) (scope : Scope) (q : Str) (n : Nat) (sp : Sp) : Prop where
  len : ∀ vs H Q E, sp vs H Q E → vs.length = n
  run : ∀ (A : Around) (outer : List Env) (s : Shared) (H : Hp) (us : List Value) (vs : List V) (Q : VK) (E : XK), Room k A → A.guards = some [] → Env0 P w K mg base A outer s H → Vals vs us →
    H f = some (LamO f c params body scope q) → H c = some (LamX.CodeO c q) → sp vs H Q E → codeAny (model P w) A (.call (.ref f) ⟨us, []⟩) (CR (CX P w mg) outer P w H s Q E) s
def LamBinds (params : Arguments) (body : Expr) (scope : Scope) (q : Str) (ps : List Str) : Prop :=
  ∀ (pm cv ctv : Value) (us : List Value), us.length = ps.length → bindArgs (PySem.W.kla_fn "<lambda>" q params body scope [] pm cv ctv) ⟨us, []⟩ = pure (ps.zip us)
theorem FnL.of_body {P : Program} {w : World} {K : PySem.W.Frag} {mg : Str → Option Value} {base : Heap} {k : Nat} {f c : Addr} {params : Arguments} {body : Expr} {scope : Scope} {q : Str} {N ps : List Str} {sp : Sp}
    (S : FnScope N ps scope) (hb : LamBinds params body scope q ps) (len : ∀ vs H Q E, sp vs H Q E → vs.length = ps.length)
    (hbody : ∀ (A : Around) (outer : List Env) (s : Shared) (H : Hp) (vs : List V) (Q : VK) (E : XK), Room k (A.deeper (envOfC q scope s.heap.objs.size f (.ref c))) → A.guards = some [] → sp vs H Q E →
      ∃ t, PE (cxOf (CX P w mg) P w K mg base N q scope f (.ref c) A outer s H E) body t ∧ t (start N vs) H Q) :
    FnL P w K mg base (k + 1) f c params body scope q ps.length sp := by
  constructor
  · exact len
  intro A outer s H us vs Q E room gd e0 vals hf hc hsp
  obtain ⟨pm, ctv, of1⟩ := (e0.hok f _ hf).1
  obtain ⟨oc, ws, t, hoc, hdc, hvc⟩ := (e0.hok c _ hc).1
  have up : ∀ b o, base.get? b = some o → s.heap.get? b = some o := fun b o e => (e0.bs b o e).1
  have hl := len _ _ _ _ hsp
  have bound : ∀ y ∈ ps.zip us, scope.names.lookup y.1 = some .local ∨
      (scope.names.lookup y.1 = some .cell ∧ ((cellsFrom (s.heap.objs.size + 1) scope.names []).lookup y.1).isSome = true) := by
    rintro ⟨n, v⟩ hy
    rcases S.par n (List.of_mem_zip hy).1 with q | q
    · exact .inl q
    · exact .inr ⟨q, PySem.W.cellsFrom_some _ _ _ (.inl q)⟩
  refine PySem.W.kla_callFunE room.depth of1 rfl S.co S.gen rfl ⟨c, oc, ws, t, rfl, hoc, hdc, hvc⟩ ?_
  rw [hb pm (.ref c) ctv us (by rw [← vals.length, hl])]
  refine wpAny_pure (wpAny_newFunctionEnv_cells S.kind bound ?_)
  intro env henv s1 ic
  subst henv
  refine ⟨(e0.mod.nolimit.keeps up).keeps ic.toInCall.keep, ?_⟩
  obtain ⟨t, der, read⟩ := hbody A outer s H vs Q E (room.deeper _) gd hsp
  have inv := inv_start (CX := CX P w mg) (E := E) S room.hd e0 hl vals ic
  refine PySem.W.kla_codeExpr (wpAny_mono (der.run [] s1 (start N vs) H Q inv read) (fun v s' hq => ?_) fun e s' hq => hq)
  obtain ⟨w', H', J', rv, q⟩ := hq
  exact ⟨w', H', J'.os, J'.bare, J'.base, J'.hok, rv, q⟩
theorem FnL.call {X : Cx} {W : WX} {k n : Nat} {f c : Addr} {params : Arguments} {body : Expr} {scope : Scope} {q : Str} {sp : Sp} {pins : List (Addr × Obj)} {σ : L2.St} {H : Hp} {s : Shared} {Q : VK} {us : List Value} {vs : List V}
    (F : FnL X.prog X.w X.K X.mg X.base k f c params body scope q n sp) (room : Room k X.A) (gd : X.A.guards = some []) (tk : Takes X W) (I : Inv X pins σ H s) (r : Vals vs us)
    (hf : H f = some (LamO f c params body scope q)) (hc : H c = some (LamX.CodeO c q)) (h : sp vs H Q fun c d H' => W c d σ H') : wpAny (model X.prog X.w) X.A (call (.ref f) us) (EP X pins σ Q) X.xe s := by
  refine wpAny_call (codeAny_mono (F.run X.A X.stack s H us vs Q _ room gd I.env0 r hf hc h) ?_)
  intro res s' hq
  cases res with
  | error e => exact tk e s' (XE.of_call I (fun _ _ _ z => z) hq)
  | ok fl =>
    cases fl with
    | ret u => exact I.after hq
    | next => exact hq.elim
    | brk => exact hq.elim
    | cont => exact hq.elim
def LamsOk (X : Cx) (P : List Fn) (g : Gm) (j k : Nat) : Prop := ∀ i params body scope q, g.lo i params body scope q → ∃ n, ∀ f c, FnL X.prog X.w X.K X.mg X.base j f c params body scope q n (spM X.K P g k i)
def LmAt (X : Cx) (g : Gm) : Prop := ∃ c P, X.env.code = .ref c ∧ LamX.TabB X.base X.mg c P ∧ (P, X.env.qual ++ "<lambda>") ∈ g.tb ∧ ∀ p ∈ g.tb, p.1 = P → p.2 = X.env.qual ++ "<lambda>"
theorem lamBinds1 {a : Arg} {body : Expr} {scope : Scope} {q : Str} : LamBinds ⟨[], [a], none, [], [], none, []⟩ body scope q [a.arg] := by
  intro pm cv ctv us hl
  match us, hl with
  | [u], _ =>
    simp [bindArgs, seqItems?, List.lookup]
    try rfl
theorem lamBinds2 {a b : Arg} {body : Expr} {scope : Scope} {q : Str} (h : a.arg ≠ b.arg) : LamBinds ⟨[], [a, b], none, [], [], none, []⟩ body scope q [a.arg, b.arg] := by
  intro pm cv ctv us hl
  match us, hl with
  | [u, v], _ =>
    have e1 : (a.arg == b.arg) = false := by simpa using h
    have e2 : (b.arg == a.arg) = false := by simpa using Ne.symm h
    simp [bindArgs, seqItems?, List.lookup, e1, e2]
    try rfl
theorem lamBinds3 {a b c : Arg} {body : Expr} {scope : Scope} {q : Str} (h : a.arg ≠ b.arg) (h2 : a.arg ≠ c.arg) (h3 : b.arg ≠ c.arg) : LamBinds ⟨[], [a, b, c], none, [], [], none, []⟩ body scope q [a.arg, b.arg, c.arg] := by
  intro pm cv ctv us hl
  match us, hl with
  | [u, v, w], _ =>
    have e1 : (a.arg == b.arg) = false := by simpa using h
    have e2 : (b.arg == a.arg) = false := by simpa using Ne.symm h
    have e3 : (a.arg == c.arg) = false := by simpa using h2
    have e4 : (c.arg == a.arg) = false := by simpa using Ne.symm h2
    have e5 : (b.arg == c.arg) = false := by simpa using h3
    have e6 : (c.arg == b.arg) = false := by simpa using Ne.symm h3
    simp [bindArgs, seqItems?, List.lookup, e1, e2, e3, e4, e5, e6]
    try rfl
def KeyG (X : Cx) (j : Nat) (l : Addr) (H : Hp) (sp : Sp) : Prop := ∀ (A : Around) (outer : List Env) (s : Shared) (H' : Hp) (v : Value) (x : V) (Q : VK) (E : XK), Room j A → A.guards = some [] → Env0 X.prog X.w X.K X.mg X.base A outer s H' → RelV x v →
  KeepN H H' → sp [x] H' Q E → codeAny (model X.prog X.w) A (.call (.ref l) ⟨[v], []⟩) (CR (CX X.prog X.w X.mg) outer X.prog X.w H' s Q E) s
theorem KeyG.fn {X : Cx} {j : Nat} {l : Addr} {fd : FuncData} {ps : List Str} {sp : Sp} {H : Hp} (F : FnG X.prog X.w X.K X.mg X.base j l fd ps sp) (hb : Binds X.K fd ps []) : KeyG X j l H sp := fun A outer s H' v x Q E room gd e0 r _ h => by
  have bt := hb s [v] (e0.mod.kin.keeps fun b o e => (e0.bs b o e).1) (by rw [List.append_nil]; exact F.len _ _ _ _ h)
  rw [List.append_nil] at bt
  exact F.run A outer s H' ⟨[v], []⟩ [v] [x] Q E room gd e0 bt (.cons r .nil) h
theorem KeyG.lam {X : Cx} {j n : Nat} {f c : Addr} {params : Arguments} {body : Expr} {scope : Scope} {q : Str} {sp : Sp} {H : Hp} (F : FnL X.prog X.w X.K X.mg X.base j f c params body scope q n sp) (hf : H f = some (LamO f c params body scope q)) (hc : H c = some (LamX.CodeO c q)) : KeyG X j f H sp :=
  fun A outer s H' v x Q E room gd e0 r k h => F.run A outer s H' [v] [x] Q E room gd e0 (.cons r .nil) (k.get hf) (k.get hc) h
end Ev
namespace Ev
open PySem PySem.Spec PyProof.Rows L2
section
variable {X : Cx} {C : Addr} {bm : List Value} {B nid iid : String}
theorem pmk_own0 {x : Str} {p pos : Pos} (F : ExcBaseFacts B nid iid bm) (q : PySem.W.excIn X.K C bm nid = true) (gC : X.mg x = some (.ref C)) (kC : PySem.W.keepIn X.K (.ref C) = true) (r : Raises X (.ref C)) (hg : Gl X x)
    (hdb : (x == ("__debug__" : Str)) = false) : L2N.PMk X (.Call (.Name x p) [] [] pos) (fun _ H Q => Q (.ref C) none H) := by
  intro pins s σ H Q I h
  refine wpAny_Call_Name_kw (ld_glob I hg gC (PySem.W.callWith_K0 I.kIn kC ?_) hdb)
  obtain ⟨bm', N, nm, qn, bs, hdct, sn, sub, ab, col, dd, k0, k1, k2, k3, k5, mN, hC, hN, hni, T⟩ := exc_obj I.kIn q
  show wpAny _ _ (call (.ref C) []) _ _ _
  refine wpAny_call_exc_subT F T hC hN hni (fun h' e hm => ?_) (by show 0 ≤ sizeLine; omega)
  exact L2N.mk_of I hm r h (I.hok.gone hm.new)
theorem r_rz0 {g : Gm} {W : WX} {x : Str} {p p2 pos : Pos} {c : Nat} (hc : X.calm = true) (tk : Takes X W) (hca : g.ca c = some C) (F : ExcBaseFacts B nid iid bm) (q : PySem.W.excIn X.K C bm nid = true) (gC : X.mg x = some (.ref C))
    (kC : PySem.W.keepIn X.K (.ref C) = true) (r : Raises X (.ref C)) (hg : Gl X x) (hdb : (x == ("__debug__" : Str)) = false) : PS X (.Raise (some (.Call (.Name x p) [] [] p2)) none pos) (tS X.K g W fun s m => .exc c [] s m) := by
  refine PS.imp (ps_raise hc tk (pmk_own0 F q gC kC r hg hdb)) fun D σ H h => ?_
  obtain ⟨ρ, m, s, R, E, P⟩ := h
  exact P ρ H σ (.ref C) none .refl R E ⟨C, hca, rfl, .inl ⟨rfl, rfl⟩⟩
end
end Ev
namespace Ev
open PySem PySem.Spec PyProof.Rows L2
def endsO (i : Option Nat) (D : Ends) : Ends := match i with
  | some i => { nx := fun σ' H' => D.nx (σ'.set i none) H', rt := D.rt, bk := fun σ' H' => D.bk (σ'.set i none) H', ct := fun σ' H' => D.ct (σ'.set i none) H' }
  | none => D
def setO (i : Option Nat) (a : Addr) (σ : L2.St) : L2.St := match i with
  | some i => σ.set i (some (.ref a))
  | none => σ
def wTrM (K : PySem.W.Frag) (Wout : WX) (D : Ends) : List (Value × Option Nat × TS) → WX
  | [] => Wout
  | (c, i, ts) :: r => fun cls d σ H => ∃ b, PySem.W.exmOne K cls c = some b ∧ (b = true → ∀ a, H a = none → ts (endsO i D) (setO i a σ) (upd H a (XO cls d a))) ∧ (b = false → wTrM K Wout D r cls d σ H)
inductive HdsX (X : Cx) : List ExceptHandler → List (Value × Option Nat × TS) → Prop
  | nil : HdsX X [] []
  | named {x n : Str} {c : Value} {i : Nat} {ts : TS} {st : Stmt} {suite : List Stmt} {np p2 : Pos} {hds : List ExceptHandler} {l : List (Value × Option Nat × TS)} (hc : Names X x c) (hi : X.N[i]? = some n) (hln : X.env.kindOf n = some .local)
      (hsu : ∀ (a : Addr) (pn : List (Addr × Obj)), PSs (X.suite a pn) (st :: suite) ts) (r : HdsX X hds l) : HdsX X (.ExceptHandler (some (.Name x np)) (some n) (st :: suite) p2 :: hds) ((c, some i, ts) :: l)
  | bare {x : Str} {c : Value} {ts : TS} {st : Stmt} {suite : List Stmt} {np p2 : Pos} {hds : List ExceptHandler} {l : List (Value × Option Nat × TS)} (hc : Names X x c)
      (hsu : ∀ (a : Addr) (pn : List (Addr × Obj)), PSs (X.suite a pn) (st :: suite) ts) (r : HdsX X hds l) : HdsX X (.ExceptHandler (some (.Name x np)) none (st :: suite) p2 :: hds) ((c, none, ts) :: l)
section
variable {X : Cx} {body : List Stmt} {h₀ : ExceptHandler} {hds : List ExceptHandler} {l : List (Value × Option Nat × TS)} {pos : Pos} {tb : WX → TS} {Wout : WX}
end
end Ev
namespace Ev
open PySem PySem.Spec PyProof.Rows L2
theorem REnv.unset {K : PySem.W.Frag} {g : Gm} {ρ : Rh} {H : Hp} {s : Sl} {σ : L2.St} (h : REnv K g ρ H s σ) (i : Nat) : REnv K g ρ H (s.set i none) (σ.set i none) := by
  refine ⟨by simp [h.len], fun j d e => ?_⟩
  by_cases hj : i = j
  · subst hj
    by_cases hl : i < s.length
    · rw [List.getElem?_set_self hl] at e; cases e
    · rw [List.getElem?_eq_none (by simpa using hl)] at e; cases e
  · rw [List.getElem?_set_ne hj] at e
    obtain ⟨v, e1, r⟩ := h.at_ j d e
    exact ⟨v, by rw [List.getElem?_set_ne hj]; exact e1, r⟩
theorem RX.xo {K : PySem.W.Frag} {g : Gm} {ρ : Rh} {H : Hp} {c : Nat} {fs : List D} {cv : Value} {dd : Option Addr} {a : Addr} (h : RX K g ρ H c fs cv dd) (na : H a = none) (ho : ρ.out a) : RV K g ρ (upd H a (XO cv dd a)) (.xo c fs) (.ref a) := by
  obtain ⟨C, hc, rfl, ⟨rfl, rfl⟩ | ⟨b, vs, hf, rfl, hb, hob, hl, r⟩⟩ := h
  · exact .xo0 upd_same ho hc
  · exact .xo1 upd_same ho hc (by rw [upd_ne (ne_of_none hb na)]; exact hb) hob hl hf (r.grow (Grow.new na))
inductive HdsD (X : Cx) (g : Gm) : List ExceptHandler → (Nat → List D → Sl → Mu → RS) → Prop
  | nil : HdsD X g [] (fun c fs s m => .exc c fs s m)
  | cons {x : Str} {cv : Value} {n : Option Str} {i : Option Nat} {cs : List Nat} {f : Sl → Mu → RS} {st : Stmt} {suite : List Stmt} {np p2 : Pos} {hds : List ExceptHandler} {fr : Nat → List D → Sl → Mu → RS} (hc : Names X x cv)
      (hk : ∀ c C, g.ca c = some C → PySem.W.exmOne X.K (.ref C) cv = some (cs.contains c)) (hn : (n = none ∧ i = none) ∨ ∃ n' i', n = some n' ∧ i = some i' ∧ X.N[i']? = some n' ∧ X.env.kindOf n' = some .local)
      (hsu : ∀ (a : Addr) (pn : List (Addr × Obj)), PSs (X.suite a pn) (st :: suite) (tS X.K g F0 f)) (r : HdsD X g hds fr) :
      HdsD X g (.ExceptHandler (some (.Name x np)) n (st :: suite) p2 :: hds) (fun c fs s m => if cs.contains c then endTr i (f (putI i (.xo c fs) s) m) else fr c fs s m)
section
variable {X : Cx} {g : Gm} {W : WX} {body : List Stmt} {h₀ : ExceptHandler} {hds : List ExceptHandler} {pos : Pos} {fb : Sl → Mu → RS} {fh : Nat → List D → Sl → Mu → RS}
theorem HdsD.ok {hds : List ExceptHandler} {fh : Nat → List D → Sl → Mu → RS} (h : HdsD X g hds fh) : ∃ l, HdsX X hds l ∧ ∀ (Ed : Ends) (ρ1 : Rh) (H1 : Hp) (σ1 : L2.St) (cv : Value) (dd : Option Addr) (c : Nat) (fs : List D) (s1 : Sl) (m1 : Mu), Rel X.K g ρ1 m1 H1 → REnv X.K g ρ1 H1 s1 σ1 → RX X.K g ρ1 H1 c fs cv dd →
    PostS X.K g W ρ1 H1 Ed (fh c fs s1 m1) → wTrM X.K W Ed l cv dd σ1 H1 := by
  induction h with
  | nil => exact ⟨[], .nil, fun Ed ρ1 H1 σ1 cv dd c fs s1 m1 R1 E1 X1 P => P ρ1 H1 σ1 cv dd .refl R1 E1 X1⟩
  | @cons x cx n i cs f st suite np p2 hds fr hc hk hn hsu r ih =>
    obtain ⟨l, hl, ih⟩ := ih
    refine ⟨(cx, i, tS X.K g F0 f) :: l, ?_, ?_⟩
    · rcases hn with ⟨rfl, rfl⟩ | ⟨n', i', rfl, rfl, h1, h2⟩
      · exact .bare hc hsu hl
      · exact .named hc h1 h2 hsu hl
    · intro Ed ρ1 H1 σ1 cv dd c fs s1 m1 R1 E1 X1 P
      dsimp only at P
      obtain ⟨C, hca, ecv, _⟩ := id X1
      refine ⟨cs.contains c, by rw [ecv]; exact hk c C hca, fun hb a na => ?_, fun hb => ?_⟩
      · rw [if_pos hb] at P
        have G2 : Grow ρ1 H1 ρ1 (upd H1 a (XO cv dd a)) := Grow.new na
        refine ⟨ρ1, m1, putI i (.xo c fs) s1, R1.new na, ?_, ?_⟩
        · cases i with
          | none => exact E1.grow G2
          | some i => exact (E1.grow G2).set (X1.xo na (R1.out na)) i
        have P2 := PostS.grow G2 P
        revert P2
        cases f (putI i (.xo c fs) s1) m1 with
        | nx s2 m2 =>
          cases i with
          | none => intro P2; exact P2
          | some i => intro P2 ρ3 H3 σ3 G3 R3 E3; exact P2 ρ3 H3 _ G3 R3 (E3.unset i)
        | bk s2 m2 =>
          cases i with
          | none => intro P2; exact P2
          | some i => intro P2 ρ3 H3 σ3 G3 R3 E3; exact P2 ρ3 H3 _ G3 R3 (E3.unset i)
        | ct s2 m2 =>
          cases i with
          | none => intro P2; exact P2
          | some i => intro P2 ρ3 H3 σ3 G3 R3 E3; exact P2 ρ3 H3 _ G3 R3 (E3.unset i)
        | rt d m2 =>
          cases i with
          | none => intro P2; exact P2
          | some i => intro P2 ρ3 H3 v G3 R3 V3; exact P2 ρ3 H3 v G3 R3 V3
        | exc c' fs' s2 m2 => intro P2; exact P2.elim
        | bad => intro P2; exact P2.elim
      · rw [if_neg (by rw [hb]; decide)] at P
        exact ih Ed ρ1 H1 σ1 cv dd c fs s1 m1 R1 E1 X1 P
end
end Ev
namespace Ev
open PySem PySem.Spec PyProof.Rows L2
section
open PySem.W PySem.Calls
variable {pg : Program} {wd : World} {AA : Around} {EE : Value → Shared → Prop} {s0 : Shared} {K : PySem.W.Frag} {y C : Addr} {oy : Obj} {oq : Option Obj}
end
section
variable {X : Cx} {g : Gm} {W : WX} {cs : List Nat}
end
end Ev
namespace Ev
open PySem PySem.Spec PyProof.Rows L2
def CtV (K : PySem.W.Frag) (mg : Str → Option Value) (g : Gm) (x : Str) (cs : List Nat) : Prop :=
  ∃ cv cw, (mg x = some cv ∨ (mg x = none ∧ bootBuiltins x = some cv ∧ x ≠ "__name__")) ∧ ClsV cw cv ∧ RelV cw cv ∧
    (∀ c C, g.ca c = some C → PySem.W.exmOne K (.ref C) cv = some (cs.contains c) ∧ PySem.W.kitOne K (.ref C) cv = some (cs.contains c)) ∧ ∀ t ∈ tyNames, PySem.W.kitOne K (.type t) cv = some false
def spIni (C : Addr) (flds : List Str) : Sp := fun xs H Q _ => ∃ a vs, xs = .ref a :: vs ∧ vs.length = flds.length ∧ H a = some (exo a C none) ∧
  ∀ dx, H dx = none → dx ≠ a → Q .non (upd (upd H dx (exd dx (flds.reverse.zip vs.reverse))) a (exo a C (some dx)))
section
variable {X : Cx} {g : Gm} {W : WX} {a e : Expr} {es : List Expr} {fa : Sl → Mu → R D} {fr : Sl → Mu → R (List D)} {pos p : Pos}
theorem r_badE : PE X a (tE X.K g W fun _ _ => .bad) := ⟨fun pins s σ H Q I ⟨_, _, _, _, _, z⟩ => z.elim⟩
theorem r_badT : PT X a (tT X.K g W fun _ _ => .bad) := ⟨fun pins s σ H Q I ⟨_, _, _, _, _, z⟩ => z.elim⟩
theorem r_badS {st : Stmt} : PS X st (tS X.K g W fun _ _ => .bad) := ⟨fun pins s σ H Q I ⟨_, _, _, _, _, z⟩ => z.elim⟩
inductive CtNames (X : Cx) (g : Gm) : List Str → List (List Nat) → List Expr → Prop
  | nil : CtNames X g [] [] []
  | cons {x : Str} {cs : List Nat} {xs : List Str} {css : List (List Nat)} {es : List Expr} {p : Pos} : CtV X.K X.mg g x cs → Gl X x → (x == ("__debug__" : Str)) = false → CtNames X g xs css es → CtNames X g (x :: xs) (cs :: css) (.Name x p :: es)
theorem CtNames.all : ∀ {xs : List Str} {css : List (List Nat)} {es : List Expr}, CtNames X g xs css es → ∃ (cws : List V) (cvs : List Value), PA X es (fun _ H Q => Q cws H) ∧ Paired ClsV cws cvs ∧ cws.length = xs.length ∧
    (∀ c C, g.ca c = some C → PySem.W.kitAny X.K (.ref C) cvs = some (css.flatten.contains c)) ∧ ∀ t ∈ tyNames, PySem.W.kitAny X.K (.type t) cvs = some false
  | _, _, _, .nil => ⟨[], [], PA.imp pa_nil fun σ H Q h => h, .nil, rfl, fun _ _ _ => rfl, fun _ _ => rfl⟩
  | _, _, _, .cons (x := x) (cs := cs) (css := css) (p := p) hx hg hd r => by
    obtain ⟨cv, cw, hv, hcl, hrel, hk, ht⟩ := hx
    obtain ⟨cws, cvs, h1, h2, h3, h4, h5⟩ := r.all
    have hT : PE X (.Name x p) (tC cw) := by
      rcases hv with hv | ⟨hv, q1, q2⟩
      · exact pe_glob hg hv hrel hd
      · exact pe_bltn hg hv q1 hrel q2 hd
    refine ⟨cw :: cws, cv :: cvs, PA.imp (pa_cons hT h1 (star_cons rfl)) fun σ H Q h => h, .cons hcl h2, by simp [h3], fun c C hc => ?_, fun t hn => ?_⟩
    · simp only [PySem.W.kitAny, (hk c C hc).2, List.flatten_cons, List.contains_eq_mem, List.mem_append]
      have q := h4 c C hc
      simp only [List.contains_eq_mem] at q
      by_cases hm : c ∈ cs
      · simp [hm]
      · simp [hm, q]
    · simp only [PySem.W.kitAny, ht t hn]
      exact h5 t hn
theorem r_rzI {c : Nat} {C fI : Addr} {fd : FuncData} {ps : List Str} {x : Str} {p2 : Pos} (hc : X.calm = true) (tk : Takes X W) (hca : g.ca c = some C) (hne : g.cf c ≠ []) (T : OexC X.K C)
    (iC : PySem.W.findIn X.K (.ref C) "__init__" = some (some (.ref fI))) (tI : PySem.W.typeIn X.K (.ref fI) = some (.type "function")) (F1 : FnOk X.prog X.w X.K X.mg X.base (CX X.prog X.w X.mg) 1 fI fd ps (spIni C (g.cf c).reverse)) (hr : Room 2 X.A)
    (hb : Binds X.K fd ps []) (hg : Gl X x) (hm : X.mg x = some (.ref C)) (ha : PA X (e :: es) (tA X.K g W fr)) (hlen : ∀ s m ds m', fr s m = .ok ds m' → ds.length = (g.cf c).length) (hsm : (g.cf c).length ≤ 1000) (hst : (e :: es).all notStar = true) (hdb : (x == ("__debug__" : Str)) = false) :
    PS X (.Raise (some (.Call (.Name x p) (e :: es) [] p2)) none pos) (tS X.K g W fun s m => (fr s m).toS s fun ds m => .exc c ds.reverse s m) := by
  have h1 := hst
  rw [List.all_cons, Bool.and_eq_true] at h1
  refine PS.imp (ps_raise hc tk (pmk_oexN T iC tI F1 hr hb .nil (passes_call tk fun _ _ _ _ z => z.elim) hg hm ha hdb (star_cons h1.1) (star_any h1.2))) fun D σ H h => ?_
  obtain ⟨ρ, m, s, R, E, P⟩ := h
  refine ⟨ρ, m, s, R, E, ?_⟩
  have hl := hlen s m
  dsimp only at P
  revert P hl
  cases fr s m with
  | exc c fs m1 => intro P hl ρ1 H1 cv dd G1 R1 X1; exact P ρ1 H1 σ cv dd G1 R1 (E.grow G1) X1
  | bad => intro P hl; exact P
  | ok ds m1 =>
    intro P hl ρ1 H1 vs G1 R1 V1
    have hl := hl ds m1 rfl
    have hvl : vs.length = (g.cf c).length := V1.length.symm.trans hl
    refine ⟨by omega, fun a na => ⟨a, vs, by simp, by simpa using hvl, upd_same, fun dx nd ne => ⟨rfl, dx, (g.cf c).zip vs.reverse, upd_same, ?_, ?_, ?_⟩⟩⟩
    · rw [upd_ne ne, upd_same, List.reverse_reverse]
    · rw [upd_ne ne] at nd
      exact nd
    · rw [upd_ne ne] at nd
      have eH : upd (del (upd (upd (upd H1 a (exo a C none)) dx (exd dx ((g.cf c).reverse.reverse.zip vs.reverse))) a (exo a C (some dx))) a) dx (.xd ((g.cf c).zip vs.reverse)) = upd H1 dx (.xd ((g.cf c).zip vs.reverse)) := by
        funext b
        by_cases hbd : b = dx
        · rw [hbd, upd_same, upd_same]
        · rw [upd_ne hbd, upd_ne hbd]
          by_cases hba : b = a
          · rw [hba, del_same, na]
          · rw [del_ne hba, upd_ne hba, upd_ne hbd, upd_ne hba]
      rw [eH]
      have G2 : Grow ρ1 H1 ρ1 (upd H1 dx (.xd ((g.cf c).zip vs.reverse))) := Grow.new nd
      refine P ρ1 _ σ (.ref C) (some dx) (G1.trans G2) (R1.new nd) ((E.grow G1).grow G2) ⟨C, hca, rfl, .inr ⟨dx, vs.reverse, ?_, rfl, upd_same, R1.out nd, by simpa using hvl, (V1.grow G2).reverse⟩⟩
      intro z
      have : ds.reverse.length = 0 := by rw [z]; rfl
      rw [List.length_reverse, hl] at this
      exact hne (List.length_eq_zero_iff.mp this)
theorem ini1 {P : Program} {w : World} {K : PySem.W.Frag} {mg : Str → Option Value} {base : Heap} {f : Addr} {qual self x fl : Str} {params : Arguments} {scope : Scope} {kV doc pm cdv ct oc : Value} {an od : Option Addr} {osl : Array (Option Value)} {p1 p2 p3 p4 : Pos} {C : Addr}
    (lk : K.lookup f = some ⟨oc, od, .func (PySem.W.fnOf "__init__" qual params [.Assign [.Attribute (.Name self p1) fl p2] (.Name x p3) p4] scope .none kV doc pm an cdv ct), osl⟩) (hcd : PySem.W.codeIn K cdv qual = true) (S : FnScope [self, x] [self, x] scope)
    (d1 : (self == ("__debug__" : Str)) = false) (d2 : (self == ("__classdict__" : Str)) = false) (d3 : (x == ("__debug__" : Str)) = false) (d4 : (x == ("__classdict__" : Str)) = false) (T : OexC K C) (hno : PySem.W.findIn K (.ref C) fl = some none) :
    FnOk P w K mg base (CX P w mg) 1 f (PySem.W.fnOf "__init__" qual params [.Assign [.Attribute (.Name self p1) fl p2] (.Name x p3) p4] scope .none kV doc pm an cdv ct) [self, x] (spIni C [fl]) := by
  refine fn_of lk hcd S ?_ ?_
  · rintro vs H Q E ⟨a, ws, rfl, hl, _⟩
    simpa using hl
  · rintro A outer s H vs Q E _ ⟨a, ws, rfl, hl, ha, q⟩
    match ws, hl with
    | [v], _ =>
      have vis : ∀ y, y ∈ [self, x] → Vis scope y := fun y hy => (S.par y hy).elim .inl fun z => .inr (.inl z)
      refine ⟨_, pss_cons (ps_ost (pe_var (i := 0) rfl (vis self (by simp)) d1 d2) (pe_var (i := 1) rfl (vis x (by simp)) d3 d4)) pss_nil, ?_⟩
      exact ⟨v, rfl, .ref a, rfl, a, C, rfl, T, hno, .inl ⟨ha, fun dx n ne => q dx n ne⟩⟩
theorem ini2 {P : Program} {w : World} {K : PySem.W.Frag} {mg : Str → Option Value} {base : Heap} {f : Addr} {qual self x y fl fm : Str} {params : Arguments} {scope : Scope} {kV doc pm cdv ct oc : Value} {an od : Option Addr} {osl : Array (Option Value)} {p1 p2 p3 p4 q1 q2 q3 q4 : Pos} {C : Addr}
    (lk : K.lookup f = some ⟨oc, od, .func (PySem.W.fnOf "__init__" qual params [.Assign [.Attribute (.Name self p1) fl p2] (.Name x p3) p4, .Assign [.Attribute (.Name self q1) fm q2] (.Name y q3) q4] scope .none kV doc pm an cdv ct), osl⟩) (hcd : PySem.W.codeIn K cdv qual = true) (S : FnScope [self, x, y] [self, x, y] scope)
    (d1 : (self == ("__debug__" : Str)) = false) (d2 : (self == ("__classdict__" : Str)) = false) (d3 : (x == ("__debug__" : Str)) = false) (d4 : (x == ("__classdict__" : Str)) = false) (d5 : (y == ("__debug__" : Str)) = false) (d6 : (y == ("__classdict__" : Str)) = false)
    (T : OexC K C) (hno : PySem.W.findIn K (.ref C) fl = some none) (hno2 : PySem.W.findIn K (.ref C) fm = some none) :
    FnOk P w K mg base (CX P w mg) 1 f (PySem.W.fnOf "__init__" qual params [.Assign [.Attribute (.Name self p1) fl p2] (.Name x p3) p4, .Assign [.Attribute (.Name self q1) fm q2] (.Name y q3) q4] scope .none kV doc pm an cdv ct) [self, x, y] (spIni C [fl, fm]) := by
  refine fn_of lk hcd S ?_ ?_
  · rintro vs H Q E ⟨a, ws, rfl, hl, _⟩
    simpa using hl
  · rintro A outer s H vs Q E _ ⟨a, ws, rfl, hl, ha, q⟩
    match ws, hl with
    | [v, v2], _ =>
      have vis : ∀ z, z ∈ [self, x, y] → Vis scope z := fun z hz => (S.par z hz).elim .inl fun z => .inr (.inl z)
      refine ⟨_, pss_cons (ps_ost (pe_var (i := 0) rfl (vis self (by simp)) d1 d2) (pe_var (i := 1) rfl (vis x (by simp)) d3 d4)) (pss_cons (ps_ost (pe_var (i := 0) rfl (vis self (by simp)) d1 d2) (pe_var (i := 2) rfl (vis y (by simp)) d5 d6)) pss_nil), ?_⟩
      refine ⟨v, rfl, .ref a, rfl, a, C, rfl, T, hno, .inl ⟨ha, fun dx n ne => ?_⟩⟩
      refine ⟨v2, rfl, .ref a, rfl, a, C, rfl, T, hno2, .inr ⟨dx, [(fl, v)], upd_same, by rw [upd_ne ne, upd_same], by simp, ?_⟩⟩
      have eH : upd (upd (upd H dx (exd dx [(fl, v)])) a (exo a C (some dx))) dx (exd dx [(fm, v2), (fl, v)]) = upd (upd H dx (exd dx ([fl, fm].reverse.zip [v, v2].reverse))) a (exo a C (some dx)) := by
        funext b
        by_cases hbd : b = dx
        · rw [hbd, upd_same, upd_ne ne, upd_same]
          rfl
        · rw [upd_ne hbd]
          by_cases hba : b = a
          · rw [hba, upd_same, upd_same]
          · rw [upd_ne hba, upd_ne hba, upd_ne hbd, upd_ne hbd]
      show Q .non _
      rw [eH]
      exact q dx n ne
end
abbrev FnB (P : Program) (w : World) (K : PySem.W.Frag) (mg : Str → Option Value) (base : Heap) (CXs : CXT) (k : Nat) (f : Addr) (fd : FuncData) (ps : List Str) (sp : Sp) : Prop := FnOk P w K mg base CXs k f fd ps sp ∧ L2H.FnH P w K mg base CXs k f fd ps sp
theorem ini1H {P : Program} {w : World} {K : PySem.W.Frag} {mg : Str → Option Value} {base : Heap} {f : Addr} {qual self x fl : Str} {params : Arguments} {scope : Scope} {kV doc pm cdv ct oc : Value} {an od : Option Addr} {osl : Array (Option Value)} {p1 p2 p3 p4 : Pos} {C : Addr}
    (lk : K.lookup f = some ⟨oc, od, .func (PySem.W.fnOf "__init__" qual params [.Assign [.Attribute (.Name self p1) fl p2] (.Name x p3) p4] scope .none kV doc pm an cdv ct), osl⟩) (hcd : PySem.W.codeIn K cdv qual = true) (S : FnScope [self, x] [self, x] scope)
    (d1 : (self == ("__debug__" : Str)) = false) (d2 : (self == ("__classdict__" : Str)) = false) (d3 : (x == ("__debug__" : Str)) = false) (d4 : (x == ("__classdict__" : Str)) = false) (T : OexC K C) (hno : PySem.W.findIn K (.ref C) fl = some none) :
    L2H.FnH P w K mg base (CX P w mg) 1 f (PySem.W.fnOf "__init__" qual params [.Assign [.Attribute (.Name self p1) fl p2] (.Name x p3) p4] scope .none kV doc pm an cdv ct) [self, x] (spIni C [fl]) := by
  refine L2H.fn_ofH lk hcd S ?_ ?_
  · rintro vs H Q E ⟨a, ws, rfl, hl, _⟩
    simpa using hl
  · rintro A outer s H vs Q E pp _ _ ⟨a, ws, rfl, hl, ha, q⟩
    match ws, hl with
    | [v], _ =>
      have vis : ∀ y, y ∈ [self, x] → Vis scope y := fun y hy => (S.par y hy).elim .inl fun z => .inr (.inl z)
      refine ⟨_, pss_cons (ps_ost (pe_var (i := 0) rfl (vis self (by simp)) d1 d2) (pe_var (i := 1) rfl (vis x (by simp)) d3 d4)) pss_nil, ?_⟩
      exact ⟨v, rfl, .ref a, rfl, a, C, rfl, T, hno, .inl ⟨ha, fun dx n ne => q dx n ne⟩⟩
theorem ini2H {P : Program} {w : World} {K : PySem.W.Frag} {mg : Str → Option Value} {base : Heap} {f : Addr} {qual self x y fl fm : Str} {params : Arguments} {scope : Scope} {kV doc pm cdv ct oc : Value} {an od : Option Addr} {osl : Array (Option Value)} {p1 p2 p3 p4 q1 q2 q3 q4 : Pos} {C : Addr}
    (lk : K.lookup f = some ⟨oc, od, .func (PySem.W.fnOf "__init__" qual params [.Assign [.Attribute (.Name self p1) fl p2] (.Name x p3) p4, .Assign [.Attribute (.Name self q1) fm q2] (.Name y q3) q4] scope .none kV doc pm an cdv ct), osl⟩) (hcd : PySem.W.codeIn K cdv qual = true) (S : FnScope [self, x, y] [self, x, y] scope)
    (d1 : (self == ("__debug__" : Str)) = false) (d2 : (self == ("__classdict__" : Str)) = false) (d3 : (x == ("__debug__" : Str)) = false) (d4 : (x == ("__classdict__" : Str)) = false) (d5 : (y == ("__debug__" : Str)) = false) (d6 : (y == ("__classdict__" : Str)) = false)
    (T : OexC K C) (hno : PySem.W.findIn K (.ref C) fl = some none) (hno2 : PySem.W.findIn K (.ref C) fm = some none) :
    L2H.FnH P w K mg base (CX P w mg) 1 f (PySem.W.fnOf "__init__" qual params [.Assign [.Attribute (.Name self p1) fl p2] (.Name x p3) p4, .Assign [.Attribute (.Name self q1) fm q2] (.Name y q3) q4] scope .none kV doc pm an cdv ct) [self, x, y] (spIni C [fl, fm]) := by
  refine L2H.fn_ofH lk hcd S ?_ ?_
  · rintro vs H Q E ⟨a, ws, rfl, hl, _⟩
    simpa using hl
  · rintro A outer s H vs Q E pp _ _ ⟨a, ws, rfl, hl, ha, q⟩
    match ws, hl with
    | [v, v2], _ =>
      have vis : ∀ z, z ∈ [self, x, y] → Vis scope z := fun z hz => (S.par z hz).elim .inl fun z => .inr (.inl z)
      refine ⟨_, pss_cons (ps_ost (pe_var (i := 0) rfl (vis self (by simp)) d1 d2) (pe_var (i := 1) rfl (vis x (by simp)) d3 d4)) (pss_cons (ps_ost (pe_var (i := 0) rfl (vis self (by simp)) d1 d2) (pe_var (i := 2) rfl (vis y (by simp)) d5 d6)) pss_nil), ?_⟩
      refine ⟨v, rfl, .ref a, rfl, a, C, rfl, T, hno, .inl ⟨ha, fun dx n ne => ?_⟩⟩
      refine ⟨v2, rfl, .ref a, rfl, a, C, rfl, T, hno2, .inr ⟨dx, [(fl, v)], upd_same, by rw [upd_ne ne, upd_same], by simp, ?_⟩⟩
      have eH : upd (upd (upd H dx (exd dx [(fl, v)])) a (exo a C (some dx))) dx (exd dx [(fm, v2), (fl, v)]) = upd (upd H dx (exd dx ([fl, fm].reverse.zip [v, v2].reverse))) a (exo a C (some dx)) := by
        funext b
        by_cases hbd : b = dx
        · rw [hbd, upd_same, upd_ne ne, upd_same]
          rfl
        · rw [upd_ne hbd]
          by_cases hba : b = a
          · rw [hba, upd_same, upd_same]
          · rw [upd_ne hba, upd_ne hba, upd_ne hbd, upd_ne hbd]
      show Q .non _
      rw [eH]
      exact q dx n ne
end Ev
namespace Ev
open PySem PySem.Spec PyProof.Rows L2 L2H HotX
section
variable {X : Cx} {Wout : WX} {pins : List (Addr × Obj)} {n : Str} {i : Nat} {pos : Pos}
end
section
variable {X : Cx} {body : List Stmt} {tb : WX → TS} {Wout : WX} {x n : Str} {cx : Value} {i : Nat} {ce : Expr} {np p3 p4 p5 pos : Pos} {tm : L2.St → Hp → XK → Prop}
end
section
variable {X : Cx} {g : Gm} {W : WX} {body : List Stmt} {fb : Sl → Mu → RS} {fr : Sl → Mu → R (List D)} {x n y : Str} {cx : Value} {i c2 : Nat} {cs hl : List Nat} {e : Expr} {es : List Expr} {p np p2 p3 p4 p5 pos : Pos} {C2 fI : Addr} {fd : FuncData} {ps : List Str} {CXs : CXT}
theorem REnv.hide {K : PySem.W.Frag} {ρ : Rh} {H : Hp} {s : Sl} {σ : L2.St} (h : REnv K g ρ H s σ) (i : Nat) (v : Option V) : REnv K g ρ H (s.set i none) (σ.set i v) := by
  refine ⟨by simp [h.len], fun j d e => ?_⟩
  by_cases hj : i = j
  · subst hj
    by_cases hl : i < s.length
    · rw [List.getElem?_set_self hl] at e; cases e
    · rw [List.getElem?_eq_none (by simpa using hl)] at e; cases e
  · rw [List.getElem?_set_ne hj] at e
    obtain ⟨v', e1, r⟩ := h.at_ j d e
    exact ⟨v', by rw [List.getElem?_set_ne hj]; exact e1, r⟩
end
end Ev
namespace Ev
open PySem PySem.Spec PyProof.Rows L2
section
variable {M : Model} {A : Around} {E : Value → Shared → Prop} {s : Shared} {env : Env}
end
section
variable {M : Model} {A : Around} {E : Value → Shared → Prop} {s : Shared} {env : Env} {outer : List Env} {base : Heap} {e : Addr} {L : Addr} {Z : Obj → Prop}
end
section
variable {X : Cx} {Wout : WX} {pins : List (Addr × Obj)} {σ : L2.St} {H3 : Hp} {s3 : Shared} {scope : Scope} {ce : Env} {fp : List Addr}
end
section
variable {X : Cx}
end
theorem RX.unhide {K : PySem.W.Frag} {g : Gm} {ρ : Rh} {H : Hp} {p : Addr} {c : Nat} {fs : List D} {cv : Value} {dd : Option Addr} (h : RX K g (ρ.hide p) H c fs cv dd) : RX K g ρ H c fs cv dd := by
  obtain ⟨C, h1, h2, h3⟩ := h
  refine ⟨C, h1, h2, ?_⟩
  rcases h3 with h3 | ⟨a, vs, h4, h5, h6, h7, h8, h9⟩
  · exact .inl h3
  · exact .inr ⟨a, vs, h4, h5, h6, ⟨h7.1, fun z => h7.2 (List.mem_cons_of_mem _ z)⟩, h8, h9.unhide⟩
section
variable {X : Cx} {g : Gm} {W : WX} {elt tg iter : Expr} {scope : Scope} {own : List (Str × Nat)} {pos : Pos} {t : Tg} {fi : Sl → Mu → R (List D)} {fe : Sl → Mu → R D}
end
end Ev
namespace Ev
open PySem PySem.Spec PyProof.Rows L2
structure InsC (K : PySem.W.Frag) (g : Gm) (cs : List Nat) (f : Str) : Prop where
  cl : ∀ c C, g.ia c = some C → Cls K C
  no : ∀ c C, g.ia c = some C → cs.contains c = true → NoAttr K C f
section
variable {X : Cx} {g : Gm} {W : WX} {a b c e : Expr} {es : List Expr} {fa fb fc : Sl → Mu → R D} {fr : Sl → Mu → R (List D)} {pos p : Pos}
theorem r_orV (ha : PE X a (tE X.K g W fa)) (hb : PE X b (tE X.K g W fb)) : PE X (.BoolOp .Or [a, b] pos) (tE X.K g W fun s m => (fa s m).bind fun x m => (opt m (truthD m x)).bind fun k m => if k then .ok x m else fb s m) := by
  refine PE.imp (pe_orT ha (pe_one hb)) fun σ H Q h => ?_
  obtain ⟨ρ, m, s, R, E, P⟩ := h
  refine ⟨ρ, m, s, R, E, (PostE.first P E).mono ?_⟩
  rintro v H1 ⟨ρ1, m1, d1, G1, R1, E1, V1, P1⟩
  cases e : truthD m1 d1 with
  | none => rw [e] at P1; exact P1.elim
  | some k =>
    rw [e] at P1
    simp only [opt_s, bind_k] at P1
    refine ⟨k, V1.truth R1 e, ?_⟩
    cases k with
    | true => exact iteT (P1 ρ1 H1 v .refl R1 V1)
    | false => exact iteF ⟨ρ1, m1, s, R1, E1, P1⟩
mutual
theorem RV.bare {K : PySem.W.Frag} {ρ : Rh} {H : Hp} : ∀ {d : D} {v : V}, RV K g ρ H d v → closD 0 d = true → RV K g ⟨[], []⟩ H d v
  | _, _, .non, _ => .non
  | _, _, .bl b, _ => .bl b
  | _, _, .int i, _ => .int i
  | _, _, .str x, _ => .str x
  | _, _, .tup h r, c => .tup h (RVs.bare r (by simpa only [closD] using c))
  | _, _, .lst h _ r, c => .lst h ⟨by simp, by simp⟩ (RVs.bare r (by simpa only [closD] using c))
  | _, _, .scr h, _ => .scr (by
      rcases h with ⟨h, _⟩ | h | h
      · exact .inl ⟨h, by simp, by simp⟩
      · exact .inr (.inl h)
      · exact .inr (.inr h))
  | _, _, .dct h _, _ => .dct h ⟨by simp, by simp⟩
  | _, _, .ref h, c => by simp [closD] at c
  | _, _, .fn h, _ => .fn h
  | _, _, .cls h, _ => .cls h
  | _, _, .ty n, _ => .ty n
  | _, _, .xo0 h _ q, _ => .xo0 h ⟨by simp, by simp⟩ q
  | _, _, .xo1 h _ q h2 _ q2 q3 r, c => .xo1 h ⟨by simp, by simp⟩ q h2 ⟨by simp, by simp⟩ q2 q3 (RVs.bare r (by simpa only [closD] using c))
  | _, _, .lam h1 _ h2 _ e, _ => .lam h1 ⟨by simp, by simp⟩ h2 ⟨by simp, by simp⟩ e
  | _, _, .dks h1 h2 h3 h4 h5 r, c => .dks h1 h2 h3 h4 h5 (RVs.bare r (by simpa only [closD] using c))
  | _, _, .tts h1 h2 h3 h4, _ => .tts h1 h2 h3 h4
  | _, _, .dcn h1 _ h3 h4 h5 h6 r1 r2 h7, c => .dcn h1 ⟨by simp, by simp⟩ h3 h4 h5 h6 (RVs.bare r1 (by simp only [closD, Bool.and_eq_true] at c; exact c.1)) (RVs.bare r2 (by simp only [closD, Bool.and_eq_true] at c; exact c.2)) h7
theorem RVs.bare {K : PySem.W.Frag} {ρ : Rh} {H : Hp} : ∀ {ds : List D} {vs : List V}, RVs K g ρ H ds vs → closDs 0 ds = true → RVs K g ⟨[], []⟩ H ds vs
  | _, _, .nil, _ => .nil
  | _, _, .cons h r, c => by
    simp only [closDs, Bool.and_eq_true] at c
    exact .cons (RV.bare h c.1) (RVs.bare r c.2)
end
end
end Ev
namespace Ev
open PySem PySem.Spec PyProof.Rows L2
end Ev
namespace Ev
open PySem PySem.Spec PyProof.Rows L2
section
variable {prog : Program} {w : World} {A : Around} {E : Value → Shared → Prop} {s : Shared}
end
section
variable {X : Cx} {pos : Pos} {g : Gm}
end
end Ev
namespace Ev
open PySem PySem.Spec PyProof.Rows L2
section
variable {X : Cx} {g : Gm} {W : WX} {tg a b c e : Expr} {es : List Expr} {fa fb fc : Sl → Mu → R D} {fr : Sl → Mu → R (List D)} {pos p : Pos}
inductive NamesStar (X : Cx) : List Nat → List Expr → List Expr → Prop
  | last {i : Nat} {x : Str} {pos p2 : Pos} : X.N[i]? = some x → Loc X.env.scope x → (X.fn x = true ∨ X.env.scope.names.lookup x = some .local) → NamesStar X [i] [.Name x pos] [.Starred (.Name x pos) p2]
  | cons {i : Nat} {x : Str} {is : List Nat} {es es' : List Expr} {pos : Pos} : X.N[i]? = some x → Loc X.env.scope x → (X.fn x = true ∨ X.env.scope.names.lookup x = some .local) → NamesStar X is es es' → NamesStar X (i :: is) (.Name x pos :: es) (.Name x pos :: es')
theorem NamesStar.names : ∀ {is : List Nat} {es es' : List Expr}, NamesStar X is es es' → NamesAre X is es
  | _, _, _, .last h1 h2 h3 => .cons h1 h2 h3 .nil
  | _, _, _, .cons h1 h2 h3 r => .cons h1 h2 h3 (NamesStar.names r)
theorem NamesStar.each : ∀ {is : List Nat} {es es' : List Expr}, NamesStar X is es es' → (assignEach es' X.env).map (·.2) = (assignEach es X.env).map (·.2) ∧ (assignEach es' X.env).length = (is.length - 1) + 1 ∧ (assignEach es' X.env).findIdx? (·.1) = some (is.length - 1) ∧ 0 < is.length
  | _, _, _, .last h1 h2 h3 => ⟨rfl, rfl, rfl, by simp⟩
  | _, _, _, .cons (is := is) h1 h2 h3 r => by
    obtain ⟨e1, e2, e3, e4⟩ := NamesStar.each r
    refine ⟨by simp only [assignEach, List.map_cons, e1], by simp only [assignEach, List.length_cons, e2]; omega, ?_, by simp⟩
    simp only [assignEach, List.findIdx?_cons, e3, Bool.false_eq_true, if_false, Option.map_some, List.length_cons]
    congr 1
    omega
theorem RVs.erase {K : PySem.W.Frag} {ρ : Rh} {H : Hp} : ∀ {ds : List D} {vs : List V} (i : Nat), RVs K g ρ H ds vs → RVs K g ρ H (ds.eraseIdx i) (vs.eraseIdx i)
  | _, _, _, .nil => .nil
  | _, _, 0, .cons h r => r
  | _, _, i + 1, .cons h r => .cons h (RVs.erase i r)
theorem RVs.allZap {K : PySem.W.Frag} {ρ : Rh} {H : Hp} {f : D → Option D} (hf : ∀ {d d' : D} {v : V}, RV K g ρ H d v → f d = some d' → RV K g ⟨[], []⟩ H d' v) : ∀ {ds ds' : List D} {vs : List V}, RVs K g ρ H ds vs → allD f ds = some ds' → RVs K g ⟨[], []⟩ H ds' vs
  | _, _, _, .nil, e => by
    simp only [allD] at e
    cases e
    exact .nil
  | _, _, _, .cons h r, e => by
    simp only [allD] at e
    split at e
    · rename_i a b h1 h2
      cases e
      exact .cons (hf h h1) (RVs.allZap hf r h2)
    · cases e
theorem RV.zapT {K : PySem.W.Frag} {ρ : Rh} {H : Hp} {m : Mu} (R : Rel K g ρ m H) : ∀ (n : Nat) {d d' : D} {v : V}, RV K g ρ H d v → Ev.zapT m n d = some d' → RV K g ⟨[], []⟩ H d' v
  | 0, _, _, _, _, e => by simp [Ev.zapT] at e
  | n + 1, d, d', v, h, e => by
    have plain : (if closD 0 d = true then some d else none) = some d' → RV K g ⟨[], []⟩ H d' v := fun q => by
      split at q
      · rename_i hc
        cases q
        exact h.bare hc
      · cases q
    cases d with
    | ref i =>
      simp only [Ev.zapT] at e
      split at e
      · rename_i xs hm
        simp only [Option.map_eq_some_iff] at e
        obtain ⟨ys, e1, rfl⟩ := e
        cases h with
        | ref ha =>
          obtain ⟨a', ha', vs, hv, hr⟩ := R.get hm
          rw [ha] at ha'
          cases ha'
          exact .lst hv ⟨by simp, by simp⟩ (RVs.allZap (fun h e => RV.zapT R n h e) hr e1)
      · cases e
    | _ => exact plain (by simpa only [Ev.zapT] using e)
end
end Ev
namespace Ev
open PySem PySem.Spec PyProof.Rows PySem.Calls
namespace SKr
section
variable {prog : Program} {w : World} {A : Around} {E : Value → Shared → Prop} {s : Shared} {a kS : Addr} {vs : List Value} {e1 : Nat} {P : PySem.Fin → Shared → Prop} {kz : List PyData}
end
end SKr
open L2
section
variable {K : PySem.W.Frag} {g : Gm} {ρ : Rh} {H H' : Hp} {m : Mu}
end
section
variable {X : Cx} {g : Gm} {W : WX} {fa : Sl → Mu → R D} {pos p p2 kp : Pos} {a : Expr}
structure SkM (X : Cx) (g : Gm) (pins : List (Addr × Obj)) (σ : L2.St) (H : Hp) (aN kS : Addr) (ks : List D) (e1 i : Nat) (s' : Shared) (kA : Array Value) : Prop where
  ex : ∃ H', Inv X pins σ H' s' ∧ (KeepN H H' ∧ LamX.Tabs g.tb H') ∧ FpOk X pins H' aN ∧ FpOk X pins H' kS ∧ PySem.W.EachIs (fun u k => ∃ x, RelV x u ∧ RV X.K g ⟨[], []⟩ H' k x) kA.toList (ks.take i)
  aN_ : s'.heap.get? aN = some (seqObj "list" #[] e1)
  kS_ : ∃ e, s'.heap.get? kS = some (seqObj "list" kA e)
  sz : kA.size = i
end
end Ev
namespace Ev
open PySem PySem.Spec PyProof.Rows L2
def kI (ns : List Int) : List Key := ns.map Sum.inl
theorem kI_inj : ∀ {a b : List Int}, kI a = kI b → a = b
  | [], [], _ => rfl
  | [], _ :: _, h => by cases h
  | _ :: _, [], h => by cases h
  | x :: a, y :: b, h => by
    have h1 : (Sum.inl x : Key) = Sum.inl y ∧ kI a = kI b := by simpa [kI] using h
    rw [Sum.inl.inj h1.1, kI_inj h1.2]
section
variable {K : PySem.W.Frag} {g : Gm} {ρ : Rh} {H : Hp}
def KR (K : PySem.W.Frag) (g : Gm) (ρ : Rh) (H : Hp) (kvs : List (List Int × D)) (ws : List (List Key × V)) : Prop := ws.map (·.1) = kvs.map (fun p => p.1.map Sum.inl) ∧ RVs K g ρ H (kvs.map (·.2)) (ws.map (·.2))
theorem KR.get : ∀ {kvs : List (List Int × D)} {ws : List (List Key × V)} (k : List Int), KR K g ρ H kvs ws → (∀ d, getR kvs k = some d → ∃ v, valV ws (kI k) = some v ∧ RV K g ρ H d v) ∧ (getR kvs k = none → valV ws (kI k) = none)
  | [], [], k, _ => ⟨fun d e => (by cases e), fun _ => rfl⟩
  | [], _ :: _, _, h => by cases h.1
  | _ :: _, [], _, h => by cases h.1
  | p :: r, q :: t, k, h => by
    have h1 : q.1 = kI p.1 ∧ t.map (·.1) = r.map (fun p => p.1.map Sum.inl) := by simpa [kI] using h.1
    have h2 := h.2
    simp only [List.map_cons] at h2
    cases h2 with
    | cons h3 h4 =>
      obtain ⟨i1, i2⟩ := KR.get k ⟨h1.2, h4⟩
      by_cases e : p.1 = k
      · have e' : q.1 = kI k := by rw [h1.1, e]
        rw [valV_pos e']
        simp only [getR, if_pos e]
        exact ⟨fun d hd => by cases hd; exact ⟨_, rfl, h3⟩, fun hd => by cases hd⟩
      · have e' : ¬ q.1 = kI k := fun z => e (kI_inj (h1.1.symm.trans z))
        rw [valV_neg e']
        simp only [getR, if_neg e]
        exact ⟨i1, i2⟩
theorem KR.mapPut {k : List Int} {d : D} {v : V} (hv : RV K g ρ H d v) : ∀ {kvs : List (List Int × D)} {ws : List (List Key × V)}, KR K g ρ H kvs ws → KR K g ρ H (kvs.map fun p => if p.1 = k then (p.1, d) else p) (ws.map fun kv => if kv.1 = kI k then (kv.1, v) else kv)
  | [], [], _ => ⟨rfl, .nil⟩
  | [], _ :: _, h => by cases h.1
  | _ :: _, [], h => by cases h.1
  | p :: r, q :: t, h => by
    have h1 : q.1 = kI p.1 ∧ t.map (·.1) = r.map (fun p => p.1.map Sum.inl) := by simpa [kI] using h.1
    have h2 := h.2
    simp only [List.map_cons] at h2
    cases h2 with
    | cons h3 h4 =>
      obtain ⟨i1, i2⟩ := KR.mapPut (k := k) hv ⟨h1.2, h4⟩
      by_cases e : p.1 = k
      · have e' : q.1 = kI k := by rw [h1.1, e]
        refine ⟨?_, ?_⟩
        · simp only [List.map_cons, if_pos e, if_pos e']; exact congr (congrArg List.cons h1.1) i1
        · simp only [List.map_cons, if_pos e, if_pos e']; exact .cons hv i2
      · have e' : ¬ q.1 = kI k := fun z => e (kI_inj (h1.1.symm.trans z))
        refine ⟨?_, ?_⟩
        · simp only [List.map_cons, if_neg e, if_neg e']; exact congr (congrArg List.cons h1.1) i1
        · simp only [List.map_cons, if_neg e, if_neg e']; exact .cons h3 i2
theorem KR.put {k : List Int} {d : D} {v : V} (hv : RV K g ρ H d v) {kvs : List (List Int × D)} {ws : List (List Key × V)} (h : KR K g ρ H kvs ws) : KR K g ρ H (putR kvs k d) (putK ws (kI k) v) := by
  unfold putR putK
  obtain ⟨g1, g2⟩ := h.get k
  have ha := valV_any (kI k) ws
  cases e : getR kvs k with
  | none =>
    rw [g2 e] at ha
    rw [if_neg (by simp), if_neg (by rw [ha]; simp)]
    refine ⟨?_, ?_⟩
    · rw [List.map_append, List.map_append, h.1]; rfl
    · rw [List.map_append, List.map_append]; exact h.2.append (.cons hv .nil)
  | some d0 =>
    obtain ⟨v0, e0, _⟩ := g1 d0 e
    rw [e0] at ha
    rw [if_pos (by simp), if_pos (by rw [ha]; simp)]
    exact h.mapPut hv
theorem KR.len {kvs : List (List Int × D)} {ws : List (List Key × V)} (h : KR K g ρ H kvs ws) : ws.length = kvs.length := by
  have := congrArg List.length h.1
  simpa using this
end
section
variable {X : Cx} {g : Gm} {W : WX} {a b c e : Expr} {es : List Expr} {fa fb fc : Sl → Mu → R D} {pos : Pos}
end
end Ev
namespace Ev
open PySem PySem.Spec PyProof.Rows L2
def kZ (k : Int) : Key := Sum.inl k
theorem kZ_inj {a b : Int} (h : kZ a = kZ b) : a = b := Sum.inl.inj h
section
variable {K : PySem.W.Frag} {g : Gm} {ρ : Rh} {H : Hp}
def KZ (K : PySem.W.Frag) (g : Gm) (ρ : Rh) (H : Hp) (kvs : List (Int × D)) (ws : List (Key × V)) : Prop := ws.map (·.1) = kvs.map (fun p => Sum.inl p.1) ∧ RVs K g ρ H (kvs.map (·.2)) (ws.map (·.2))
theorem KZ.get : ∀ {kvs : List (Int × D)} {ws : List (Key × V)} (k : Int), KZ K g ρ H kvs ws → (∀ d, getZ kvs k = some d → ∃ v, valV ws (kZ k) = some v ∧ RV K g ρ H d v) ∧ (getZ kvs k = none → valV ws (kZ k) = none)
  | [], [], k, _ => ⟨fun d e => (by cases e), fun _ => rfl⟩
  | [], _ :: _, _, h => by cases h.1
  | _ :: _, [], _, h => by cases h.1
  | p :: r, q :: t, k, h => by
    have h1 : q.1 = kZ p.1 ∧ t.map (·.1) = r.map (fun p => Sum.inl p.1) := by simpa [kZ] using h.1
    have h2 := h.2
    simp only [List.map_cons] at h2
    cases h2 with
    | cons h3 h4 =>
      obtain ⟨i1, i2⟩ := KZ.get k ⟨h1.2, h4⟩
      by_cases e : p.1 = k
      · have e' : q.1 = kZ k := by rw [h1.1, e]
        rw [valV_pos e']
        simp only [getZ, if_pos e]
        exact ⟨fun d hd => by cases hd; exact ⟨_, rfl, h3⟩, fun hd => by cases hd⟩
      · have e' : ¬ q.1 = kZ k := fun z => e (kZ_inj (h1.1.symm.trans z))
        rw [valV_neg e']
        simp only [getZ, if_neg e]
        exact ⟨i1, i2⟩
theorem KZ.mapPut {k : Int} {d : D} {v : V} (hv : RV K g ρ H d v) : ∀ {kvs : List (Int × D)} {ws : List (Key × V)}, KZ K g ρ H kvs ws → KZ K g ρ H (kvs.map fun p => if p.1 = k then (p.1, d) else p) (ws.map fun kv => if kv.1 = kZ k then (kv.1, v) else kv)
  | [], [], _ => ⟨rfl, .nil⟩
  | [], _ :: _, h => by cases h.1
  | _ :: _, [], h => by cases h.1
  | p :: r, q :: t, h => by
    have h1 : q.1 = kZ p.1 ∧ t.map (·.1) = r.map (fun p => Sum.inl p.1) := by simpa [kZ] using h.1
    have h2 := h.2
    simp only [List.map_cons] at h2
    cases h2 with
    | cons h3 h4 =>
      obtain ⟨i1, i2⟩ := KZ.mapPut (k := k) hv ⟨h1.2, h4⟩
      by_cases e : p.1 = k
      · have e' : q.1 = kZ k := by rw [h1.1, e]
        refine ⟨?_, ?_⟩
        · simp only [List.map_cons, if_pos e, if_pos e']; exact congr (congrArg List.cons h1.1) i1
        · simp only [List.map_cons, if_pos e, if_pos e']; exact .cons hv i2
      · have e' : ¬ q.1 = kZ k := fun z => e (kZ_inj (h1.1.symm.trans z))
        refine ⟨?_, ?_⟩
        · simp only [List.map_cons, if_neg e, if_neg e']; exact congr (congrArg List.cons h1.1) i1
        · simp only [List.map_cons, if_neg e, if_neg e']; exact .cons h3 i2
theorem KZ.put {k : Int} {d : D} {v : V} (hv : RV K g ρ H d v) {kvs : List (Int × D)} {ws : List (Key × V)} (h : KZ K g ρ H kvs ws) : KZ K g ρ H (putZ kvs k d) (putK ws (kZ k) v) := by
  unfold putZ putK
  obtain ⟨g1, g2⟩ := h.get k
  have ha := valV_any (kZ k) ws
  cases e : getZ kvs k with
  | none =>
    rw [g2 e] at ha
    rw [if_neg (by simp), if_neg (by rw [ha]; simp)]
    refine ⟨?_, ?_⟩
    · rw [List.map_append, List.map_append, h.1]; rfl
    · rw [List.map_append, List.map_append]; exact h.2.append (.cons hv .nil)
  | some d0 =>
    obtain ⟨v0, e0, _⟩ := g1 d0 e
    rw [e0] at ha
    rw [if_pos (by simp), if_pos (by rw [ha]; simp)]
    exact h.mapPut hv
theorem KZ.len {kvs : List (Int × D)} {ws : List (Key × V)} (h : KZ K g ρ H kvs ws) : ws.length = kvs.length := by
  have := congrArg List.length h.1
  simpa using this
end
section
variable {X : Cx} {g : Gm} {W : WX} {a b c e : Expr} {es : List Expr} {fa fb fc : Sl → Mu → R D} {pos : Pos}
end
end Ev
namespace Ev
open PySem PySem.Spec PyProof.Rows L2
section
variable {prog : Program} {w : World} {A : Around} {E : Value → Shared → Prop} {s : Shared}
end
section
open PySem.W (DilG SortsAt)
variable {prog : Program} {w : World} {A : Around} {E : Value → Shared → Prop} {s : Shared}
inductive LP (h : Heap) : List (Int × D) → List V → List Addr → Prop
  | nil : LP h [] [] []
  | cons {k : Int} {d : D} {v : V} {a : Addr} {t : Tok} {u : Value} {kvs : List (Int × D)} {vs : List V} {as : List Addr} : h.get? a = some { cls := .type "tuple", data := .seq #[.int k t, u] } → RelV v u → LP h kvs vs as → LP h ((k, d) :: kvs) (v :: vs) (a :: as)
section
variable {X : Cx} {g : Gm} {ρ : Rh} {m : Mu} {pins : List (Addr × Obj)} {σ : L2.St} {tk : Nat} {h' : Heap}
end
end
section
variable {X : Cx} {g : Gm} {W : WX} {fa : Sl → Mu → R D} {p pos apos cpos : Pos} {a : Expr}
end
end Ev
namespace Ev
open PySem PySem.Spec PyProof.Rows L2
section
variable {X : Cx} {g : Gm} {W : WX} {a b c e : Expr} {es : List Expr} {fa fb fc : Sl → Mu → R D} {pos : Pos}
end
end Ev
namespace Ev
open PySem PySem.Spec PyProof.Rows L2
section
variable {prog : Program} {w : World} {A : Around} {R : Result → Shared → Prop} {I : Addr} {fp wr : List Addr} {G : Array GenState → Array GenState → Prop} {n : Nat} {P : Nat → Value → Prop} {St : Nat → Shared → Prop}
end
section
variable {prog : Program} {w : World} {A : Around} {E : Value → Shared → Prop} {s : Shared}
end
section
variable {X : Cx} {g : Gm} {W : WX} {a : Expr} {fa : Sl → Mu → R D} {pos q p p2 : Pos}
end
end Ev
namespace Ev
open PySem PySem.Spec PyProof.Rows L2
theorem d_dictSetT {X : Cx} {pins : List (Addr × Obj)} {σ : L2.St} {H : Hp} {s : Shared} {E : Value → Shared → Prop} {D b : Addr} {kvs : List (List Key × V)} {k : List Key} {v : V} {u r : Value} {Q : Unit → Shared → Prop} (hu : X.A.units + 1 < cLine) (I : Inv X pins σ H s) (hD : H D = some (.dT kvs)) (eb : H b = some (.tup (k.map kV))) (hz : kvs.length < sizeLine)
    (ry : RelV (.ref b) u) (rv : RelV v r) (h : ∀ s', Inv X pins σ (upd H D (.dT (putK kvs k v))) s' → Q () s') : wpAny (model X.prog X.w) X.A (dictSet D u r) Q E s := by
  cases (show u = Value.ref b from ry)
  obtain ⟨z, hd, xs, rel, dd⟩ := dt_of I.hok hD
  have hzv : xs.length ≤ sizeLine := by rw [← Paired.length rel]; exact z
  have hl : (putK kvs k v).length ≤ sizeLine := by have := length_putK kvs k v; omega
  refine wpAny_dictSet_heap (hsz := hzv) (show X.A.units < cLine by omega) (key_of I.hok eb) dd fun h' dd' hs => h _ ?_
  obtain ⟨q, es, ep, hq, h2, h3, h4, _, h5⟩ := dd'
  refine d_write I (by rw [hD]; exact True.intro) hs ⟨q, hq⟩ ⟨hl, hd, _, (rel.put k eb rv).keeps fun c ys ec => ?_, q, es, ep, hq, h2, h3, h4, h5⟩
  rw [upd_ne (ne_of ec hD (fun z => nomatch z))]
  exact ec
section
variable {X : Cx}
def tDcT (wi : TI) (g : TG) (tt : TT) (tk tv : TE) (vs : List Nat) : TE := fun σ H Q => wi σ H fun J H1 => ∀ D, H1 D = none → ∃ W : Nat → Nat → Hp → Prop, (∃ m, W 0 m (upd H1 D (.dT []))) ∧ ∀ i m H, W i m H →
  (J.stop i H ∧ Q (.ref D) H) ∨ (J.go i H ∧ ∃ Nx : Hp → Prop, (∀ H', Nx H' → ∃ m', m' < m ∧ W (i + 1) m' H') ∧ ∀ x H', J.yld i H x H' → g x (wipe σ vs) H' fun σ2 H2 => wipe σ2 vs = wipe σ vs ∧ tt σ2 H2 fun b H3 =>
    if b = true then tk σ2 H3 fun y H4 => tv σ2 H4 fun z H5 => ∃ kvs k b, y = .ref b ∧ H5 b = some (.tup (k.map kV)) ∧ H5 D = some (.dT kvs) ∧ kvs.length < sizeLine ∧ Nx (upd H5 D (.dT (putK kvs k z))) else Nx H3)
theorem dcT_core {pins : List (Addr × Obj)} {s : Shared} {σ : L2.St} {H : Hp} {Q : VK} {kx vx tg iter : Expr} {ifs : List Expr} {scope : Scope} {own : List (Str × Nat)} {pos pos' : Pos} {wi : TI} {g : TG} {tt : TT} {tk tv : TE} {use : Option (Value → Sem Unit)} {Qf : Value → Shared → Prop}
    (hu : X.A.units + 1 < cLine) (hc : X.calm = true) (hN : X.N.Nodup) (I : Inv X pins σ H s) (hi : PI X tg iter wi) (ok : BlkOk X.N X.env.scope scope own)
    (hg : ∀ (s : Shared) (H : Hp) (C : Addr) (cl : List (Str × Addr)) (fp : List Addr), PG (X.blk s H scope (compEnvC scope cl C X.env) fp) tg g) (ht : ∀ (s : Shared) (H : Hp) (C : Addr) (cl : List (Str × Addr)) (fp : List Addr), PTs (X.blk s H scope (compEnvC scope cl C X.env) fp) ifs tt)
    (hk : ∀ (s : Shared) (H : Hp) (C : Addr) (cl : List (Str × Addr)) (fp : List Addr), PE (X.blk s H scope (compEnvC scope cl C X.env) fp) kx tk)
    (he : ∀ (s : Shared) (H : Hp) (C : Addr) (cl : List (Str × Addr)) (fp : List Addr), PE (X.blk s H scope (compEnvC scope cl C X.env) fp) vx tv) (hs : ∀ x, foldedSetIterable iter X.env x = pure x)
    (h : tDcT wi g tt tk tv (own.map (·.2)) σ H Q)
    (hRR : ∀ D C s' m H', Inv X pins σ H' s' → Q (.ref D) H' → s'.heap.Ns C m → FpOk X pins H' C → compPost (model X.prog X.w) X.A X.xe use Qf (.ref D) C (.ok .next) s') :
    wpAny (model X.prog X.w) X.A (comprehension (.DictComp kx vx [⟨tg, iter, ifs, 0⟩] scope pos) scope X.env pos' newDict false (eval iter X.env) use) Qf X.xe s := by
  have hfree : ∀ y ∈ scope.names, y.2 = .free → ∃ c, X.env.cells.lookup y.1 = some c := fun y hy e => by
    rcases ok.free y hy e with k | k
    · exact I.ok.has _ (.inl k)
    · exact I.ok.has _ (.inr k)
  refine wpAny_comprehension_free (use := use) rfl hs (closure_ok hfree) ok.kind (fun y hy e => by rw [ok.uniq y hy, e])
    (thn (hi.run pins s σ H _ I h) fun xv s1 hx => thn hx fun itv s2 h2 => ?_)
  obtain ⟨it, fp, tn, J, H2, e, I2, T, st2, f2, q⟩ := h2
  subst e
  refine wpAny_newObj_type (newEnv_comp ?_)
  generalize hD : s2.heap.objs.size = D
  have hDn : H2 D = none := I2.hok.fresh (Nat.le_of_eq hD)
  obtain ⟨W, ⟨m0, w0⟩, turn⟩ := q D hDn
  -- the new list
  generalize hs3 : ({ s2 with heap := s2.heap.push { cls := .type "dict", data := .dict #[] } } : Shared) = s3
  have I3 : Inv X pins σ (upd H2 D (.dT [])) s3 := by
    rw [← hs3]
    refine I2.laid (t' := s2.toks) (fun b o e => Heap.get?_push_of_some _ e) (Nat.le_of_eq hD) ?_
    rw [← hD]
    exact dt_empty s2.heap I2.big
  have h3 : s3.heap = s2.heap.push { cls := .type "dict", data := .dict #[] } := by rw [← hs3]
  have sz : ∀ b ∈ fp, b < s2.heap.objs.size := fun b hb => by
    obtain ⟨o, e, _⟩ := T.obj _ _ st2 b hb
    exact Heap.lt_size e
  have f3 : ∀ b ∈ fp, FpOk X pins (upd H2 D (.dT [])) b ∧ b < s3.heap.objs.size := fun b hb => by
    have hlt := sz b hb
    refine ⟨⟨?_, (f2 b hb).2⟩, by rw [h3, Heap.size_push]; exact Nat.lt_succ_of_lt hlt⟩
    rw [upd_ne (by rw [← hD]; exact Nat.ne_of_lt hlt)]
    exact (f2 b hb).1
  have st3 : tn 0 s3.heap := T.keep _ _ _ st2 fun b _ o e => by rw [h3]; exact Heap.get?_push_of_some _ e
  have I4 := block_start I3 ok hN f3
  have pg := hg s3 (upd H2 D (.dT [])) s3.heap.objs.size (cellsFrom (s3.heap.objs.size + 1) scope.names (cloFrom X.env.cells scope.names [])) fp
  have pt := ht s3 (upd H2 D (.dT [])) s3.heap.objs.size (cellsFrom (s3.heap.objs.size + 1) scope.names (cloFrom X.env.cells scope.names [])) fp
  have pk := hk s3 (upd H2 D (.dT [])) s3.heap.objs.size (cellsFrom (s3.heap.objs.size + 1) scope.names (cloFrom X.env.cells scope.names [])) fp
  have pe := he s3 (upd H2 D (.dT [])) s3.heap.objs.size (cellsFrom (s3.heap.objs.size + 1) scope.names (cloFrom X.env.cells scope.names [])) fp
  show codeAny _ _ (.compStart (.DictComp kx vx [⟨tg, iter, ifs, 0⟩] scope pos) 0 (.ref it) (.ref D) (compEnvC scope (cellsFrom (s3.heap.objs.size + 1) scope.names (cloFrom X.env.cells scope.names [])) s3.heap.objs.size X.env)) (compPost (model X.prog X.w) X.A X.xe use Qf (.ref D) s3.heap.objs.size) { s3 with heap := pushCells (s3.heap.push { cls := .type "dict", data := .dict #[] }) scope.names }
  have nfp : ∀ b ∈ fp, (upd H2 D (.dT [])) b = none := fun b hb => (f3 b hb).1.1
  generalize hce : compEnvC scope (cellsFrom (s3.heap.objs.size + 1) scope.names (cloFrom X.env.cells scope.names [])) s3.heap.objs.size X.env = ce at I4 pg pt pk pe ⊢
  have cL : ce.locals = s3.heap.objs.size := by subst hce; rfl
  generalize hH3 : upd H2 D (.dT []) = H3 at I3 I4 pg pt pk pe w0 nfp f3
  generalize hs4 : ({ s3 with heap := pushCells (s3.heap.push { cls := .type "dict", data := .dict #[] }) scope.names } : Shared) = s4 at I4 ⊢
  have st4 : tn 0 s4.heap := T.keep _ _ _ st3 fun b _ o e => by rw [← hs4]; exact pushCells_keeps _ _ _ _ (Heap.get?_push_of_some _ e)
  have stat : ∀ {σ' : L2.St} {H' : Hp} {s' : Shared}, Inv (X.blk s3 H3 scope ce fp) [] σ' H' s' → (∀ b ∈ fp, H' b = none) → ∀ b ∈ fp, FpOk (X.blk s3 H3 scope ce fp) [] H' b := fun {σ' H' s'} I' hn b hb =>
    ⟨hn b hb, (I'.ok.exf b hb).1, I'.ok.exfs b hb, .inl hb, fun x c e => (I'.ok.exf b hb).2 x c e, fun p hp => absurd (show p ∈ ([] : List (Addr × Obj)) ++ [] from hp) (by simp)⟩
  have loop : codeAny (model X.prog X.w) X.A (.compLoop (.DictComp kx vx [⟨tg, iter, ifs, 0⟩] scope pos) 0 (.ref it) (.ref D) ce) (compPost (model X.prog X.w) X.A X.xe use Qf (.ref D) s3.heap.objs.size) s4 := by
    refine compLoop_anyD (fun n s' => ∃ i H', Inv (X.blk s3 H3 scope ce fp) [] (wipe σ (own.map (·.2))) H' s' ∧ tn i s'.heap ∧ (∀ b ∈ fp, H' b = none) ∧ W i n H') ?_ m0 ⟨0, H3, I4, st4, nfp, w0⟩
    rintro n s5 ⟨i, H5, I5, st5, n5, w5⟩
    rcases turn i n H5 w5 with ⟨stop, qq⟩ | ⟨go, Nx, hNx, step⟩
    · have td := T.done (X.blk s3 H3 scope ce fp) rfl rfl rfl hc i [] s5 _ H5 (fun _ _ => False) I5 (stat I5 n5) st5 stop
      refine thnF td fun r s6 ⟨hr, I6⟩ => ?_
      subst hr
      -- back in the def's context
      have I7 : Inv X pins σ H5 s6 := I3.call' (ch := fp) I6.os I6.base I6.hok I6.bare fun b hb => ⟨(f3 b hb).1.2.2.2.1, (f3 b hb).1.2.1, (f3 b hb).1.2.2.2.2.1, (f3 b hb).1.2.2.2.2.2⟩
      have nC : H5 s3.heap.objs.size = none := by
        have z : H5 ce.locals = none := I6.free
        rw [cL] at z
        exact z
      obtain ⟨m, hn, _⟩ := I6.loc
      have hn : s6.heap.Ns ce.locals m := hn
      rw [cL] at hn
      exact hRR D s3.heap.objs.size s6 m H5 I7 qq hn (I3.fpOk (Nat.le_refl _) nC)
    · have ti := T.item (X.blk s3 H3 scope ce fp) rfl rfl rfl hc i [] s5 _ H5 (fun _ _ => False) I5 (stat I5 n5) st5 go
      refine thnF ti fun r s6 ⟨u, hr, h6⟩ => ?_
      subst hr
      refine thnF h6 fun _ s7 ⟨x, H7, I7, r7, y7, st7, n7⟩ => ?_
      have I7' := I7.pinned (stat I7 n7) (T.obj _ _ st7)
      refine thnF (pg.run _ s7 _ H7 x u _ I7' r7 (step x H7 y7)) fun _ s8 ⟨σ8, H8, I8, hw8, q8⟩ => ?_
      refine thnF (pt.run _ s8 σ8 H8 _ I8 q8) fun b s9 ⟨H9, I9, q9⟩ => ?_
      -- the turn's end
      have fin : ∀ {s' : Shared} {H' : Hp}, Inv (X.blk s3 H3 scope ce fp) ([] ++ pinsAt fp s7.heap) σ8 H' s' → Nx H' → ∃ m, m < n ∧ ∃ i H', Inv (X.blk s3 H3 scope ce fp) [] (wipe σ (own.map (·.2))) H' s' ∧ tn i s'.heap ∧ (∀ b ∈ fp, H' b = none) ∧ W i m H' := fun {s' H'} I' nx => by
        obtain ⟨m', hm, w'⟩ := hNx H' nx
        have pin' : ∀ b ∈ fp, ∀ o, s7.heap.get? b = some o → s'.heap.get? b = some o ∧ H' b = none := fun b hb o e =>
          let z := I'.pin (b, o) (List.mem_append_right _ (List.mem_append_right _ (mem_pinsAt hb e)))
          ⟨z.1, z.2.1⟩
        have hl : (wipe σ (own.map (·.2))).length = σ8.length := by rw [← hw8, wipe_length]
        refine ⟨m', hm, i + 1, H', (I'.unpinned (pins := [])).weak hl (fun j v e => ?_), T.keep _ _ _ st7 fun b hb o e => (pin' b hb o e).1, fun b hb => ?_, w'⟩
        · rw [← hw8] at e
          exact (wipe_some e).1
        · obtain ⟨o, e, _⟩ := T.obj _ _ st7 b hb
          exact (pin' b hb o e).2
      cases b with
      | false =>
        simp only [Bool.false_eq_true, if_false] at q9 ⊢
        exact fin I9 q9
      | true =>
        simp only [if_true] at q9 ⊢
        refine thnF (pk.run _ s9 σ8 H9 _ I9 q9) fun z s10 ⟨yk, H10, I10, r10, q10⟩ => ?_
        refine thnF (pe.run _ s10 σ8 H10 _ I10 q10) fun z2 s11 ⟨yv, H11, I11, r11, kvs, k, b, ek, eb, hD11, hz11, nx⟩ => ?_
        subst ek
        exact d_dictSetT (X := X.blk s3 H3 scope ce fp) hu I11 hD11 eb hz11 r10 r11 fun s12 I12 => fin I12 nx
  exact codeAny_compStart_dict loop (T.self X.A 0 _ _ _ st4 loop)
end
theorem KR.grow {K : PySem.W.Frag} {g : Gm} {ρ ρ' : Rh} {H H' : Hp} (G : Grow ρ H ρ' H') {kvs : List (List Int × D)} {ws : List (List Key × V)} (h : KR K g ρ H kvs ws) : KR K g ρ' H' kvs ws := ⟨h.1, h.2.grow G⟩
section
variable {X : Cx} {g : Gm} {W : WX} {pos : Pos}
end
end Ev
namespace Ev
open PySem PySem.Spec PyProof.Rows L2
section
variable {X : Cx} {K : PySem.W.Frag} {g : Gm} {ρ : Rh} {pins : List (Addr × Obj)} {σ : L2.St} {H : Hp} {s : Shared}
mutual
theorem RV.nk (hK : X.K = K) (I : Inv X pins σ H s) : ∀ {d : D} {v : V}, RV K g ρ H d v → ∀ {u : Value} {k : NestedKey}, RelV v u → nkD d = some k → NestedIs s.heap k u
  | _, _, .non, u, k, r, e => by cases r; simp [nkD] at e; subst e; exact .none
  | _, _, .bl b, u, k, r, e => by cases r; simp only [nkD, Option.some.injEq] at e; subst e; exact .bool rfl
  | _, _, .int i, u, k, r, e => by obtain ⟨t, rfl⟩ := r; simp [nkD] at e; subst e; exact .int _ _
  | _, _, .str x, u, k, r, e => by obtain ⟨t, rfl⟩ := r; simp [nkD] at e; subst e; exact .text _ _
  | _, _, .tup (a := a) hs hr, u, k, r, e => by
    simp only [nkD, Option.map_eq_some_iff] at e
    obtain ⟨ks, e1, rfl⟩ := e
    cases (show u = Value.ref a from r)
    obtain ⟨its, rel, ⟨o, ho, hc, n, hd⟩, _⟩ := I.tuple (by rw [hK]; exact hs.1)
    exact .tup ho hc hd (by simpa using RVs.nk hK I hr rel e1)
  | _, _, .lst _ _ _, u, k, r, e => by simp [nkD] at e
  | _, _, .scr _, u, k, r, e => by simp [nkD] at e
  | _, _, .dct _ _, u, k, r, e => by simp [nkD] at e
  | _, _, .ref _, u, k, r, e => by simp [nkD] at e
  | _, _, .fn _, u, k, r, e => by simp [nkD] at e
  | _, _, .cls _, u, k, r, e => by simp [nkD] at e
  | _, _, .ty _, u, k, r, e => by simp [nkD] at e
  | _, _, .xo0 _ _ _, u, k, r, e => by simp [nkD] at e
  | _, _, .xo1 _ _ _ _ _ _ _ _, u, k, r, e => by simp [nkD] at e
  | _, _, .dks _ _ _ _ _ _, u, k, r, e => by simp [nkD] at e
  | _, _, .tts _ _ _ _, u, k, r, e => by simp [nkD] at e
  | _, _, .lam _ _ _ _ _, u, k, r, e => by simp [nkD] at e
  | _, _, .dcn _ _ _ _ _ _ _ _ _, u, k, r, e => by simp [nkD] at e
theorem RVs.nk (hK : X.K = K) (I : Inv X pins σ H s) : ∀ {ds : List D} {vs : List V}, RVs K g ρ H ds vs → ∀ {us : List Value} {ks : List NestedKey}, Vals vs us → nkDs ds = some ks → NestedAll s.heap ks us
  | _, _, .nil, us, ks, r, e => by cases r; simp [nkDs] at e; subst e; exact .nil
  | _, _, .cons h t, us, ks, r, e => by
    simp only [nkDs] at e
    split at e
    · rename_i a l h1 h2
      cases e
      cases r with
      | cons r1 r2 => exact .cons (RV.nk hK I h r1 h1) (RVs.nk hK I t r2 h2)
    · cases e
end
theorem RV.keyV {d : D} {v : V} {k : NestedKey} (h : RV K g ρ H d v) (e : keyN d = some k) : ∃ b, v = .ref b := by
  cases h <;> simp [keyN] at e
  exact ⟨_, rfl⟩
theorem RV.key {d : D} {b : Addr} {k : NestedKey} (hK : X.K = K) (h : RV K g ρ H d (.ref b)) (e : keyN d = some k) (I : Inv X pins σ H s) : (nestedKind X.prog X.w).is s.heap k b := by
  unfold keyN at e
  split at e
  · rename_i xs
    simp only [Option.bind_eq_some_iff] at e
    obtain ⟨ks, e1, e2⟩ := e
    split at e2
    · rename_i hd
      cases e2
      exact ⟨RV.nk hK I h rfl (by simp only [nkD, e1, Option.map_some]), hd⟩
    · cases e2
  · cases e
structure KN (K : PySem.W.Frag) (g : Gm) (ρ : Rh) (H : Hp) (kvs : List (D × D)) (xs : List (NestedKey × Addr × Value)) : Prop where
  k : kvs.map (fun p => keyN p.1) = xs.map (fun x => some x.1)
  a : RVs K g ρ H (kvs.map (·.1)) (xs.map fun x => V.ref x.2.1)
  v : ∃ vs, RVs K g ρ H (kvs.map (·.2)) vs ∧ Vals vs (xs.map (·.2.2))
theorem KN.nil : KN K g ρ H [] [] := ⟨rfl, .nil, [], .nil, .nil⟩
theorem KN.len {kvs : List (D × D)} {xs : List (NestedKey × Addr × Value)} (h : KN K g ρ H kvs xs) : kvs.length = xs.length := by
  have := congrArg List.length h.k
  simpa using this
theorem KN.uncons {p : D × D} {kvs : List (D × D)} {x : NestedKey × Addr × Value} {xs : List (NestedKey × Addr × Value)} (h : KN K g ρ H (p :: kvs) (x :: xs)) :
    keyN p.1 = some x.1 ∧ RV K g ρ H p.1 (.ref x.2.1) ∧ (∃ v, RV K g ρ H p.2 v ∧ RelV v x.2.2) ∧ KN K g ρ H kvs xs := by
  obtain ⟨h1, h2, vs, h3, h4⟩ := h
  simp only [List.map_cons, List.cons.injEq] at h1 h2 h3 h4
  cases h2 with
  | cons a1 a2 =>
    cases h3 with
    | cons b1 b2 =>
      cases h4 with
      | cons c1 c2 => exact ⟨h1.1, a1, ⟨_, b1, c1⟩, h1.2, a2, _, b2, c2⟩
theorem KN.cons {p : D × D} {kvs : List (D × D)} {x : NestedKey × Addr × Value} {xs : List (NestedKey × Addr × Value)} (h1 : keyN p.1 = some x.1) (h2 : RV K g ρ H p.1 (.ref x.2.1)) (h3 : ∃ v, RV K g ρ H p.2 v ∧ RelV v x.2.2) (h4 : KN K g ρ H kvs xs) : KN K g ρ H (p :: kvs) (x :: xs) := by
  obtain ⟨v, a, b⟩ := h3
  obtain ⟨vs, c, d⟩ := h4.v
  exact ⟨by simp only [List.map_cons, h1, h4.k], .cons h2 h4.a, v :: vs, .cons a c, .cons b d⟩
theorem KN.is (hK : X.K = K) (I : Inv X pins σ H s) : ∀ {kvs : List (D × D)} {xs : List (NestedKey × Addr × Value)}, KN K g ρ H kvs xs → ∀ x ∈ xs, (nestedKind X.prog X.w).is s.heap x.1 x.2.1
  | [], [], _, x, hx => by cases hx
  | [], _ :: _, h, _, _ => by have := h.len; cases this
  | _ :: _, [], h, _, hx => by cases hx
  | p :: kvs, y :: xs, h, x, hx => by
    obtain ⟨a, b, _, d⟩ := h.uncons
    rcases List.mem_cons.mp hx with e | hx
    · subst e; exact RV.key hK b a I
    · exact KN.is hK I d x hx
theorem atKey_cons {p : NestedKey × Addr × Value} {xs : List (NestedKey × Addr × Value)} {k : NestedKey} : atKey (p :: xs) k = if p.1 = k then some p.2 else atKey xs k := by
  unfold atKey
  rw [List.find?_cons]
  by_cases h : p.1 = k
  · simp [h]
  · simp [h]
theorem KN.get (k : NestedKey) : ∀ {kvs : List (D × D)} {xs : List (NestedKey × Addr × Value)}, KN K g ρ H kvs xs →
    (∀ d, getP kvs k = some d → ∃ v p, atKey xs k = some p ∧ RelV v p.2 ∧ RV K g ρ H d v) ∧ (getP kvs k = none → atKey xs k = none)
  | [], [], _ => ⟨fun d e => (by cases e), fun _ => rfl⟩
  | [], _ :: _, h => by have := h.len; cases this
  | _ :: _, [], h => by have := h.len; cases this
  | p :: kvs, y :: xs, h => by
    obtain ⟨a, b, ⟨v, c1, c2⟩, d⟩ := h.uncons
    obtain ⟨i1, i2⟩ := KN.get k d
    rw [atKey_cons]
    simp only [getP, a, Option.some.injEq]
    by_cases e : y.1 = k
    · rw [if_pos e, if_pos e]
      exact ⟨fun d hd => by cases hd; exact ⟨v, y.2, rfl, c2, c1⟩, fun hd => by cases hd⟩
    · rw [if_neg e, if_neg e]
      exact ⟨i1, i2⟩
theorem KN.mapPut {k : NestedKey} {d : D} {v : V} {u : Value} (hv : RV K g ρ H d v) (hu : RelV v u) : ∀ {kvs : List (D × D)} {xs : List (NestedKey × Addr × Value)}, KN K g ρ H kvs xs → KN K g ρ H (kvs.map fun p => if keyN p.1 = some k then (p.1, d) else p) (xs.map (putAt k u))
  | [], [], _ => .nil
  | [], _ :: _, h => by have := h.len; cases this
  | _ :: _, [], h => by have := h.len; cases this
  | p :: kvs, y :: xs, h => by
    obtain ⟨a, b, c, q⟩ := h.uncons
    have ih := KN.mapPut (k := k) hv hu q
    simp only [List.map_cons]
    unfold putAt
    by_cases e : y.1 = k
    · rw [if_pos (by rw [a, e]), if_pos e]
      exact .cons a b ⟨v, hv, hu⟩ ih
    · rw [if_neg (by rw [a]; exact fun z => e (Option.some.inj z)), if_neg e]
      exact .cons a b c ih
theorem KN.snoc {y d : D} {k : NestedKey} {b : Addr} {v : V} {u : Value} (hy : keyN y = some k) (hb : RV K g ρ H y (.ref b)) (hv : RV K g ρ H d v) (hu : RelV v u) : ∀ {kvs : List (D × D)} {xs : List (NestedKey × Addr × Value)}, KN K g ρ H kvs xs → KN K g ρ H (kvs ++ [(y, d)]) (xs ++ [(k, b, u)])
  | [], [], _ => .cons hy hb ⟨v, hv, hu⟩ .nil
  | [], _ :: _, h => by have := h.len; cases this
  | _ :: _, [], h => by have := h.len; cases this
  | p :: kvs, z :: xs, h => by
    obtain ⟨a, b, c, q⟩ := h.uncons
    exact .cons a b c (KN.snoc hy hb hv hu q)
theorem KN.put {y d : D} {k : NestedKey} {b : Addr} {v : V} {u : Value} (hy : keyN y = some k) (hb : RV K g ρ H y (.ref b)) (hv : RV K g ρ H d v) (hu : RelV v u) {kvs : List (D × D)} {xs : List (NestedKey × Addr × Value)} (h : KN K g ρ H kvs xs) : KN K g ρ H (putP kvs y k d) (storedH xs k b u) := by
  unfold putP storedH
  obtain ⟨g1, g2⟩ := h.get k
  cases e : getP kvs k with
  | none => rw [g2 e, if_neg (by simp), if_neg (by simp)]; exact h.snoc hy hb hv hu
  | some d0 =>
    obtain ⟨v0, p0, e0, _⟩ := g1 d0 e
    rw [e0, if_pos (by simp), if_pos (by simp)]
    exact h.mapPut hv hu
theorem putP_len (kvs : List (D × D)) (y : D) (k : NestedKey) (d : D) : (putP kvs y k d).length ≤ kvs.length + 1 := by
  unfold putP
  split <;> simp
theorem storedH_nodup {xs : List (NestedKey × Addr × Value)} {k : NestedKey} {b : Addr} {u : Value} (h : (xs.map (·.1)).Nodup) : ((storedH xs k b u).map (·.1)).Nodup := by
  unfold storedH
  split
  · rw [keys_map_putAt]; exact h
  · rename_i q
    rw [List.map_append, List.nodup_append]
    refine ⟨h, by simp, fun a ha c hc e => ?_⟩
    have hc : c = k := by simpa using hc
    rw [e, hc] at ha
    obtain ⟨x, hx, hk⟩ := List.mem_map.mp ha
    refine q ?_
    unfold atKey
    rw [Option.isSome_map, List.find?_isSome]
    exact ⟨x, hx, by simpa using hk⟩
theorem KN.grow {ρ' : Rh} {H' : Hp} (G : Grow ρ H ρ' H') {kvs : List (D × D)} {xs : List (NestedKey × Addr × Value)} (h : KN K g ρ H kvs xs) : KN K g ρ' H' kvs xs := ⟨h.k, h.a.grow G, let ⟨vs, a, b⟩ := h.v; ⟨vs, a.grow G, b⟩⟩
theorem KN.under {p : Addr} {o : HO} (hp : p ∈ ρ.hd) (hm : MutL (H p)) {kvs : List (D × D)} {xs : List (NestedKey × Addr × Value)} (h : KN K g ρ H kvs xs) : KN K g ρ (upd H p o) kvs xs := ⟨h.k, h.a.under hp hm, let ⟨vs, a, b⟩ := h.v; ⟨vs, a.under hp hm, b⟩⟩
theorem KN.unhide {p : Addr} {kvs : List (D × D)} {xs : List (NestedKey × Addr × Value)} (h : KN K g (ρ.hide p) H kvs xs) : KN K g ρ H kvs xs := ⟨h.k, h.a.unhide, let ⟨vs, a, b⟩ := h.v; ⟨vs, a.unhide, b⟩⟩
theorem dn_of {a : Addr} {xs : List (NestedKey × Addr × Value)} (I : Inv X pins σ H s) (e : H a = some (DnO X.w.params a xs)) (nd : (xs.map (·.1)).Nodup) (his : ∀ x ∈ xs, (nestedKind X.prog X.w).is s.heap x.1 x.2.1) : s.heap.DictOfH (nestedKind X.prog X.w) a xs := by
  obtain ⟨⟨o, es, ep, h1, h2, h3, h4⟩, _, _⟩ := I.hok a _ e
  refine ⟨o, es, ep, h1, h2, h3, ?_, his, nd⟩
  rw [h4]
  refine List.map_congr_left fun x _ => ?_
  show (⟨hsP X.w.params x.1, .ref x.2.1, x.2.2⟩ : DictEntry) = ⟨x.1.hash X.w, .ref x.2.1, x.2.2⟩
  rw [hsP_eq]
theorem dn_ok {P : Program} {w : World} {a : Addr} {h : Heap} {xs : List (NestedKey × Addr × Value)} (d : h.DictOfH (nestedKind P w) a xs) : ObjOk P w H h a (DnO w.params a xs) := by
  obtain ⟨o, es, ep, h1, h2, h3, h4, _, _⟩ := d
  refine ⟨⟨o, es, ep, h1, h2, h3, ?_⟩, ⟨o, h1⟩, fun k1 k2 ⟨o, es, ep, a1, a2, a3, a4⟩ st => ⟨o, es, ep, st _ a1, a2, a3, a4⟩⟩
  rw [h4]
  refine List.map_congr_left fun x _ => ?_
  show (⟨x.1.hash w, .ref x.2.1, x.2.2⟩ : DictEntry) = ⟨hsP w.params x.1, .ref x.2.1, x.2.2⟩
  rw [hsP_eq]
theorem dn_empty {P : Program} {w : World} (h : Heap) : ObjOk P w H (h.push { cls := .type "dict", data := .dict #[] }) h.objs.size (DnO w.params h.objs.size []) := dn_ok (Heap.DictOfH.new h)
def IsDnA (X : Cx) (H : Hp) (a : Addr) : Prop := ∃ xs, H a = some (DnO X.w.params a xs)
theorem isDn_at {a : Addr} (I : Inv X pins σ H s) (d : IsDnA X H a) : s.TypeIs (.ref a) "dict" ∧ (∀ b, Value.ref a = .ref b → ∃ ob, s.heap.get? b = some ob ∧ ob.dict = none) := by
  obtain ⟨xs, e⟩ := d
  obtain ⟨⟨o, es, ep, h1, h2, h3, h4⟩, _, _⟩ := I.hok a _ e
  exact ⟨⟨o, h1, h2.1⟩, fun b q => by cases q; exact ⟨o, h1, h2.2.1⟩⟩
theorem room_in1 {A : Around} (hu : A.units + 9 < cLine) : (nestedKind X.prog X.w).room A.in1 := by
  show A.units + 1 + 8 < cLine
  omega
end
section
variable {X : Cx}
end
theorem RV.dcnOf {K : PySem.W.Frag} {g : Gm} {ρ : Rh} {H : Hp} {a : Addr} {kvs : List (D × D)} {xs : List (NestedKey × Addr × Value)} (h : H a = some (DnO g.pr a xs)) (ho : ρ.out a) (hs : (a == sysModules) = false) (hl : xs.length ≤ sizeLine) (nd : (xs.map (·.1)).Nodup) (k : KN K g ρ H kvs xs) : RV K g ρ H (Ev.dcnOf kvs) (.ref a) := by
  obtain ⟨vs, v1, v2⟩ := k.v
  refine .dcn h ho hs hl nd ?_ k.a v1 v2
  rw [List.map_map]
  exact k.k
section
variable {X : Cx} {g : Gm} {W : WX} {pos : Pos} {a b : Expr} {fa fb : Sl → Mu → R D}
end
end Ev
namespace Ev
open PySem PySem.Spec PyProof.Rows L2
section
variable {K : PySem.W.Frag} {g : Gm} {ρ : Rh} {H : Hp}
end
section
variable {X : Cx} {g : Gm} {W W0 : WX}
end
section
variable {X : Cx} {g : Gm} {W : WX} {pos : Pos}
end
end Ev
namespace Ev
open PySem PySem.Spec PyProof.Rows L2
section
variable {X : Cx} {pins : List (Addr × Obj)} {σ : L2.St} {H : Hp} {s : Shared} {d : Addr} {o : Obj}
end
section
variable {P : Program} {w : World} {K : PySem.W.Frag} {tg : Expr} {d : Addr} {o : Obj} {es : Array DictEntry} {ep : Nat}
end
section
variable {X : Cx} {tg e : Expr} {td : TE} {apos cpos : Pos}
end
section
variable {X : Cx} {g : Gm} {W W0 : WX}
end
section
variable {X : Cx} {g : Gm} {W : WX} {pos : Pos}
end
inductive LPT (H : Hp) (h : Heap) : List (List Int × D) → List V → List Addr → Prop
  | nil : LPT H h [] [] []
  | cons {k : List Int} {d : D} {v : V} {a q : Addr} {u : Value} {kvs : List (List Int × D)} {vs : List V} {as : List Addr} : h.get? a = some { cls := .type "tuple", data := .seq #[.ref q, u] } → H q = some (.tup (k.map V.int)) → RelV v u → LPT H h kvs vs as → LPT H h ((k, d) :: kvs) (v :: vs) (a :: as)
section
variable {X : Cx} {g : Gm} {ρ : Rh} {m : Mu} {pins : List (Addr × Obj)} {σ : L2.St} {s : Shared} {tk : Nat} {h' : Heap}
end
section
variable {X : Cx} {g : Gm} {W : WX} {fa : Sl → Mu → R D} {p pos apos cpos : Pos} {a : Expr}
end
end Ev
namespace Ev
open PySem PySem.SeqAt PySem.Calls PyProof.Rows L2
open PySem.W (EachIs Looks)
section
variable {prog : Program} {w : World} {A : Around} {E : Value → Shared → Prop} {s : Shared}
end
section
variable {X : Cx} {g : Gm} {W : WX} {a : Expr} {fa : Sl → Mu → R D} {pos : Pos}
end
end Ev
namespace Ev
open PySem PySem.Spec PySem.SeqAt PySem.Calls PyProof.Rows L2
open PySem.W (EachIs Looks)
section
variable {X : Cx} {g : Gm} {W : WX} {pins : List (Addr × Obj)} {σ : L2.St} {H : Hp} {s : Shared}
theorem dcm_rv {ρ : Rh} {m : Mu} (R : Rel X.K g ρ m H) {d : D} {v : V} {kvs : List (D × D)} (h : RV X.K g ρ H d v) (e : dcmD m d = some kvs) : ∃ i a xs, d = .ref i ∧ m[i]? = some (.dcm kvs) ∧ ρ.lv[i]? = some a ∧ v = .ref a ∧ H a = some (DnO g.pr a xs) ∧ (a == sysModules) = false ∧ xs.length ≤ sizeLine ∧ (xs.map (·.1)).Nodup ∧ KN X.K g ρ H kvs xs := by
  cases h with
  | ref hi =>
    simp only [dcmD] at e
    split at e
    · rename_i kvs' hm
      cases e
      obtain ⟨a, h1, xs, vs, h2, r1, r2, h3, h4, h5, h6, h7⟩ := R.get hm
      rw [hi] at h1; cases h1
      exact ⟨_, _, xs, rfl, hm, hi, rfl, h2, h3, h4, h5, ⟨h6, r1, vs, r2, h7⟩⟩
    · cases e
  | _ => simp [dcmD] at e
theorem pe_dnewN {pos : Pos} : PE X (.Dict [] [] pos) (fun σ H Q => ∀ p, H p = none → (p == sysModules) = false → Q (.ref p) (upd H p (DnO X.w.params p []))) := ⟨fun pins s σ H Q I h =>
  wpAny_Dict_empty ⟨.ref s.heap.objs.size, _, I.laid (a := s.heap.objs.size) (o := DnO X.w.params s.heap.objs.size []) (t' := s.toks) (fun _ _ q => Heap.get?_push_of_some _ q) (Nat.le_refl _) (dn_empty s.heap), rfl, h _ (I.hok.fresh (Nat.le_refl _)) (beq_eq_false_iff_ne.mpr (Nat.ne_of_gt I.big))⟩⟩
theorem r_dmL {pos : Pos} (hpr : X.w.params = g.pr) : PE X (.Dict [] [] pos) (tE X.K g W fun _ m => .ok (.ref m.length) (m ++ [.dcm []])) := by
  refine PE.imp pe_dnewN fun σ H Q h => ?_
  obtain ⟨ρ, m, s, R, E, P⟩ := h
  intro p hp hs
  rw [hpr]
  refine P (ρ.add p) _ _ (Grow.newL hp) (R.newN hp hs) (.ref ?_)
  show (ρ.lv ++ [p])[_]? = _
  rw [R.len, List.getElem?_append_right (Nat.le_refl _), Nat.sub_self]
  rfl
end
section
variable {X : Cx} {g : Gm} {W : WX} {a : Expr} {fa : Sl → Mu → R D} {pos : Pos}
end
end Ev
namespace Ev
open PySem PySem.Spec PySem.SeqAt PySem.Calls PyProof.Rows L2
open PySem.W (EachIs Looks)
section
variable {X : Cx} {g : Gm} {W : WX} {pins : List (Addr × Obj)} {σ : L2.St} {H : Hp} {s : Shared} {a b : Expr} {fa fb : Sl → Mu → R D} {pos : Pos}
theorem d_setdN {A : Around} {E : Value → Shared → Prop} {a b : Addr} {xs : List (NestedKey × Addr × Value)} {k : NestedKey} {u r : Value} {Q : Value → Shared → Prop} (hu : A.units + 9 < cLine) (I : Inv X pins σ H s) (hD : H a = some (DnO X.w.params a xs)) (hs : (a == sysModules) = false) (hz : xs.length < sizeLine) (nd : (xs.map (·.1)).Nodup)
    (hk : (nestedKind X.prog X.w).is s.heap k b ∧ ∀ x ∈ xs, (nestedKind X.prog X.w).is s.heap x.1 x.2.1) (ry : RelV (.ref b) u)
    (h1 : ∀ p, atKey xs k = some p → ∀ s', Inv X pins σ H s' → Q p.2 s') (h2 : atKey xs k = none → ∀ s', Inv X pins σ (upd H a (DnO X.w.params a (storedH xs k b r))) s' → Q r s') :
    wpAny (model X.prog X.w) A (call (.builtin "dict.setdefault") [.ref a, u, r]) Q E s := by
  cases (show u = Value.ref b from ry)
  have dd := dn_of I hD nd hk.2
  refine call_setdefault_heap (room_in1 hu) hk.1 hs dd (fun p hp => h1 p hp _ (I.tok _)) (fun hn h' dd' hs' => h2 hn _ ?_) (Nat.le_of_lt hz)
  have he : ∃ q, h'.get? a = some q := let ⟨q, _, _, hq, _⟩ := dd'; ⟨q, hq⟩
  exact d_write I (by rw [hD]; exact True.intro) hs' he (dn_ok dd')
def tDSetN (X : Cx) (td ty tx : TE) : TE := fun σ H Q => td σ H fun x H1 => ∃ a, x = .ref a ∧ IsDnA X H1 a ∧ ty σ H1 fun y H2 => tx σ H2 fun z H3 => ∃ xs k b, y = .ref b ∧ H3 a = some (DnO X.w.params a xs) ∧ (a == sysModules) = false ∧ xs.length < sizeLine ∧ (xs.map (·.1)).Nodup ∧
  (∀ pins σ s, Inv X pins σ H3 s → (nestedKind X.prog X.w).is s.heap k b ∧ ∀ x ∈ xs, (nestedKind X.prog X.w).is s.heap x.1 x.2.1) ∧ (∀ p, atKey xs k = some p → ∃ v, RelV v p.2 ∧ Q v H3) ∧ (atKey xs k = none → ∀ u, RelV z u → Q z (upd H3 a (DnO X.w.params a (storedH xs k b u))))
theorem pe_dsetN {o e f : Expr} {apos cpos : Pos} {td ty tx : TE} (hu : X.A.units + 9 < cLine) (ho : PE X o td) (he : PE X e ty) (hf : PE X f tx) (m : M2 X o "setdefault" apos e f cpos) : PE X (.Call (.Attribute o "setdefault" apos) [e, f] [] cpos) (tDSetN X td ty tx) := by
  refine ⟨fun pins s σ H Q I h => ?_⟩
  refine wpAny_Call_method m.base m.few m.line PySem.F.plainAttrs_dict PySem.F.slot_dict_setdefault PySem.F.type_dict_setdefault (thn (ho.run pins s σ H _ I h) fun u s1 ⟨x, H1, I1, rx, a, ex, d, q1⟩ => ?_)
  subst ex
  obtain rfl : u = Value.ref a := rx
  obtain ⟨t1, t2⟩ := isDn_at I1 d
  refine ⟨t1, t2, ?_⟩
  rw [m.trees]
  refine Calls.callWith_builtin rfl (Calls.evalArgs_plain (Calls.spliced_cons (thn (he.run pins s1 σ H1 _ I1 q1) fun iv s2 ⟨y, H2, I2, ry, q2⟩ =>
    Calls.spliced_cons (thn (hf.run pins s2 σ H2 _ I2 q2) fun fv s3 ⟨z, H3, I3, rz, xs, k, b, ey, hD, hs, hz, nd, hk, p1, p2⟩ => Calls.spliced_nil ?_))))
  subst ey
  exact d_setdN hu I3 hD hs hz nd (hk _ _ _ I3) ry (fun p hp s4 I4 => let ⟨v, rv, q⟩ := p1 p hp; ⟨v, H3, I4, rv, q⟩) (fun hn s4 I4 => ⟨z, _, I4, rz, p2 hn fv rz⟩)
theorem r_dmsd {apos : Pos} {b2 : Expr} {fd : Sl → Mu → R D} (hpr : X.w.params = g.pr) (hu : X.A.units + 9 < cLine) (ha : PE X a (tE X.K g W fa)) (hb : PE X b (tE X.K g W fb)) (hd : PE X b2 (tE X.K g W fd)) (hp : plainBase a = true) (hst : notStar b = true) (hst2 : notStar b2 = true) (hl : (apos.endLine == pos.line) = true) :
    PE X (.Call (.Attribute a "setdefault" apos) [b, b2] [] pos) (tE X.K g W fun s m => (fa s m).bind fun x m => (opt m (dcmD m x)).bind fun _ m => (fb s m).bind fun y m => (fd s m).bind fun z m => match dmsdF m x y z with
      | some (d, m') => .ok d m'
      | none => .bad) := by
  have hst' : ([b, b2] : List Expr).all notStar = true := by simp [hst, hst2]
  refine PE.imp (pe_dsetN hu ha hb hd ⟨base_plain hp, few_ok hst' (by show 2 < 29; decide), hl, by rw [star_cons hst, star_cons hst2]; rfl⟩) fun σ H Q h => ?_
  obtain ⟨ρ, m, s, R, E, P⟩ := h
  refine ⟨ρ, m, s, R, E, (PostE.first P E).mono ?_⟩
  rintro v H1 ⟨ρ1, m1, d1, G1, R1, E1, V1, P1⟩
  cases e1 : dcmD m1 d1 with
  | none => rw [e1] at P1; exact P1.elim
  | some kvs0 =>
    rw [e1] at P1
    simp only [opt_s, bind_k] at P1
    obtain ⟨i, ad, xs0, rfl, hm0, hi, rfl, c1, c3, c4, c5, V0⟩ := dcm_rv R1 V1 e1
    refine ⟨ad, rfl, ⟨xs0, by rw [hpr]; exact c1⟩, ρ1, m1, s, R1, E1, (PostE.first P1 E1).mono ?_⟩
    rintro v2 H2 ⟨ρ2, m2, d2, G2, R2, E2, V2, P2⟩
    refine ⟨ρ2, m2, s, R2, E2, (PostE.first P2 E2).mono ?_⟩
    rintro v3 H3 ⟨ρ3, m3, d3, G3, R3, E3, V3, P3⟩
    have P3 : PostE X.K g W σ ρ3 H3 Q (match dmsdF m3 (.ref i) d2 d3 with
      | some (d, m') => .ok d m'
      | none => .bad) := P3
    cases ee : dmsdF m3 (.ref i) d2 d3 with
    | none => rw [ee] at P3; exact P3.elim
    | some p =>
      obtain ⟨dr, m'⟩ := p
      rw [ee] at P3
      have P3 : PostE X.K g W σ ρ3 H3 Q (.ok dr m') := P3
      unfold dmsdF at ee
      cases e1 : dcmD m3 (.ref i) with
      | none => rw [e1] at ee; cases ee
      | some kvs =>
        rw [e1] at ee
        cases e2 : keyN d2 with
        | none => rw [e2] at ee; cases ee
        | some k =>
          rw [e2] at ee
          simp only [Option.bind_some] at ee
          have V1' := (V1.grow G2).grow G3
          obtain ⟨i', a', xs, e0, hm', hj, ea, f1, f3, f4, f5, V⟩ := dcm_rv R3 V1' e1
          cases e0
          cases ea
          obtain ⟨b, rfl⟩ := (V2.grow G3).keyV e2
          have hz : xs.length < sizeLine := by
            by_cases hl : kvs.length < sizeLine
            · rw [← V.len]; exact hl
            · rw [if_neg hl] at ee; cases ee
          have hzk : kvs.length < sizeLine := by rw [V.len]; exact hz
          rw [if_pos hzk] at ee
          obtain ⟨g1, g2⟩ := V.get k
          refine ⟨xs, k, b, rfl, by rw [hpr]; exact f1, f3, hz, f5, fun pins σ s I => ⟨RV.key rfl (V2.grow G3) e2 I, KN.is rfl I V⟩, fun p hp => ?_, fun hn u ru => ?_⟩
          · cases q : getP kvs k with
            | none => rw [g2 q] at hp; cases hp
            | some d =>
              rw [q] at ee
              cases ee
              obtain ⟨v, p', e3, e4, e5⟩ := g1 _ q
              rw [e3] at hp
              cases hp
              exact ⟨v, e4, P3 ρ3 H3 v .refl R3 e5⟩
          · cases q : getP kvs k with
            | some d =>
              obtain ⟨v, p', e3, e4, e5⟩ := g1 d q
              rw [e3] at hn; cases hn
            | none =>
              rw [q] at ee
              simp only [Option.some.injEq, Prod.mk.injEq] at ee
              obtain ⟨rfl, rfl⟩ := ee
              have V4 := V.put e2 (V2.grow G3) V3 ru
              obtain ⟨vs, v1, v2⟩ := V4.v
              have hlen : (storedH xs k b u).length ≤ sizeLine := by
                have h1 := V4.len
                have h2 := putP_len kvs d2 k d3
                omega
              obtain ⟨R', G'⟩ := R3.putN hm' hj V4.a v1 f3 hlen (storedH_nodup f5) V4.k v2
              rw [hpr]
              exact P3 ρ3 _ _ G' R' (V3.grow G')
theorem d_lenN {A : Around} {E : Value → Shared → Prop} {a : Addr} {xs : List (NestedKey × Addr × Value)} {Q : Value → Shared → Prop} (I : Inv X pins σ H s) (hD : H a = some (DnO X.w.params a xs)) (hs : (a == sysModules) = false) (hz : xs.length ≤ sizeLine) (nd : (xs.map (·.1)).Nodup)
    (hk : ∀ x ∈ xs, (nestedKind X.prog X.w).is s.heap x.1 x.2.1) (h : ∀ t s', Inv X pins σ H s' → Q (.int (xs.length : Nat) t) s') :
    wpAny (model X.prog X.w) A (call (.builtin "len") [.ref a]) Q E s := by
  have dd := dn_of I hD nd hk
  have dk : s.heap.DictKeyed (nestedKind X.prog X.w) a (pairsH xs) := ⟨xs, dd, rfl⟩
  have hl : (pairsH xs).length = xs.length := by simp [pairsH]
  have hsz : sizeLine = 16777216 := sizeLine_eq
  refine PyProof.Rows.call_len_slot (n := (xs.length : Nat)) dd.typeIs F.slot_dict_len (fun Q' hq => len_keyed hs dk (by rw [hl]; exact hq)) (by omega) (by omega) ?_
  exact h _ _ ((I.tok _).tok _)
theorem bi_dmlen (hpr : X.w.params = g.pr) : CallR X (.builtin "len") (rOA X.K g fun m ds => match ds with | [x] => dmlenF m x | _ => none) := by
  intro pins s σ H xs us Q I r h
  obtain ⟨ρ, m, ds, R, h1, P⟩ := h
  match ds, h1, P with
  | [], _, P => exact P.elim
  | _ :: _ :: _, _, P => exact P.elim
  | [x], h1, P =>
    obtain ⟨v, rfl, h2⟩ := h1.one
    have P0 : PostO X.K g ρ H m Q (dmlenF m x) := P
    unfold dmlenF at P0
    cases e1 : dcmD m x with
    | none => rw [e1] at P0; exact P0.elim
    | some kvs =>
      rw [e1] at P0
      obtain ⟨i, ad, ks, rfl, hm, hi, rfl, had, hs, hz0, nd, hk⟩ := dcm_rv R h2 e1
      obtain ⟨u, rfl, ru⟩ := vals1 r
      obtain rfl : u = Value.ref ad := ru
      refine d_lenN I (by rw [hpr]; exact had) hs hz0 nd (KN.is rfl I hk) fun t s' I' => ⟨.int kvs.length, H, I', ⟨t, by rw [hk.len]⟩, P0 ρ H _ .refl R (.int _)⟩
theorem r_dmlen (hpr : X.w.params = g.pr) {p : Pos} (hg : Gl X "len") (hm : X.mg "len" = none) (ha : PA X [a] (tA X.K g W fun s m => (fa s m).bind fun d m => .ok [d] m)) (hst : notStar a = true) :
    PE X (.Call (.Name "len" p) [a] [] pos) (tE X.K g W fun s m => (fa s m).bind fun x m => opt m (dmlenF m x)) := by
  have h := r_opA (F := fun m ds => match ds with | [x] => dmlenF m x | _ => none) (pe_callB (p := p) (pos := pos) (bi_dmlen (g := g) hpr) hg hm boot_len ha (by decide) (by decide) (star_cons hst) (star_any (es := []) rfl))
  have e : (fun s m => ((fa s m).bind fun d m => R.ok [d] m).bind fun ds m => opt m (match ds with | [x] => dmlenF m x | _ => none)) = fun s m => (fa s m).bind fun x m => opt m (dmlenF m x) := by
    funext s m
    cases fa s m <;> rfl
  rw [e] at h
  exact h
end
end Ev
namespace Ev
open PySem PySem.Spec PyProof.Rows L2
section
variable {X : Cx} {g : Gm} {W : WX} {a e : Expr} {es : List Expr} {fa : Sl → Mu → R D} {fr : Sl → Mu → R (List D)} {pos : Pos}
end
end Ev
namespace Ev
open PySem PySem.Spec PyProof.Rows L2
theorem Reads.bare {h : Heap} : ∀ (p : PyData) (v : Value) (as : List Addr), Reads h v p as → noLs p = true → as = []
  | .none, _, _, r, _ => by cases r; rfl
  | .bool _, _, _, r, _ => by cases r; rfl
  | .int _, _, _, r, _ => by cases r; rfl
  | .str _, _, _, r, _ => by cases r; rfl
  | .list _, _, _, _, e => by simp [noLs] at e
  | .dict _, _, _, _, e => by simp [noLs] at e
  | .tuple ps, _, _, r, e => by
    cases r with
    | tuple _ _ _ hr => exact go ps _ _ hr (by simpa [noLs] using e)
where go {h : Heap} : ∀ (ps : List PyData) (vs : List Value) (as : List Addr), ReadsAll h vs ps as → noLss ps = true → as = []
  | [], _, _, r, _ => by cases r; rfl
  | p :: ps, _, _, r, e => by
    cases r with
    | cons h1 h2 =>
      simp only [noLss, Bool.and_eq_true] at e
      rw [Reads.bare p _ _ h1 e.1, go ps _ _ h2 e.2]
      rfl
section
variable {X : Cx} {g : Gm} {W : WX} {pins : List (Addr × Obj)} {s : Shared} {σ : L2.St} {H : Hp}
end
end Ev
namespace Ev
open PySem PySem.Spec PyProof.Rows L2
section
variable {X : Cx} {g : Gm} {W : WX}
structure IsiC (K : PySem.W.Frag) (C : Addr) : Prop where
  ca : PySem.W.findIn K (.ref C) "__class__" = some (some (.builtin "object.__class__"))
  cn : PySem.W.specialIn K (.builtin "object.__class__") "__get__" = some (some (.builtin "getset_descriptor.__get__"))
  ct : PySem.W.takesIn K (.builtin "object.__class__") = some true
  cm : PySem.W.mroIn K C (.type "object") = some true
section
variable {a b c e : Expr} {es : List Expr} {fa fb fc : Sl → Mu → R D} {fr : Sl → Mu → R (List D)} {pos p : Pos}
def PostK (K : PySem.W.Frag) (g : Gm) (ρ : Rh) (H : Hp) (Q : VK) : R D → Prop
  | .ok d m => ∀ ρ' H' v, Grow ρ H ρ' H' → Rel K g ρ' m H' → RV K g ρ' H' d v → Q v H'
  | _ => False
theorem PostK.of {K : PySem.W.Frag} {σ : L2.St} {ρ : Rh} {H : Hp} {Q : VK} {r : R D} (h : PostE K g W σ ρ H Q (noX r)) : PostK K g ρ H Q r := by
  cases r with
  | ok d m => exact h
  | exc c fs m => exact h
  | bad => exact h
end
end
section
open PySem.W PySem.Calls
variable {prog : Program} {w : World} {A : Around} {E : Value → Shared → Prop} {s : Shared} {K : PySem.W.Frag} {x C f : Addr} {ox : Obj} {od : Option Obj} {b tb : Value}
end
section
open PySem.W
variable {prog : Program} {w : World} {A : Around} {E : Value → Shared → Prop} {s : Shared} {K : PySem.W.Frag} {x y C D f : Addr} {ox oy : Obj} {od od2 : Option Obj}
end
section
variable {X : Cx} {g : Gm} {W : WX} {a b c e : Expr} {es : List Expr} {fa fb fc : Sl → Mu → R D} {fr : Sl → Mu → R (List D)} {pos p : Pos}
structure EqC (K : PySem.W.Frag) (g : Gm) (tb sb : List (Nat × Nat)) : Prop where
  cl : ∀ c C, g.ia c = some C → Cls K C
  isi : ∀ c C, g.ia c = some C → IsiC K C
  first : ∀ c C, g.ia c = some C → ∀ n ∈ tyNames, PySem.W.notFirst K C (.type n) = true
  ne : ∀ c C f, g.ia c = some C → tb.lookup c = some f → PySem.W.findIn K (.ref C) "__ne__" = some (some (.builtin "object.__ne__"))
  dn : ∀ c C d D, g.ia c = some C → g.ia d = some D → sb.contains (d, c) = true → D ≠ C ∧ PySem.W.subIn K (.ref D) (.ref C) = some true
  up : ∀ c C d D, g.ia c = some C → g.ia d = some D → (tb.lookup c).isSome = true → (tb.lookup d).isSome = true → sb.contains (d, c) = false → PySem.W.notFirst K C (.ref D) = true
theorem PostK.bl {K : PySem.W.Frag} {ρ : Rh} {H : Hp} {Q : VK} {neg : Bool} {r : R D} (h : PostK K g ρ H Q ((noX r).bind fun r m => match r with
      | .bl b => .ok (.bl (b != neg)) m
      | _ => .bad)) : PostK K g ρ H (fun v H' => ∃ b, v = .bl b ∧ Q (.bl (b != neg)) H') r := by
  cases r with
  | ok d m =>
    simp only [noX_k, bind_k] at h
    cases d <;> first | exact h.elim | skip
    intro ρ' H' v G R V
    cases V
    exact ⟨_, rfl, h ρ' H' _ G R (.bl _)⟩
  | exc c fs m => exact h
  | bad => exact h
theorem PostE.k {K : PySem.W.Frag} {σ : L2.St} {ρ : Rh} {H : Hp} {Q : VK} {r : R D} (hn : ∀ c fs m, r ≠ .exc c fs m) (h : PostE K g W σ ρ H Q r) : PostK K g ρ H Q r := by
  cases r with
  | ok d m => exact h
  | exc c fs m => exact absurd rfl (hn c fs m)
  | bad => exact h
theorem PostK.len {K : PySem.W.Frag} {ρ : Rh} {H : Hp} {Q : VK} {r : R D} (h : PostK K g ρ H Q ((noX r).bind fun r m => match r with
      | .int n => if 0 ≤ n ∧ n < 9223372036854775808 then .ok (.int n) m else .bad
      | _ => .bad)) : PostK K g ρ H (fun v H' => ∃ n, v = .int n ∧ (0 ≤ n ∧ n < 9223372036854775808) ∧ Q (.int n) H') r := by
  cases r with
  | ok d m =>
    simp only [noX_k, bind_k] at h
    cases d <;> first | exact h.elim | skip
    rename_i n
    dsimp only at h
    split at h
    · rename_i hn
      intro ρ' H' v G R V
      cases V
      exact ⟨_, rfl, hn, h ρ' H' _ G R (.int _)⟩
    · exact h.elim
  | exc c fs m => exact h
  | bad => exact h
theorem bi_str (gd : X.A.guards = some []) (hu : X.A.units + 64 < cLine) : CallR X (.type "str") (rOA X.K g fun m => biF m .str) := by
  intro pins s σ H xs us Q I r h
  obtain ⟨ρ, m, ds, R, h1, P⟩ := h
  match ds, h1, P with
  | [], _, P => exact P.elim
  | _ :: _ :: _, _, P => exact P.elim
  | [d], h1, P =>
    obtain ⟨v, rfl, h2⟩ := h1.one
    obtain ⟨u, rfl, ru⟩ := vals1 r
    have isS : (∀ z, d ≠ .str z) → biF m .str [d] = reprF m d := fun hn => by
      cases d <;> first | rfl | exact absurd rfl (hn _)
    by_cases hs : ∃ z, d = .str z
    · obtain ⟨z, rfl⟩ := hs
      cases h2
      obtain ⟨t, rfl⟩ := ru
      have q : Q (.str z) H := P ρ H _ .refl R (.str _)
      exact PySem.P.str_of_str ⟨.str z, H, I, ⟨_, rfl⟩, q⟩
    dsimp only at P
    rw [isS fun z hz => hs ⟨z, hz⟩] at P
    simp only [reprF] at P
    cases e1 : pyM m d with
    | none => rw [e1] at P; exact P.elim
    | some p =>
      rw [e1] at P
      dsimp only at P
      cases hk : (plainP p && p.showable && decide (p.depth ≤ 60) && decide (p.shown.length ≤ sizeLine)) with
      | false => rw [hk] at P; exact P.elim
      | true =>
        rw [hk] at P
        simp only [Bool.and_eq_true, decide_eq_true_eq] at hk
        obtain ⟨⟨⟨k1, k2⟩, k3⟩, k4⟩ := hk
        have q : Q (.str p.shown) H := P ρ H _ .refl R (.str _)
        have box : ∀ {a : Addr} {as : List Addr}, u = .ref a → Reads s.heap (.ref a) p as → (p.hasDict = true → sysModules ∉ as) → wpAny (model X.prog X.w) X.A (call (.type "str") [u]) (EP X pins σ Q) X.xe s := by
          intro a as e rd hm
          subst e
          exact str_of_reads rd k2 hm gd (by omega) (fun _ _ e => e) (fun h' u' tk hk => ⟨.str p.shown, H, I.kept hk, ⟨_, rfl⟩, q⟩) k4
        have seq : ∀ {a : Addr}, v = .ref a → (p.canLay0 = true) → wpAny (model X.prog X.w) X.A (call (.type "str") [u]) (EP X pins σ Q) X.xe s := by
          intro a e hc
          subst e
          obtain ⟨as, rd⟩ := Dp.reads I p _ u (h2.dpM R e1 hc) ru
          cases ru
          exact box rfl rd (PyData.noDict_hsm (PyData.hasDict_of_canLay p hc))
        have lay : (∀ a, p ≠ .dict a) → flatT p = false → p.canLay0 = true := by
          intro hn hf
          cases p <;> first | (exact absurd rfl (hn _)) | (simp only [plainP, hf, Bool.or_false] at k1; exact k1)
        cases h2 with
        | non =>
          simp [pyM, pyD] at e1
          subst e1
          cases ru
          exact PySem.P.str_of_none ⟨.str _, H, I.tok _, ⟨_, rfl⟩, q⟩
        | bl b =>
          simp [pyM, pyD] at e1
          subst e1
          cases ru
          exact PySem.P.str_of_bool ⟨.str _, H, I.tok _, ⟨_, rfl⟩, q⟩
        | int i =>
          simp [pyM, pyD] at e1
          subst e1
          obtain ⟨t, rfl⟩ := ru
          exact PySem.P.str_of_int (by simpa [PyData.showable] using k2) ⟨.str _, H, I.tok _, ⟨_, rfl⟩, q⟩
        | str x => exact absurd ⟨x, rfl⟩ hs
        | tup a1 a2 =>
          by_cases hT : flatT p = true
          · obtain ⟨as, rd, ns⟩ := flatT_reads I (.tup a1 a2) ru e1 hT
            cases ru
            exact box rfl rd fun _ => ns
          · exact seq rfl (lay (fun a e => by subst e; simp [pyM, pyD] at e1) (by simpa using hT))
        | lst a1 a2 a3 =>
          obtain ⟨ps, rfl⟩ : ∃ ps, p = .list ps := by
            simp only [pyM, pyD, Option.map_eq_some_iff] at e1
            obtain ⟨ps, _, h⟩ := e1
            exact ⟨ps, h.symm⟩
          exact seq rfl (lay (fun a e => by cases e) rfl)
        | scr a1 =>
          obtain ⟨ps, rfl⟩ : ∃ ps, p = .list ps := by
            simp [pyM, pyD] at e1
            exact ⟨_, e1.symm⟩
          exact seq rfl (lay (fun a e => by cases e) rfl)
        | ref a1 =>
          obtain ⟨ps, rfl⟩ : ∃ ps, p = .list ps := by
            simp only [pyM] at e1
            split at e1
            · simp only [Option.map_eq_some_iff] at e1
              obtain ⟨ps, _, h⟩ := e1
              exact ⟨ps, h.symm⟩
            · simp at e1
          exact seq rfl (lay (fun a e => by cases e) rfl)
        | xo0 _ _ _ => simp [pyM, pyD] at e1
        | xo1 _ _ _ _ _ _ _ _ => simp [pyM, pyD] at e1
        | dks _ _ _ _ _ _ => simp [pyM, pyD] at e1
        | dcn _ _ _ _ _ _ _ _ _ => simp [pyM, pyD] at e1
        | tts _ _ _ _ => simp [pyM, pyD] at e1
        | lam _ _ _ _ _ => simp [pyM, pyD] at e1
        | dct a1 a2 =>
          simp [pyM, pyD] at e1
          subst e1
          cases ru
          obtain ⟨_, hsm, vs, kv, o, es, ep, ho, ex, hd, _, hl, _⟩ := I.hok _ _ a1
          have hvs : vs = [] := by cases kv; rfl
          subst hvs
          have hes : es.toList = [] := by cases hz : es.toList with | nil => rfl | cons a b => rw [hz] at hl; cases hl
          refine box rfl (Reads.dict (as := []) (bs := []) ho ex.1 hd (by rw [hes]; exact .nil) (by rw [hes]; exact .nil)) fun _ hm => ?_
          have := beq_eq_false_iff_ne.mp hsm
          simp at hm
          exact this hm.symm
        | fn a1 => simp [pyM, pyD] at e1
        | cls a1 => simp [pyM, pyD] at e1
        | ty a1 => simp [pyM, pyD] at e1
theorem r_biStr (gd : X.A.guards = some []) (hu : X.A.units + 64 < cLine) (hg : Gl X (biN .str)) (hm : X.mg (biN .str) = none) (ha : PA X (e :: es) (tA X.K g W fr)) (hst : (e :: es).all notStar = true) :
    PE X (.Call (.Name (biN .str) p) (e :: es) [] pos) (tE X.K g W fun s m => (fr s m).bind fun ds m => opt m (biF m .str ds)) := by
  rw [List.all_cons, Bool.and_eq_true] at hst
  exact r_opA (F := fun m => biF m .str) (pe_callTy (bi_str gd hu) hg hm (by rfl) ha (by decide) (by decide) (star_cons (r := es) (env := X.env) hst.1) (star_any (pos := pos) (env := X.env) hst.2))
end
end Ev
namespace Ev
open PySem PySem.Spec PyProof.Rows L2
section
open PySem.W PySem.Calls
variable {prog : Program} {w : World} {A : Around} {E : Value → Shared → Prop} {s : Shared} {K : PySem.W.Frag} {C x f : Addr} {ox : Obj} {od : Option Obj}
end
section
variable {X : Cx} {g : Gm} {W : WX}
end
end Ev
namespace Ev
open PySem PySem.Spec PyProof.Rows L2
open MeetsSeq
section
variable {prog : Program} {w : World} {A : Around} {E : Value → Shared → Prop} {s : Shared}
end
section
variable {X : Cx} {g : Gm} {W : WX}
variable {a : Expr} {fa fl fh : Sl → Mu → R D} {pos : Pos}
end
end Ev
namespace Ev
open PySem PySem.Spec PyProof.Rows L2
structure KwB (K : PySem.W.Frag) (g : Gm) (fd : FuncData) (ps : List Str) (nm : Str) (d : D) : Prop where
  to : ∀ (s : Shared) (us : List Value) (w : Value), K.In s.heap → us.length + 1 = ps.length → BindsTo s fd ⟨us, [(nm, w)]⟩ (ps.zip (us ++ [w]))
  dfl : ∃ (u : Value) (v : V), RelV v u ∧ (∀ ρ H, RV K g ρ H d v) ∧ ∀ (s : Shared) (us : List Value), K.In s.heap → us.length + 1 = ps.length → BindsTo s fd ⟨us, []⟩ (ps.zip (us ++ [u]))
section
variable {X : Cx} {g : Gm} {W : WX} {e e1 : Expr} {es : List Expr} {f1 : Sl → Mu → R D} {fr : Sl → Mu → R (List D)} {pos p kp : Pos}
end
end Ev
namespace Ev
open PySem PySem.Spec PyProof.Rows L2
structure Cn where
  N : List Str
  sc : Scope
  fn : Str → Bool
  hot : Bool
  top : Bool
  tx : Bool
  lm : Bool
mutual
def eqD : D → D → Bool
  | .non, .non => true
  | .bl a, .bl b => decide (a = b)
  | .int a, .int b => decide (a = b)
  | .str a, .str b => decide (a = b)
  | .tup a, .tup b => eqDs a b
  | .fn i, .fn j => decide (i = j)
  | .cls i, .cls j => decide (i = j)
  | .dks a b, .dks c d => decide (a = c) && eqDs b d
  | _, _ => false
def eqDs : List D → List D → Bool
  | [], [] => true
  | x :: r, y :: q => eqD x y && eqDs r q
  | _, _ => false
end
mutual
theorem eqD_of : ∀ {a b : D}, eqD a b = true → a = b
  | .non, b, h => by cases b <;> first | rfl | (simp [eqD] at h)
  | .bl x, b, h => by cases b <;> first | (simp [eqD] at h; rw [h]; done) | (simp [eqD] at h; done)
  | .int x, b, h => by cases b <;> first | (simp [eqD] at h; rw [h]; done) | (simp [eqD] at h; done)
  | .str x, b, h => by cases b <;> first | (simp [eqD] at h; rw [h]; done) | (simp [eqD] at h; done)
  | .fn x, b, h => by cases b <;> first | (simp [eqD] at h; rw [h]; done) | (simp [eqD] at h; done)
  | .cls x, b, h => by cases b <;> first | (simp [eqD] at h; rw [h]; done) | (simp [eqD] at h; done)
  | .tup x, b, h => by
    cases b with
    | tup y => simp only [eqD] at h; rw [eqDs_of h]
    | _ => simp [eqD] at h
  | .lst _, b, h => by cases b <;> simp [eqD] at h
  | .scr _, b, h => by cases b <;> simp [eqD] at h
  | .dct, b, h => by cases b <;> simp [eqD] at h
  | .ref _, b, h => by cases b <;> simp [eqD] at h
  | .xo _ _, b, h => by cases b <;> simp [eqD] at h
  | .dks ks x, b, h => by
    cases b with
    | dks k2 y =>
      simp only [eqD, Bool.and_eq_true, decide_eq_true_eq] at h
      rw [h.1, eqDs_of h.2]
    | _ => simp [eqD] at h
  | .ty _, b, h => by cases b <;> simp [eqD] at h
  | .tts _, b, h => by cases b <;> simp [eqD] at h
  | .lam _, b, h => by cases b <;> simp [eqD] at h
theorem eqDs_of : ∀ {a b : List D}, eqDs a b = true → a = b
  | [], b, h => by cases b <;> first | rfl | (simp [eqDs] at h)
  | x :: r, b, h => by
    cases b with
    | nil => simp [eqDs] at h
    | cons y q =>
      simp only [eqDs, Bool.and_eq_true] at h
      rw [eqD_of h.1, eqDs_of h.2]
end
def cstOk : D → Const → Bool
  | .non, .none => true
  | .bl a, .bool b => decide (a = b)
  | .int a, .int b => decide (a = b)
  | .str a, .str b => decide (a = b)
  | _, _ => false
def dbg : Str := "__debug__"
def isGl (c : Cn) (x : Str) : Bool := decide (c.sc.names.lookup x = some .globalImplicit) && !(x == dbg)
def isBt (G : Pg) (c : Cn) (x : Str) : Bool := isGl c x && G.nb.contains x
def varOk (c : Cn) (i : Nat) (x : Str) : Bool := decide (c.N[i]? = some x) && (decide (c.sc.names.lookup x = some .local) || decide (c.sc.names.lookup x = some .cell) || decide (c.sc.names.lookup x = some .free)) && !(x == dbg) && !(x == ("__classdict__" : Str))
def locOk (c : Cn) (i : Nat) (x : Str) : Bool := decide (c.N[i]? = some x) && (decide (c.sc.names.lookup x = some .local) || (decide (c.sc.names.lookup x = some .cell) && c.fn x))
def nmOf : Expr → Option Str
  | .Name x _ => some x
  | _ => none
def nmLoc (c : Cn) (i : Nat) : Option Str → Bool
  | some x => locOk c i x
  | none => false
def namesOk (c : Cn) : List Nat → List Expr → Bool
  | [], es => es.isEmpty
  | i :: is, es => match es with
    | [] => false
    | e :: es => nmLoc c i (nmOf e) && namesOk c is es
def cellT (c : Cn) (es : List Expr) : Bool := es.any fun e => match e with | .Name x _ => !decide (c.sc.names.lookup x = some .local) | _ => false
def tgOk (c : Cn) : Tg → Expr → Bool
  | .nm i, .Name x _ => locOk c i x
  | .tp is, .Tuple es _ _ => namesOk c is es && !c.hot
  | _, _ => false
def notSlice : Expr → Bool
  | .Slice .. => false
  | _ => true
def notSet : Expr → Bool
  | .Set .. => false
  | _ => true
def notTup : Expr → Bool
  | .Tuple .. => false
  | _ => true
def notComp : Expr → Bool
  | .ListComp .. => false
  | .SetComp .. => false
  | .DictComp .. => false
  | _ => true
def tyOk (G : Pg) (c : Cn) : List String → List Expr → Bool
  | [], es => es.isEmpty
  | t :: ts, es => match es with
    | [] => false
    | e :: es => decide (t ∈ tys) && decide (nmOf e = some (t : Str)) && isBt G c (t : Str) && tyOk G c ts es
mutual
def noIte : E → Bool
  | .ite .. => false
  | .not a => noIte a
  | .and es => noItes es
  | .or es => noItes es
  | .orV _ _ => false
  | _ => true
def noItes : Es → Bool
  | .nil => true
  | .cons e r => noIte e && noItes r
end
def lenEs : Es → Nat
  | .nil => 0
  | .cons _ r => lenEs r + 1
def ownOf (c : Cn) (t : Tg) : List (Str × Nat) := (ownT t).map fun i => (c.N.getD i dbg, i)
def blkCn (c : Cn) (scope : Scope) : Cn := ⟨c.N, relS scope c.sc, fun x => scope.names.lookup x == some .cell, c.hot, false, false, false⟩
def hotCn (c : Cn) : Cn := ⟨c.N, c.sc, c.fn, true, false, false, false⟩
def trCn (c : Cn) : Cn := ⟨c.N, c.sc, c.fn, c.hot, c.top, false, c.lm⟩
def nmI (c : Cn) : Option Nat → Option Str → Bool
  | none, none => true
  | some i, some n => decide (c.N[i]? = some n) && decide (c.sc.names.lookup n = some .local)
  | _, _ => false
def isTrueC : E → Bool
  | .cst (.bl true) => true
  | _ => false
def lamPs : Arguments → Option (List Str)
  | ⟨[], [a], none, [], [], none, []⟩ => some [a.arg]
  | ⟨[], [a, b], none, [], [], none, []⟩ => if a.arg = b.arg then none else some [a.arg, b.arg]
  | ⟨[], [a, b, c], none, [], [], none, []⟩ => if a.arg = b.arg ∨ a.arg = c.arg ∨ b.arg = c.arg then none else some [a.arg, b.arg, c.arg]
  | _ => none
theorem lamPs_ok {params : Arguments} {ps : List Str} (h : lamPs params = some ps) : (∀ body scope q, LamBinds params body scope q ps) ∧ ∀ env, defaultsOf params env = ([], []) := by
  unfold lamPs at h
  split at h
  · cases h
    exact ⟨fun _ _ _ => lamBinds1, fun _ => rfl⟩
  · split at h
    · cases h
    · rename_i ne
      cases h
      exact ⟨fun _ _ _ => lamBinds2 ne, fun _ => rfl⟩
  · split at h
    · cases h
    · rename_i ne
      simp only [not_or] at ne
      cases h
      exact ⟨fun _ _ _ => lamBinds3 ne.1 ne.2.1 ne.2.2, fun _ => rfl⟩
  · cases h
def fnScB (ps : List Str) (sc : Scope) : Bool := decide (sc.kind = .function) && (!sc.isCoroutine && (!sc.isGenerator && (decide ps.Nodup && ((ps.all fun x => decide (sc.names.lookup x = some .local) || decide (sc.names.lookup x = some .cell)) && sc.names.all fun y => !decide (y.2 = .free)))))
theorem fnScB_ok {ps : List Str} {sc : Scope} (h : fnScB ps sc = true) : FnScope ps ps sc := by
  simp only [fnScB, Bool.and_eq_true, decide_eq_true_eq, Bool.not_eq_true', List.all_eq_true, Bool.or_eq_true, decide_eq_false_iff_not] at h
  obtain ⟨h1, h2, h3, h4, h5, h6⟩ := h
  exact ⟨h1, h2, h3, h4, by rw [List.take_length], h5, h6⟩
abbrev lamCn (ps : List Str) (scope : Scope) : Cn := ⟨ps, scope, fun _ => true, false, false, false, false⟩
mutual
def chkE (G : Pg) : E → Cn → Expr → Bool
  | .cst d, c, x => match x with
    | .Constant v _ _ => cstOk d v
    | _ => false
  | .var i, c, x => match x with
    | .Name y _ => varOk c i y
    | _ => false
  | .glob z d, c, x => match x with
    | .Name y _ => decide (z = y) && isGl c z && (match G.gl.lookup z with | some d' => eqD d d' | none => false)
    | _ => false
  | .tup es, c, x => match x with
    | .Tuple xs _ _ => chkEs G es c xs && decide (lenEs es ≤ 1000)
    | _ => false
  | .tts _, _, _ => false
  | .ttv _, _, _ => false
  | .lst es, c, x => match x with
    | .List xs _ => chkEs G es c xs && decide (lenEs es ≤ 1000)
    | _ => false
  | .lstL es, c, x => match x with
    | .List xs _ => chkEs G es c xs && decide (lenEs es ≤ 1000)
    | _ => false
  | .dctE, _, _ => false
  | .bin op a b, c, x => match x with
    | .BinOp y o z _ => decide (op = o) && chkE G a c y && chkE G b c z
    | _ => false
  | .neg a, c, x => match x with
    | .UnaryOp .USub y _ => chkE G a c y
    | _ => false
  | .not a, c, x => match x with
    | .UnaryOp .Not y _ => chkE G a c y
    | _ => false
  | .cmp op a b, c, x => match x with
    | .Compare y [o] [z] _ => decide (op = o) && chkE G a c y && chkE G b c z && notSet z
    | _ => false
  | .chain o1 o2 a b d, c, x => match x with
    | .Compare y [p1, p2] [z, w] _ => decide (o1 = p1) && decide (o2 = p2) && chkE G a c y && chkE G b c z && chkE G d c w && notSet w
    | _ => false
  | .and es, c, x => match x with
    | .BoolOp .And xs _ => chkEs G es c xs && decide (0 < lenEs es)
    | _ => false
  | .or es, c, x => match x with
    | .BoolOp .Or xs _ => chkEs G es c xs && decide (0 < lenEs es)
    | _ => false
  | .ite d a b, c, x => match x with
    | .IfExp y z w _ => chkE G d c y && noIte d && chkE G a c z && chkE G b c w
    | _ => false
  | .ix a b, c, x => match x with
    | .Subscript y z _ => chkE G a c y && chkE G b c z && notSlice z
    | _ => false
  | .sl a lo hi, c, x => match x with
    | .Subscript y (.Slice l h none _) _ => chkE G a c y &&
      (match l with | none => isAbs lo | some l => !(isAbs lo) && chkE G lo c l) && (match h with | none => isAbs hi | some h => !(isAbs hi) && chkE G hi c h)
    | _ => false
  | .slL _ _ _, _, _ => false
  | .abs, _, _ => false
  | .rev _, _, _ => false
  | .lrg a, c, x => match x with
    | .Call (.Name y _) [.Call (.Name y2 _) [z] [] _] [] _ => !c.hot && decide (y = "list") && decide (y2 = "range") && isBt G c y && isBt G c y2 && chkE G a c z && notStar z
    | _ => false
  | .call z f es, c, x => match x with
    | .Call (.Name y _) xs [] _ => !c.hot && decide (z = y) && isGl c z && (match G.P[f]? with | some F => decide (F.nm = z) && F.own.isNone | none => false) && chkEs G es c xs
    | _ => false
  | .callZ _ _ _, _, _ => false
  | .callK _ _ _ _ _, _, _ => false
  | .callN _ _ _ _, _, _ => false
  | .callD _ _ _, _, _ => false
  | .bi z b es, c, x => match x with
    | .Call (.Name y _) xs [] _ => (!c.hot || decide (b = .int) || decide (b = .repr) || decide (b = .str)) && decide (z = y) && decide (z = biN b) && (biHas b || decide (b = .str)) && isBt G c z && decide (0 < lenEs es) && chkEs G es c xs
    | _ => false
  | .mt _ _ _, _, _ => false
  | .isi a ts tp, c, x => match x with
    | .Call (.Name y _) [o, .Name z _] [] _ => (match ts with
      | [t] => decide (t ∈ tys) && decide (z = (t : Str))
      | _ => false) && decide (y = "isinstance") && isBt G c y && isBt G c z && chkE G a c o && notStar o && !tp
    | .Call (.Name y _) [o, .Tuple ns _ _] [] _ => tyOk G c ts ns && decide (ts.length ≤ 100) && decide (y = "isinstance") && isBt G c y && chkE G a c o && notStar o && tp
    | _ => false
  | .lc elt tg it d, c, x => match x with
    | .ListComp y [⟨tg', iter, ifs, ay⟩] scope _ => !c.hot && decide (ay = 0) && chkI G it c iter tg' && notSet iter && blkC c.N c.sc scope (ownOf c tg) && tgOk (blkCn c scope) tg tg' && noIte d &&
      (match ifs with | [] => isTrueC d | [z] => chkE G d (blkCn c scope) z | _ => false) && chkE G elt (blkCn c scope) y
    | _ => false
  | .lcV _ _ _ _ _, _, _ => false
  | .lcX _ _ _, _, _ => false
  | .lcL _ _ _ _, _, _ => false
  | .lc2 _ _ _ _ _ _, _, _ => false
  | .dctL, _, _ => false
  | .dget _ _, _, _ => false
  | .din _ _ _, _, _ => false
  | .ditL, _, _ => false
  | .dmsd a b d, c, x => match x with
    | .Call (.Attribute o n apos) [z, z2] [] pos => decide (n = "setdefault") && plainBase o && (apos.endLine == pos.line) && chkE G a c o && chkE G b c z && chkE G d c z2 && notStar z && notStar z2
    | _ => false
  | .dmlen a, c, x => match x with
    | .Call (.Name y _) [z] [] _ => !c.hot && decide (y = "len") && isBt G c y && chkE G a c z && notStar z
    | _ => false
  | .dmL, c, x => match x with
    | .Dict [] [] _ => true
    | _ => false
  | .dmix _ _, _, _ => false
  | .dmin _ _ _, _, _ => false
  | .dmsrt _, _, _ => false
  | .dig1 _ _, _, _ => false
  | .lsL _, _, _ => false
  | .lset _, _, _ => false
  | .dilen _, _, _ => false
  | .lcK _ _ _ _, _, _ => false
  | .dg1 _ _, _, _ => false
  | .dg2 _ _ _, _, _ => false
  | .dls _, _, _ => false
  | .lrg2 _ _, _, _ => false
  | .rpl _, _, _ => false
  | .trg _, _, _ => false
  | .dof _, _, _ => false
  | .dig _ _, _, _ => false
  | .dii _ _ _, _, _ => false
  | .disi _, _, _ => false
  | .lam _, _, _ => false
  | .srtl _ _ _, _, _ => false
  | .srtk _ _ _, _, _ => false
  | .dsrt _, _, _ => false
  | .dc _ _ _ _, _, _ => false
  | .dnC _ _ _ _, _, _ => false
  | .dng _ _ _, _, _ => false
  | .dcC _ _ _ _ _, _, _ => false
  | .dcD _ _ _ _ _, _, _ => false
  | .dcE _ _ _ _ _, _, _ => false
  | .dcZ _ _ _ _ _, _, _ => false
  | .dil _, _, _ => false
  | .new _ _ _ _, _, _ => false
  | .fld _ _ _, _, _ => false
  | .meth _ _ _ _, _, _ => false
  | .binL _ _ _, _, _ => false
  | .orV a b, c, x => match x with
    | .BoolOp .Or [y, z] _ => chkE G a c y && chkE G b c z
    | _ => false
  | .bad, _, _ => true
  | .eqO _ _ _ _ _, _, _ => false
  | .lenO _ _, _, _ => false
  | .strO _ _, _, _ => false
  | .fs1 _, _, _ => false
  | .iin _ _ _ _, _, _ => false
  | .eis _ _ _ _, _, _ => false
  | .efl _ _ _, _, _ => false
  | .callV _ _, _, _ => false
def chkEs (G : Pg) : Es → Cn → List Expr → Bool
  | .nil, _, xs => xs.isEmpty
  | .cons e r, c, xs => match xs with
    | x :: q => chkE G e c x && notStar x && chkEs G r c q
    | _ => false
def chkI (G : Pg) : It → Cn → Expr → Expr → Bool
  | .of e, c, x, _ => chkE G e c x
  | .rng1 a, c, x, _ => match x with
    | .Call (.Name y _) [z] [] _ => decide (y = "range") && isBt G c y && chkE G a c z && notStar z
    | _ => false
  | .rng2 _ _, _, _, _ => false
  | .rng3 _ _ _, _, _, _ => false
  | .enum _, _, _, _ => false
  | .enumS _, _, _, _ => false
  | .zip _ _, _, _, _ => false
  | .zipS _ _, _, _, _ => false
  | .zipM _ _, _, _, _ => false
  | .zipSM _ _, _, _, _ => false
end
def LamChk (G : Pg) (i : Nat) (params : Arguments) (body : Expr) (scope : Scope) : Prop := ∃ ps F b, lamPs params = some ps ∧ G.P[i]? = some F ∧ F.own = some 1000 ∧ F.ps = ps.length ∧ F.nn = ps.length ∧ F.keep = false ∧ F.body = .cons (.ret b) .nil ∧ fnScB ps scope = true ∧ chkE G.no b (lamCn ps scope) body = true
def stOf : Expr → Option Expr
  | .Starred e _ => some e
  | _ => none
def stLoc (c : Cn) (i : Nat) : Option Expr → Bool
  | some e => nmLoc c i (nmOf e)
  | none => false
def starOk (c : Cn) : List Nat → List Expr → Bool
  | [], _ => false
  | i :: is, es => match es with
    | [] => false
    | e :: es => (is.isEmpty && (es.isEmpty && stLoc c i (stOf e))) || (nmLoc c i (nmOf e) && starOk c is es)
mutual
def chkS (G : Pg) : S → Cn → Stmt → Bool
  | .ex e, c, x => match x with
    | .Expr y _ => chkE G e c y && notComp y
    | _ => false
  | .set i e, c, x => match x with
    | .Assign [.Name y p] v _ => locOk c i y && chkE G e c v && decide (c.sc.kind = .function)
    | _ => false
  | .unp is e, c, x => match x with
    | .Assign [.Tuple es _ _] v _ => !c.hot && namesOk c is es && chkE G e c v && (notTup v || cellT c es) && notComp v
    | _ => false
  | .sub a i e, c, x => match x with
    | .Assign [.Subscript o j _] v _ => chkE G a c o && chkE G i c j && chkE G e c v && notSlice j && notComp v
    | _ => false
  | .subA _ _ _ _, _, _ => false
  | .dput _ _ _, _, _ => false
  | .dmput _ _ _, _, _ => false
  | .diput _ _ _, _, _ => false
  | .aug i op e, c, x => match x with
    | .AugAssign (.Name y _) o v _ => locOk c i y && decide (op = o) && chkE G e c v
    | _ => false
  | .ite d a b, c, x => match x with
    | .If t xs ys _ => chkE G d c t && noIte d && chkSs G a c xs && chkSs G b c ys
    | _ => false
  | .fo tg it b, c, x => match x with
    | .For t iter body [] _ => !c.hot && tgOk c tg t && chkI G it c iter t && notSet iter && chkSs G b c body
    | _ => false
  | .wh d b, c, x => match x with
    | .While t body [] _ => chkE G d c t && noIte d && chkSs G b c body
    | _ => false
  | .ret e, c, x => match x with
    | .Return (some y) _ => chkE G e c y
    | _ => false
  | .retN, c, x => match x with
    | .Return none _ => true
    | _ => false
  | .pass, c, x => match x with
    | .Pass _ => true
    | _ => false
  | .brk, c, x => match x with
    | .Break _ => true
    | _ => false
  | .cont, c, x => match x with
    | .Continue _ => true
    | _ => false
  | .par _ _ _ _, _, _ => false
  | .foR _ _ _ _, _, _ => false
  | .unpS _ _, _, _ => false
  | .sls _ _ _ _, _, _ => false
  | .unpL _ _, _, _ => false
  | .setA _ _ _ _, _, _ => false
  | .augA _ _ _ _ _, _, _ => false
  | .bad, _, _ => true
  | .rz z k es, c, x => match x with
    | .Raise (some (.Call (.Name y _) xs [] _)) none _ => !c.hot && decide (z = y) && isGl c z && decide (G.rz.lookup z = some k) && decide (lenEs es = (G.cf.getD k []).length) && decide (lenEs es ≤ 100) && chkEs G es c xs
    | _ => false
  | .tr _ _, _, _ => false
  | .dels _ _ _, _, _ => false
  | .trN _ _, _, _ => false
  | .trX _ _ _ _ _ _ _ _, _, _ => false
def chkSs (G : Pg) : Ss → Cn → List Stmt → Bool
  | .nil, _, xs => xs.isEmpty
  | .cons s r, c, xs => match xs with
    | x :: q => chkS G s c x && chkSs G r c q
    | _ => false
def chkHs (G : Pg) : Hs → Cn → List ExceptHandler → Bool
  | .nil, _, xs => xs.isEmpty
  | .cons z cs i b r, c, xs => match xs with
    | .ExceptHandler (some (.Name y _)) n (st :: suite) _ :: q => decide (z = y) && isGl c z && decide (G.ct.lookup z = some cs) && nmI c i n && chkSs G b (hotCn c) (st :: suite) && chkHs G r c q
    | _ => false
end
end Ev
namespace Ev
open PySem PySem.Spec PyProof.Rows L2
structure XF (P : Program) (w : World) (K : PySem.W.Frag) (mg : Str → Option Value) (base : Heap) (G : Pg) (g : Gm) : Prop where
  pr : w.params = g.pr
  cf : ∀ c, g.cf c = G.cf.getD c []
  exc : ∀ c C, g.ca c = some C → ExcC K C ∧ PySem.W.typeIn K (.ref C) = some (.type "type") ∧ PySem.W.keepIn K (.ref C) = true
  fld : ∀ c C, g.ca c = some C → (g.cf c).Nodup ∧ ∀ f ∈ g.cf c, PySem.W.findIn K (.ref C) f = some none
  ct : ∀ x cs, G.ct.lookup x = some cs → CtV K mg g x cs
  rz : ∀ x c, G.rz.lookup x = some c → ∃ C, mg x = some (.ref C) ∧ g.ca c = some C ∧
    ((g.cf c = [] ∧ PySem.W.excIn K C [.type "ValueError", .type "Exception", .type "BaseException", .type "object"] "ValueError.__new__" = true) ∨
      (g.cf c ≠ [] ∧ OexC K C ∧ ∃ fI fd ps, PySem.W.findIn K (.ref C) "__init__" = some (some (.ref fI)) ∧ PySem.W.typeIn K (.ref fI) = some (.type "function") ∧ Binds K fd ps [] ∧ FnB P w K mg base (CX P w mg) 1 fI fd ps (spIni C (g.cf c).reverse)))
  hx : hlOf G.rz ≠ [] → ∀ c C, g.ca c = some C → (hlOf G.rz).contains c = false → ∀ n ∈ hotNames, mg n ≠ some (.ref C)
  fa : ∀ f l, g.fa f = some l → ∃ F, G.P[f]? = some F ∧ F.own ≠ some 1000 ∧ F.own ≠ some 1001
  icl : ∀ c C, g.ia c = some C → Cls K C
  ifl : ∀ c C q f, g.ia c = some C → G.ik[c]? = some q → q.fl.contains f = true → NoAttr K C f
  ims : ∀ c C q x i, g.ia c = some C → G.ik[c]? = some q → q.ms.lookup x = some i → ∃ a, g.fa i = some a ∧ Meth K C x a
  isc : ∀ c C, g.ia c = some C → IsiC K C
  ifi : ∀ c C, g.ia c = some C → ∀ n ∈ tyNames, PySem.W.notFirst K C (.type n) = true
  ine : ∀ c C q f, g.ia c = some C → G.ik[c]? = some q → q.ms.lookup nEq = some f → PySem.W.findIn K (.ref C) "__ne__" = some (some (.builtin "object.__ne__"))
  iit : ∀ c C, g.ia c = some C → ∀ n ∈ tyNames, PySem.W.kitOne K (.type n) (.ref C) = some false
  iis : ∀ i C q c D, g.ia i = some C → G.ik[i]? = some q → g.ia c = some D → PySem.W.kitOne K (.ref D) (.ref C) = some (q.sb.contains c)
  inm : ∀ i q, G.ik[i]? = some q → ∃ C, mg q.nm = some (.ref C) ∧ g.ia i = some C
  imk : ∀ c q i, G.ik[c]? = some q → q.ms.lookup ("__init__" : Str) = some i → ∃ C a, mg q.nm = some (.ref C) ∧ g.ia c = some C ∧ g.fa i = some a ∧ Mk K C a
structure Gd (G : Pg) (g : Gm) (k : Nat) (W : WX) (X : Cx) (c : Cn) : Prop where
  N : X.N = c.N
  nd : c.N.Nodup
  sc : X.env.scope = c.sc
  kd : X.env.scope.kind = .function
  fn : ∀ x, c.fn x = true → X.fn x = true
  calm : c.hot = false → X.calm = true
  room : c.hot = false → Room (2 * k + 3) X.A
  units : X.A.units + 64 < cLine
  units2 : X.A.units + 80 < cLine
  tops : c.top = true → X.stack = X.env :: X.outer ∧ X.env.frame = some X.env.locals ∧ X.ex = []
  tx : c.tx = true → ∀ hd : Option Value, PassesOwnAt (model X.prog X.w) (X.A.mark hd) X.A X.env X.xe
  gd : X.A.guards = some []
  tk : Takes X W
  po : PassesOwn (model X.prog X.w) X.A X.env X.xe
  fns : ∀ i F, G.P[i]? = some F → F.own ≠ some 1000 ∧ F.own ≠ some 1001 → ∃ a fd ps, (F.own = none → X.mg F.nm = some (.ref a)) ∧ PySem.W.keepIn X.K (.ref a) = true ∧ Binds X.K fd ps [] ∧ FnG X.prog X.w X.K X.mg X.base (2 * k + 2) a fd ps (spM X.K G.P g k i) ∧ g.fa i = some a
  kws : ∀ i F q, G.P[i]? = some F → F.own = some 1001 → G.kd.lookup i = some q → ∃ a fd ps, X.mg F.nm = some (.ref a) ∧ PySem.W.keepIn X.K (.ref a) = true ∧ KwB X.K g fd ps q.1 q.2 ∧ FnG X.prog X.w X.K X.mg X.base (2 * k + 2) a fd ps (spM X.K G.P g k i)
  nb : ∀ x, G.nb.contains x = true → X.mg x = none
  gl : ∀ x d, G.gl.lookup x = some d → ∃ v u, X.mg x = some u ∧ RelV v u ∧ ∀ ρ H, RV X.K g ρ H d v
  xf : XF X.prog X.w X.K X.mg X.base G g
  lm : c.lm = true → LmAt X g
  lb : ∀ i params body scope, G.lb i params body scope = true → LamChk G i params body scope
  lo : ∀ i params body scope q, LamChk G i params body scope → g.lo i params body scope q
  lms : LamsOk X G.P g (2 * k + 2) k
section
variable {G : Pg} {g : Gm} {k : Nat} {W : WX} {X : Cx} {c : Cn} {pos : Pos}
theorem Gd.isGl (D : Gd G g k W X c) {x : Str} (h : Ev.isGl c x = true) : Gl X x ∧ (x == ("__debug__" : Str)) = false := by
  simp only [Ev.isGl, Bool.and_eq_true, decide_eq_true_eq] at h
  refine ⟨?_, by simpa [dbg] using h.2⟩
  show X.env.scope.names.lookup x = _
  rw [D.sc]
  exact h.1
theorem Gd.isBt (D : Gd G g k W X c) {x : Str} (h : Ev.isBt G c x = true) : Gl X x ∧ X.mg x = none := by
  simp only [Ev.isBt, Bool.and_eq_true] at h
  exact ⟨(D.isGl h.1).1, D.nb x h.2⟩
theorem Gd.loc (D : Gd G g k W X c) {i : Nat} {x : Str} (h : locOk c i x = true) : X.N[i]? = some x ∧ Loc X.env.scope x ∧ (X.fn x = true ∨ X.env.scope.names.lookup x = some .local) := by
  simp only [locOk, Bool.and_eq_true, Bool.or_eq_true, decide_eq_true_eq] at h
  rw [D.N, D.sc]
  refine ⟨h.1, ?_, ?_⟩
  · rcases h.2 with q | ⟨q, _⟩
    · exact .inl q
    · exact .inr q
  · rcases h.2 with q | ⟨_, q⟩
    · exact .inr q
    · exact .inl (D.fn x q)
theorem nmOf_some {e : Expr} {x : Str} (h : nmOf e = some x) : ∃ p, e = .Name x p := by
  unfold nmOf at h
  split at h
  · cases h; exact ⟨_, rfl⟩
  · cases h
theorem nmLoc_some {i : Nat} {o : Option Str} (h : nmLoc c i o = true) : ∃ x, o = some x ∧ locOk c i x = true := by
  cases o with
  | none => cases h
  | some x => exact ⟨x, rfl, h⟩
theorem Gd.names (D : Gd G g k W X c) : ∀ {is : List Nat} {es : List Expr}, namesOk c is es = true → NamesAre X is es
  | [], es, h => by
    cases es with
    | nil => exact .nil
    | cons e es => cases h
  | i :: is, es, h => by
    cases es with
    | nil => cases h
    | cons e es =>
      have h := (Bool.and_eq_true _ _).mp h
      obtain ⟨x, hx, hl⟩ := nmLoc_some h.1
      obtain ⟨p, rfl⟩ := nmOf_some hx
      obtain ⟨h1, h2, h3⟩ := D.loc hl
      exact .cons h1 h2 h3 (D.names h.2)
theorem Gd.tyNames (D : Gd G g k W X c) : ∀ {ts : List String} {es : List Expr}, tyOk G c ts es = true → TyNames X ts es
  | [], es, h => by
    cases es with
    | nil => exact .nil
    | cons e es => cases h
  | t :: ts, es, h => by
    cases es with
    | nil => cases h
    | cons e es =>
      have h := (Bool.and_eq_true _ _).mp h
      have h2 := (Bool.and_eq_true _ _).mp h.1
      have h3 := (Bool.and_eq_true _ _).mp h2.1
      obtain ⟨p, rfl⟩ := nmOf_some (of_decide_eq_true h3.2)
      obtain ⟨a1, a2⟩ := D.isBt h2.2
      exact .cons (of_decide_eq_true h3.1) a1 a2 (D.tyNames h.2)
theorem Gd.tgM (D : Gd G g k W X c) {t : Tg} {e : Expr} (h : tgOk c t e = true) : PG X e (gM X.K g t) := by
  unfold tgOk at h
  split at h
  · obtain ⟨h1, h2, h3⟩ := D.loc h
    exact r_tgN (D.N ▸ D.nd) h1 h2 h3
  · simp only [Bool.and_eq_true, Bool.not_eq_true'] at h
    exact r_tgT (D.calm h.2) (D.N ▸ D.nd) (D.names h.1)
  · cases h
theorem Gd.tgB (D : Gd G g k W X c) {t : Tg} {e : Expr} (h : tgOk c t e = true) : PG X e (gB X.K t) := by
  unfold tgOk at h
  split at h
  · obtain ⟨h1, h2, h3⟩ := D.loc h
    exact r_gBN (D.N ▸ D.nd) h1 h2 h3
  · simp only [Bool.and_eq_true, Bool.not_eq_true'] at h
    exact r_gBT (D.calm h.2) (D.N ▸ D.nd) (D.names h.1)
  · cases h
theorem Gd.blk (D : Gd G g k W X c) {scope : Scope} (hk : scope.kind = .function) (s : Shared) (H : Hp) (C : Addr) (cl : List (Str × Addr)) (fp : List Addr) : Gd G g k F0 (X.blk s H scope (compEnvC scope cl C X.env) fp) (blkCn c scope) where
  N := D.N
  nd := D.nd
  sc := by
    show relabel scope X.env = relS scope c.sc
    rw [← D.sc]
    rfl
  kd := hk
  fn := fun x h => h
  calm := D.calm
  room := D.room
  units := D.units
  units2 := D.units2
  tops := fun z => by cases z
  tx := fun z => by cases z
  gd := D.gd
  tk := takes0
  po := PassesOwn.never
  fns := D.fns
  kws := D.kws
  nb := D.nb
  gl := D.gl
  xf := D.xf
  lm := fun z => by cases z
  lb := D.lb
  lo := D.lo
  lms := D.lms
theorem Gd.tr {W' : WX} (D : Gd G g k W X c) (pn : List (Addr × Obj)) (xe : Value → Shared → Prop) (tk : Takes (X.tr pn xe) W') (po : PassesOwn (model X.prog X.w) X.A X.env xe) : Gd G g k W' (X.tr pn xe) (trCn c) where
  N := D.N
  nd := D.nd
  sc := D.sc
  kd := D.kd
  fn := D.fn
  calm := D.calm
  room := D.room
  units := D.units
  units2 := D.units2
  tops := D.tops
  tx := fun z => by cases z
  gd := D.gd
  tk := tk
  po := po
  fns := D.fns
  kws := D.kws
  nb := D.nb
  gl := D.gl
  xf := D.xf
  lm := D.lm
  lb := D.lb
  lo := D.lo
  lms := D.lms
theorem Gd.suite (D : Gd G g k W X c) (a : Addr) (pn : List (Addr × Obj)) : Gd G g k F0 (X.suite a pn) (hotCn c) where
  N := D.N
  nd := D.nd
  sc := D.sc
  kd := D.kd
  fn := D.fn
  calm := fun z => by cases z
  room := fun z => by cases z
  units := D.units
  units2 := D.units2
  tops := fun z => by cases z
  tx := fun z => by cases z
  gd := D.gd
  tk := takes0
  po := PassesOwn.never
  fns := D.fns
  kws := D.kws
  nb := D.nb
  gl := D.gl
  xf := D.xf
  lm := fun z => by cases z
  lb := D.lb
  lo := D.lo
  lms := D.lms
theorem blkC_kind {N : List Str} {sc scope : Scope} {own : List (Str × Nat)} (h : blkC N sc scope own = true) : scope.kind = .function := by
  unfold blkC at h
  simp only [Bool.and_eq_true] at h
  have h1 := h.1.1.1
  split at h1
  · assumption
  · cases h1
theorem set_plain {e : Expr} (h : notSet e = true) (env : Env) : ∀ x, foldedSetIterable e env x = pure x := by
  intro x
  cases e <;> first | rfl | cases h
theorem marks_plain {e : Expr} {op : CmpOp} (h : notSet e = true) : behindInMarks op e = false := by
  cases e <;> first | rfl | cases h
theorem ix_plain {e : Expr} (h : notSlice e = true) : PlainIx e := by
  intro o i
  cases e <;> first | rfl | cases h
theorem evEs_len {C : Cl} : ∀ {es : Es} {s : Sl} {m : Mu} {ds : List D} {m' : Mu}, evEs C es s m = .ok ds m' → ds.length = lenEs es
  | .nil, s, m, ds, m', h => by simp only [evEs] at h; cases h; rfl
  | .cons e r, s, m, ds, m', h => by
    simp only [evEs] at h
    obtain ⟨d, m1, h1, h⟩ := bind_ok h
    obtain ⟨ds1, m2, h2, h⟩ := bind_ok h
    cases h
    rw [List.length_cons, evEs_len h2, lenEs]
theorem chkEs_len {G : Pg} : ∀ {es : Es} {c : Cn} {xs : List Expr}, chkEs G es c xs = true → xs.length = lenEs es
  | .nil, c, xs, h => by
    simp only [chkEs, List.isEmpty_iff] at h
    rw [h]; rfl
  | .cons e r, c, xs, h => by
    simp only [chkEs] at h
    split at h
    · simp only [Bool.and_eq_true] at h
      rw [List.length_cons, chkEs_len h.2, lenEs]
    · cases h
theorem chkEs_star {G : Pg} : ∀ {es : Es} {c : Cn} {xs : List Expr}, chkEs G es c xs = true → xs.all notStar = true
  | .nil, c, xs, h => by
    simp only [chkEs, List.isEmpty_iff] at h
    rw [h]; rfl
  | .cons e r, c, xs, h => by
    simp only [chkEs] at h
    split at h
    · simp only [Bool.and_eq_true] at h
      rw [List.all_cons, h.1.2, chkEs_star h.2]; rfl
    · cases h
theorem small_line {n : Nat} (h : n ≤ 1000) : n ≤ sizeLine := Nat.le_trans h (by decide)
theorem peq {x : Expr} {f f' : Sl → Mu → R D} (h : PE X x (tE X.K g W f)) (e : ∀ s m, f s m = f' s m) : PE X x (tE X.K g W f') := by
  rw [show f' = f from funext fun s => funext fun m => (e s m).symm]; exact h
theorem teq {x : Expr} {f f' : Sl → Mu → R D} (h : PT X x (tT X.K g W f)) (e : ∀ s m, f s m = f' s m) : PT X x (tT X.K g W f') := by
  rw [show f' = f from funext fun s => funext fun m => (e s m).symm]; exact h
theorem fin_eq {C : Cl} {e : E} {x : Expr} {f : Sl → Mu → R D} (h : PE X x (tE X.K g W f)) (he : ∀ whole, isTrue x X.env whole = (do let v ← whole; standAt x.pos; holding [v] (truthy v)))
    (e0 : ∀ s m, f s m = evE C e false s m) (e1 : ∀ s m, tst true (f s m) = evE C e true s m) : PE X x (tE X.K g W fun s m => evE C e false s m) ∧ (noIte e = true → PT X x (tT X.K g W fun s m => evE C e true s m)) :=
  ⟨peq h e0, fun _ => teq (r_test h he) e1⟩
end
def OkE (G : Pg) (g : Gm) (k : Nat) (e : E) : Prop := ∀ {W : WX} {X : Cx} {c : Cn} {x : Expr}, Gd G g k W X c → chkE G e c x = true →
  PE X x (tE X.K g W fun s m => evE (callF G.P k) e false s m) ∧ (noIte e = true → PT X x (tT X.K g W fun s m => evE (callF G.P k) e true s m))
def OkEs (G : Pg) (g : Gm) (k : Nat) (es : Es) : Prop := (∀ {W : WX} {X : Cx} {c : Cn} {xs : List Expr}, Gd G g k W X c → chkEs G es c xs = true → PA X xs (tA X.K g W fun s m => evEs (callF G.P k) es s m)) ∧
  (∀ {W : WX} {X : Cx} {c : Cn} {xs : List Expr} {pos : Pos}, Gd G g k W X c → chkEs G es c xs = true → 0 < lenEs es →
    PE X (.BoolOp .And xs pos) (tE X.K g W fun s m => evAnd (callF G.P k) es false s m) ∧ (noItes es = true → PW X (.BoolOp .And xs pos) (tT X.K g W fun s m => evAnd (callF G.P k) es true s m)) ∧
    PE X (.BoolOp .Or xs pos) (tE X.K g W fun s m => evOr (callF G.P k) es false s m) ∧ (noItes es = true → PW X (.BoolOp .Or xs pos) (tT X.K g W fun s m => evOr (callF G.P k) es true s m)))
def OkI (G : Pg) (g : Gm) (k : Nat) (i : It) : Prop := ∀ {W : WX} {X : Cx} {c : Cn} {x t : Expr}, Gd G g k W X c → chkI G i c x t = true → PI X t x (tI X.K g W fun s m => evI (callF G.P k) i s m)
section
variable {G : Pg} {g : Gm} {k : Nat}
theorem ok_cst {d : D} : OkE G g k (.cst d) := by
  intro W X c x D h
  simp only [chkE] at h
  split at h
  · rename_i v kk p
    have hc : PE X (.Constant v kk p) (tE X.K g W fun _ m => .ok d m) := by
      unfold cstOk at h
      split at h
      · exact r_cst pe_non fun _ _ => .non
      · rw [decide_eq_true_eq] at h; subst h; exact r_cst pe_bl fun _ _ => .bl _
      · rw [decide_eq_true_eq] at h; subst h; exact r_cst pe_int fun _ _ => .int _
      · rw [decide_eq_true_eq] at h; subst h; exact r_cst pe_str fun _ _ => .str _
      · cases h
    exact fin_eq hc (fun _ => rfl) (fun _ _ => rfl) (fun _ _ => rfl)
  · cases h
theorem ok_var {i : Nat} : OkE G g k (.var i) := by
  intro W X c x D h
  simp only [chkE] at h
  split at h
  · rename_i y p
    simp only [varOk, Bool.and_eq_true, Bool.or_eq_true, decide_eq_true_eq] at h
    obtain ⟨⟨⟨h1, h2⟩, h3⟩, h4⟩ := h
    have hv : Vis X.env.scope y := by
      rw [D.sc]
      rcases h2 with (q | q) | q
      · exact .inl q
      · exact .inr (.inl q)
      · exact .inr (.inr q)
    have hc : PE X (.Name y p) (tE X.K g W fun s m => match s[i]? with | some (some d) => .ok d m | _ => .bad) := r_var (by rw [D.N]; exact h1) hv (by simpa [dbg] using h3) (by simpa using h4)
    exact fin_eq hc (fun _ => rfl) (fun _ _ => rfl) (fun _ _ => rfl)
  · cases h
theorem ok_glob {z : Str} {d : D} : OkE G g k (.glob z d) := by
  intro W X c x D h
  simp only [chkE] at h
  split at h
  · rename_i y p
    simp only [Bool.and_eq_true, decide_eq_true_eq] at h
    obtain ⟨⟨rfl, h2⟩, h3⟩ := h
    split at h3
    · rename_i d' hd
      obtain rfl := eqD_of h3
      obtain ⟨v, u, hm, r, hv⟩ := D.gl _ _ hd
      obtain ⟨h4, h5⟩ := D.isGl h2
      have hc : PE X (.Name z p) (tE X.K g W fun _ m => .ok d m) := r_cst (pe_glob h4 hm r h5) hv
      exact fin_eq hc (fun _ => rfl) (fun _ _ => rfl) (fun _ _ => rfl)
    · cases h3
  · cases h
theorem ok_tup {es : Es} (he : OkEs G g k es) : OkE G g k (.tup es) := by
  intro W X c x D h
  simp only [chkE] at h
  split at h
  · simp only [Bool.and_eq_true, decide_eq_true_eq] at h
    exact fin_eq (r_tup (he.1 D h.1) fun s m ds m' e => by rw [evEs_len e]; exact small_line h.2) (fun _ => rfl) (fun _ _ => rfl) (fun _ _ => rfl)
  · cases h
theorem ok_lst {es : Es} (he : OkEs G g k es) : OkE G g k (.lst es) := by
  intro W X c x D h
  simp only [chkE] at h
  split at h
  · simp only [Bool.and_eq_true, decide_eq_true_eq] at h
    exact fin_eq (r_lst (he.1 D h.1) fun s m ds m' e => by rw [evEs_len e]; exact small_line h.2) (fun _ => rfl) (fun _ _ => rfl) (fun _ _ => rfl)
  · cases h
theorem ok_lstL {es : Es} (he : OkEs G g k es) : OkE G g k (.lstL es) := by
  intro W X c x D h
  simp only [chkE] at h
  split at h
  · simp only [Bool.and_eq_true, decide_eq_true_eq] at h
    exact fin_eq (r_lstL (he.1 D h.1) fun s m ds m' e => by rw [evEs_len e]; exact small_line h.2) (fun _ => rfl) (fun _ _ => rfl) (fun _ _ => rfl)
  · cases h
theorem ok_dct : OkE G g k .dctE := by
  intro W X c x D h
  exact absurd h (by simp [chkE])
theorem ok_bin {op : Operator} {a b : E} (ha : OkE G g k a) (hb : OkE G g k b) : OkE G g k (.bin op a b) := by
  intro W X c x D h
  simp only [chkE] at h
  split at h
  · simp only [Bool.and_eq_true, decide_eq_true_eq] at h
    obtain ⟨⟨rfl, h1⟩, h2⟩ := h
    exact fin_eq (r_bin op (ha D h1).1 (hb D h2).1) (fun _ => rfl) (fun _ _ => rfl) (fun _ _ => rfl)
  · cases h
theorem ok_neg {a : E} (ha : OkE G g k a) : OkE G g k (.neg a) := by
  intro W X c x D h
  simp only [chkE] at h
  split at h
  · exact fin_eq (r_neg (ha D h).1) (fun _ => rfl) (fun _ _ => rfl) (fun _ _ => rfl)
  · cases h
theorem ok_not {a : E} (ha : OkE G g k a) : OkE G g k (.not a) := by
  intro W X c x D h
  simp only [chkE] at h
  split at h
  · exact ⟨peq (r_not (ha D h).1) fun _ _ => rfl, fun q => teq (r_notT ((ha D h).2 q)) fun _ _ => rfl⟩
  · cases h
theorem ok_cmp {op : CmpOp} {a b : E} (ha : OkE G g k a) (hb : OkE G g k b) : OkE G g k (.cmp op a b) := by
  intro W X c x D h
  simp only [chkE] at h
  split at h
  · simp only [Bool.and_eq_true, decide_eq_true_eq] at h
    obtain ⟨⟨⟨rfl, h1⟩, h2⟩, h3⟩ := h
    exact ⟨peq (r_cmp D.xf.pr D.units op (ha D h1).1 (hb D h2).1 (marks_plain h3)) fun _ _ => rfl, fun _ => teq (r_cmpT D.xf.pr D.units op (ha D h1).1 (hb D h2).1 (marks_plain h3)) fun _ _ => rfl⟩
  · cases h
theorem ok_chain {o1 o2 : CmpOp} {a b d : E} (ha : OkE G g k a) (hb : OkE G g k b) (hd : OkE G g k d) : OkE G g k (.chain o1 o2 a b d) := by
  intro W X c x D h
  simp only [chkE] at h
  split at h
  · simp only [Bool.and_eq_true, decide_eq_true_eq] at h
    obtain ⟨⟨⟨⟨⟨rfl, rfl⟩, h1⟩, h2⟩, h3⟩, h4⟩ := h
    exact ⟨peq (r_chain D.xf.pr D.units o1 o2 (ha D h1).1 (hb D h2).1 (hd D h3).1 (marks_plain h4)) fun _ _ => rfl, fun _ => teq (r_chainT D.xf.pr D.units o1 o2 (ha D h1).1 (hb D h2).1 (hd D h3).1 (marks_plain h4)) fun _ _ => rfl⟩
  · cases h
theorem ok_and {es : Es} (he : OkEs G g k es) : OkE G g k (.and es) := by
  intro W X c x D h
  simp only [chkE] at h
  split at h
  · simp only [Bool.and_eq_true, decide_eq_true_eq] at h
    exact ⟨peq (he.2 D h.1 h.2).1 fun _ _ => rfl, fun n => teq (PW.pt ((he.2 D h.1 h.2).2.1 n)) fun _ _ => rfl⟩
  · cases h
theorem ok_or {es : Es} (he : OkEs G g k es) : OkE G g k (.or es) := by
  intro W X c x D h
  simp only [chkE] at h
  split at h
  · simp only [Bool.and_eq_true, decide_eq_true_eq] at h
    exact ⟨peq (he.2 D h.1 h.2).2.2.1 fun _ _ => rfl, fun n => teq (PW.pt ((he.2 D h.1 h.2).2.2.2 n)) fun _ _ => rfl⟩
  · cases h
theorem ok_ite {d a b : E} (hd : OkE G g k d) (ha : OkE G g k a) (hb : OkE G g k b) : OkE G g k (.ite d a b) := by
  intro W X c x D h
  simp only [chkE] at h
  split at h
  · simp only [Bool.and_eq_true, decide_eq_true_eq] at h
    obtain ⟨⟨⟨h1, h2⟩, h3⟩, h4⟩ := h
    exact ⟨peq (r_ite ((hd D h1).2 h2) (ha D h3).1 (hb D h4).1) fun _ _ => rfl, fun q => by cases q⟩
  · cases h
theorem ok_ix {a b : E} (ha : OkE G g k a) (hb : OkE G g k b) : OkE G g k (.ix a b) := by
  intro W X c x D h
  simp only [chkE] at h
  split at h
  · simp only [Bool.and_eq_true] at h
    obtain ⟨⟨h1, h2⟩, h3⟩ := h
    exact fin_eq (r_ix D.xf.pr (ha D h1).1 (hb D h2).1 (ix_plain h3)) (fun _ => rfl) (fun _ _ => rfl) (fun _ _ => rfl)
  · cases h
theorem abs_of {e : E} (h : isAbs e = true) : e = .abs := by
  cases e <;> first | rfl | cases h
theorem ok_part {W : WX} {X : Cx} {c : Cn} {lo : E} {l : Option Expr} (hl : OkE G g k lo) (D : Gd G g k W X c) (h : (match l with | none => isAbs lo | some l => !(isAbs lo) && chkE G lo c l) = true) :
    PO X l (tP X.K g W (isAbs lo) fun s m => evE (callF G.P k) lo false s m) := by
  cases l with
  | none =>
    obtain rfl := abs_of h
    exact r_part0
  | some e =>
    simp only [Bool.and_eq_true, Bool.not_eq_true'] at h
    rw [h.1]
    exact r_part1 (hl D h.2).1
theorem ok_sl {a lo hi : E} (ha : OkE G g k a) (hl : OkE G g k lo) (hh : OkE G g k hi) : OkE G g k (.sl a lo hi) := by
  intro W X c x D h
  simp only [chkE] at h
  split at h
  · rename_i y l u p1 p2
    simp only [Bool.and_eq_true] at h
    obtain ⟨⟨h1, h2⟩, h3⟩ := h
    exact fin_eq (r_sl (ha D h1).1 (ok_part hl D h2) (ok_part hh D h3)) (fun _ => rfl) (fun _ _ => rfl) (fun _ _ => rfl)
  · cases h
theorem ok_slL {a lo hi : E} (ha : OkE G g k a) (hl : OkE G g k lo) (hh : OkE G g k hi) : OkE G g k (.slL a lo hi) := by
  intro W X c x D h
  exact absurd h (by simp [chkE])
theorem ok_rev {a : E} (ha : OkE G g k a) : OkE G g k (.rev a) := by
  intro W X c x D h
  exact absurd h (by simp [chkE])
theorem ok_lrg {a : E} (ha : OkE G g k a) : OkE G g k (.lrg a) := by
  intro W X c x D h
  simp only [chkE] at h
  split at h
  · simp only [Bool.and_eq_true, decide_eq_true_eq, Bool.not_eq_true'] at h
    obtain ⟨⟨⟨⟨⟨⟨hot, rfl⟩, rfl⟩, h1⟩, h2⟩, h3⟩, h4⟩ := h
    obtain ⟨a1, a2⟩ := D.isBt h1
    obtain ⟨b1, b2⟩ := D.isBt h2
    exact fin_eq (r_lrg (D.calm hot) a1 a2 b1 b2 (ha D h3).1 (star_cons h4)) (fun _ => rfl) (fun _ _ => rfl) (fun _ _ => rfl)
  · cases h
theorem ok_call {z : Str} {f : Nat} {es : Es} (he : OkEs G g k es) : OkE G g k (.call z f es) := by
  intro W X c x D h
  simp only [chkE] at h
  split at h
  · rename_i y p xs p2
    simp only [Bool.and_eq_true, decide_eq_true_eq, Bool.not_eq_true'] at h
    obtain ⟨⟨⟨⟨hot, rfl⟩, h2⟩, h3⟩, h4⟩ := h
    split at h3
    · rename_i Fx hF
      rw [Bool.and_eq_true, decide_eq_true_eq, Option.isNone_iff_eq_none] at h3
      obtain ⟨rfl, h3⟩ := h3
      obtain ⟨l, fd, ps, hm, hk, hb, hF2, _⟩ := D.fns _ _ hF ⟨(fun z => by rw [h3] at z; cases z), (fun z => by rw [h3] at z; cases z)⟩
      have hm := hm h3
      obtain ⟨h5, h6⟩ := D.isGl h2
      have hc : PE X (.Call (.Name Fx.nm p) xs [] p2) (tE X.K g W fun s m => (evEs (callF G.P k) es s m).bind fun ds m => callF G.P k f ds m) := by
        cases xs with
        | nil =>
          have : es = .nil := by
            have := chkEs_len h4
            cases es with
            | nil => rfl
            | cons e r => simp [lenEs] at this
          subst this
          exact peq (r_call0 hF2 ((D.room hot).mono (by omega)) D.gd h5 hm hk hb D.tk h6) fun _ _ => rfl
        | cons e r => exact r_call hF2 ((D.room hot).mono (by omega)) D.gd h5 hm hk hb D.tk (he.1 D h4) (chkEs_star h4) h6
      exact fin_eq hc (fun _ => rfl) (fun _ _ => rfl) (fun _ _ => rfl)
    · cases h3
  · cases h
theorem ok_callK {z : Str} {f : Nat} {es : Es} {nm : Str} {e : E} (he : OkEs G g k es) (h1 : OkE G g k e) : OkE G g k (.callK z f es nm e) := by
  intro W X c x D h
  exact absurd h (by simp [chkE])
theorem ok_callN {z : Str} {f : Nat} {es : Es} {d : D} (he : OkEs G g k es) : OkE G g k (.callN z f es d) := by
  intro W X c x D h
  exact absurd h (by simp [chkE])
theorem ok_callZ {z : Str} {f : Nat} {es : Es} (he : OkEs G g k es) : OkE G g k (.callZ z f es) := by
  intro W X c x D h
  exact absurd h (by simp [chkE])
theorem ok_callD {z : Str} {f : Nat} {es : Es} (he : OkEs G g k es) : OkE G g k (.callD z f es) := by
  intro W X c x D h
  exact absurd h (by simp [chkE])
theorem ok_bi {z : Str} {b : Bi} {es : Es} (he : OkEs G g k es) : OkE G g k (.bi z b es) := by
  intro W X c x D h
  simp only [chkE] at h
  split at h
  · rename_i y p xs p2
    simp only [Bool.and_eq_true, Bool.or_eq_true, decide_eq_true_eq, Bool.not_eq_true'] at h
    obtain ⟨⟨⟨⟨⟨⟨hot, rfl⟩, rfl⟩, h2⟩, h3⟩, h4⟩, h5⟩ := h
    obtain ⟨h6, h7⟩ := D.isBt h3
    cases xs with
    | nil =>
      have := chkEs_len h5
      simp at this
      omega
    | cons e r =>
      rcases h2 with h2 | rfl
      rotate_left
      · exact fin_eq (r_biStr (p := p) (pos := p2) D.gd D.units h6 h7 (he.1 D h5) (chkEs_star h5)) (fun _ => rfl) (fun _ _ => rfl) (fun _ _ => rfl)
      rcases hot with ((hot | rfl) | rfl) | rfl
      rotate_right
      · cases h2
      · exact fin_eq (r_bi (p := p) (pos := p2) h2 (D.calm hot) D.gd (D.room hot) h6 h7 (he.1 D h5) (chkEs_star h5)) (fun _ => rfl) (fun _ _ => rfl) (fun _ _ => rfl)
      · exact fin_eq (r_biInt (p := p) (pos := p2) h6 h7 (he.1 D h5) (chkEs_star h5)) (fun _ => rfl) (fun _ _ => rfl) (fun _ _ => rfl)
      · exact fin_eq (r_biRepr (p := p) (pos := p2) D.gd D.units h6 h7 (he.1 D h5) (chkEs_star h5)) (fun _ => rfl) (fun _ _ => rfl) (fun _ _ => rfl)
  · cases h
theorem nil_of {es : Es} (h : lenEs es = 0) : es = .nil := by
  cases es with
  | nil => rfl
  | cons e r => simp [lenEs] at h
theorem ok_mt {kk : Mt} {a : E} {es : Es} (ha : OkE G g k a) (he : OkEs G g k es) : OkE G g k (.mt kk a es) := by
  intro W X c x D h
  exact absurd h (by simp [chkE])
theorem ok_isi {a : E} {ts : List String} {tp : Bool} (ha : OkE G g k a) : OkE G g k (.isi a ts tp) := by
  intro W X c x D h
  simp only [chkE] at h
  split at h
  · simp only [Bool.and_eq_true, decide_eq_true_eq] at h
    obtain ⟨⟨⟨⟨⟨⟨h1, rfl⟩, h2⟩, h3⟩, h4⟩, h5⟩, h6⟩ := h
    split at h1
    · rename_i t
      simp only [Bool.and_eq_true, decide_eq_true_eq] at h1
      obtain ⟨h7, rfl⟩ := h1
      obtain ⟨a1, a2⟩ := D.isBt h2
      obtain ⟨b1, b2⟩ := D.isBt h3
      exact fin_eq (r_isi h7 a1 a2 b1 b2 (ha D h4).1 h5) (fun _ => rfl) (fun _ _ => rfl) (fun _ _ => rfl)
    · cases h1
  · simp only [Bool.and_eq_true, decide_eq_true_eq] at h
    obtain ⟨⟨⟨⟨⟨⟨h1, h2⟩, rfl⟩, h3⟩, h4⟩, h5⟩, h6⟩ := h
    obtain ⟨a1, a2⟩ := D.isBt h3
    exact fin_eq (r_isiTp (D.tyNames h1) h2 a1 a2 (ha D h4).1 h5) (fun _ => rfl) (fun _ _ => rfl) (fun _ _ => rfl)
  · cases h
theorem ok_new {z : Str} {cl f : Nat} {es : Es} (he : OkEs G g k es) : OkE G g k (.new z cl f es) := by
  intro W X c x D h
  exact absurd h (by simp [chkE])
theorem ok_fld {a : E} {f : Str} {cs : List Nat} (ha : OkE G g k a) : OkE G g k (.fld a f cs) := by
  intro W X c x D h
  exact absurd h (by simp [chkE])
theorem ok_meth {a : E} {n : Str} {tb : List (Nat × Nat)} {es : Es} (ha : OkE G g k a) (he : OkEs G g k es) : OkE G g k (.meth a n tb es) := by
  intro W X c x D h
  exact absurd h (by simp [chkE])
theorem ok_eqO {neg : Bool} {a b : E} {tb sb : List (Nat × Nat)} (ha : OkE G g k a) (hb : OkE G g k b) : OkE G g k (.eqO neg a b tb sb) := by
  intro W X c x D h
  exact absurd h (by simp [chkE])
theorem ok_lenO {a : E} {tb : List (Nat × Nat)} (ha : OkE G g k a) : OkE G g k (.lenO a tb) := by
  intro W X c x D h
  exact absurd h (by simp [chkE])
theorem ok_strO {a : E} {tb : List (Nat × Nat)} (ha : OkE G g k a) : OkE G g k (.strO a tb) := by
  intro W X c x D h
  exact absurd h (by simp [chkE])
theorem ok_fs1 {a : E} (ha : OkE G g k a) : OkE G g k (.fs1 a) := by
  intro W X c x D h
  exact absurd h (by simp [chkE])
theorem ok_iin {a : E} {v : Str} {i : Nat} {cs : List Nat} (ha : OkE G g k a) : OkE G g k (.iin a v i cs) := by
  intro W X c x D h
  exact absurd h (by simp [chkE])
theorem ok_binL {op : Operator} {a b : E} (ha : OkE G g k a) (hb : OkE G g k b) : OkE G g k (.binL op a b) := by
  intro W X c x D h
  exact absurd h (by simp [chkE])
theorem ok_orV {a b : E} (ha : OkE G g k a) (hb : OkE G g k b) : OkE G g k (.orV a b) := by
  intro W X c x D h
  simp only [chkE] at h
  split at h
  · simp only [Bool.and_eq_true] at h
    exact ⟨peq (r_orV (ha D h.1).1 (hb D h.2).1) fun _ _ => rfl, fun q => by cases q⟩
  · cases h
theorem ok_bad : OkE G g k .bad := by
  intro W X c x D h
  exact ⟨peq r_badE fun _ _ => rfl, fun _ => teq r_badT fun _ _ => rfl⟩
theorem ok_eis {a : E} {xs : List Str} {cs : List Nat} {tp : Bool} (ha : OkE G g k a) : OkE G g k (.eis a xs cs tp) := by
  intro W X c x D h
  exact absurd h (by simp [chkE])
theorem lookup_mem {α β : Type} [BEq α] [LawfulBEq α] {x : α} {y : β} : ∀ {l : List (α × β)}, l.lookup x = some y → (x, y) ∈ l
  | [], h => by cases h
  | (a, b) :: r, h => by
    rw [List.lookup_cons] at h
    cases e : x == a with
    | true =>
      rw [e] at h
      cases h
      rw [beq_iff_eq.mp e]
      exact List.mem_cons_self
    | false =>
      rw [e] at h
      exact List.mem_cons_of_mem _ (lookup_mem h)
theorem ok_efl {a : E} {f : Str} {tb : List (Nat × Nat)} (ha : OkE G g k a) : OkE G g k (.efl a f tb) := by
  intro W X c x D h
  exact absurd h (by simp [chkE])
theorem ok_callV {a : E} {es : Es} (ha : OkE G g k a) (he : OkEs G g k es) : OkE G g k (.callV a es) := by
  intro W X c x D h
  exact absurd h (by simp [chkE])
end
end Ev
namespace Ev
open PySem PySem.Spec PyProof.Rows L2
section
variable {G : Pg} {g : Gm} {k : Nat}
theorem aeq {X : Cx} {W : WX} {xs : List Expr} {f f' : Sl → Mu → R (List D)} (h : PA X xs (tA X.K g W f)) (e : ∀ s m, f s m = f' s m) : PA X xs (tA X.K g W f') := by
  rw [show f' = f from funext fun s => funext fun m => (e s m).symm]; exact h
theorem weq {X : Cx} {W : WX} {x : Expr} {f f' : Sl → Mu → R D} (h : PW X x (tT X.K g W f)) (e : ∀ s m, f s m = f' s m) : PW X x (tT X.K g W f') := by
  rw [show f' = f from funext fun s => funext fun m => (e s m).symm]; exact h
theorem ieq {X : Cx} {W : WX} {t x : Expr} {f f' : Sl → Mu → R (List D)} (h : PI X t x (tI X.K g W f)) (e : ∀ s m, f s m = f' s m) : PI X t x (tI X.K g W f') := by
  rw [show f' = f from funext fun s => funext fun m => (e s m).symm]; exact h
theorem ok_nil : OkEs G g k .nil := by
  constructor
  · intro W X c xs D h
    simp only [chkEs, List.isEmpty_iff] at h
    subst h
    exact aeq r_nil fun _ _ => rfl
  · intro W X c xs pos D h hl
    simp [lenEs] at hl
theorem ok_cons {e : E} {r : Es} (he : OkE G g k e) (hr : OkEs G g k r) : OkEs G g k (.cons e r) := by
  constructor
  · intro W X c xs D h
    simp only [chkEs] at h
    split at h
    · simp only [Bool.and_eq_true] at h
      exact aeq (r_cons (he D h.1.1).1 (hr.1 D h.2) (star_cons h.1.2)) fun _ _ => rfl
    · cases h
  · intro W X c xs pos D h hl
    simp only [chkEs] at h
    split at h
    · rename_i x q
      simp only [Bool.and_eq_true] at h
      have hx := he D h.1.1
      cases r with
      | nil =>
        have hq := h.2
        simp only [chkEs, List.isEmpty_iff] at hq
        subst hq
        refine ⟨peq (pe_one hx.1) fun _ _ => rfl, fun n => ?_, peq (pe_one hx.1) fun _ _ => rfl, fun n => ?_⟩
        · simp only [noItes, Bool.and_true] at n
          exact weq (pw_and1 (hx.2 n)) fun _ _ => rfl
        · simp only [noItes, Bool.and_true] at n
          exact weq (pw_or1 (hx.2 n)) fun _ _ => rfl
      | cons e2 r2 =>
        have hq := h.2
        cases q with
        | nil => simp [chkEs] at hq
        | cons y q2 =>
          have ih := fun (pos : Pos) => hr.2 (pos := pos) D hq (by simp [lenEs])
          refine ⟨peq (r_and hx.1 (ih pos).1) fun _ _ => rfl, fun n => ?_, peq (r_or hx.1 (ih pos).2.2.1) fun _ _ => rfl, fun n => ?_⟩
          · have n2 := n
            simp only [noItes, Bool.and_eq_true] at n2
            exact weq (r_andT (hx.2 n2.1) ((ih pos).2.1 (by simp only [noItes, Bool.and_eq_true]; exact n2.2))) fun _ _ => rfl
          · have n2 := n
            simp only [noItes, Bool.and_eq_true] at n2
            exact weq (r_orT (hx.2 n2.1) ((ih pos).2.2.2 (by simp only [noItes, Bool.and_eq_true]; exact n2.2))) fun _ _ => rfl
    · cases h
theorem ok_of {e : E} (he : OkE G g k e) : OkI G g k (.of e) := by
  intro W X c x t D h
  simp only [chkI] at h
  exact ieq (r_itOf (he D h).1) fun _ _ => rfl
theorem pa1 {X : Cx} {W : WX} {a : Expr} {fa : Sl → Mu → R D} (ha : PE X a (tE X.K g W fa)) (hs : notStar a = true) : PA X [a] (tA X.K g W fun s m => (fa s m).bind fun d m => (.ok [d] m)) :=
  aeq (r_cons ha r_nil (star_cons hs)) fun _ _ => rfl
theorem ok_rng1 {a : E} (ha : OkE G g k a) : OkI G g k (.rng1 a) := by
  intro W X c x t D h
  simp only [chkI] at h
  split at h
  · simp only [Bool.and_eq_true, decide_eq_true_eq] at h
    obtain ⟨⟨⟨rfl, h1⟩, h2⟩, h3⟩ := h
    obtain ⟨a1, a2⟩ := D.isBt h1
    exact ieq (r_rng1 a1 a2 (pa1 (ha D h2).1 h3) (star_cons h3)) fun _ _ => rfl
  · cases h
theorem ok_rng2 {a b : E} (ha : OkE G g k a) (hb : OkE G g k b) : OkI G g k (.rng2 a b) := by
  intro W X c x t D h
  exact absurd h (by simp [chkI])
theorem ok_rng3 {a b d : E} (ha : OkE G g k a) (hb : OkE G g k b) (hd : OkE G g k d) : OkI G g k (.rng3 a b d) := by
  intro W X c x t D h
  exact absurd h (by simp [chkI])
theorem ok_enum {a : E} (ha : OkE G g k a) : OkI G g k (.enum a) := by
  intro W X c x t D h
  exact absurd h (by simp [chkI])
theorem ok_enumS {a : E} (ha : OkE G g k a) : OkI G g k (.enumS a) := by
  intro W X c x t D h
  exact absurd h (by simp [chkI])
theorem ok_zip {a b : E} (ha : OkE G g k a) (hb : OkE G g k b) : OkI G g k (.zip a b) := by
  intro W X c x t D h
  exact absurd h (by simp [chkI])
theorem ok_zipS {a b : E} (ha : OkE G g k a) (hb : OkE G g k b) : OkI G g k (.zipS a b) := by
  intro W X c x t D h
  exact absurd h (by simp [chkI])
theorem ok_zipM {a b : E} (ha : OkE G g k a) (hb : OkE G g k b) : OkI G g k (.zipM a b) := by
  intro W X c x t D h
  exact absurd h (by simp [chkI])
theorem ok_zipSM {a b : E} (ha : OkE G g k a) (hb : OkE G g k b) : OkI G g k (.zipSM a b) := by
  intro W X c x t D h
  exact absurd h (by simp [chkI])
theorem ownOf_snd (c : Cn) (t : Tg) : (ownOf c t).map (·.2) = ownT t := by
  unfold ownOf
  rw [List.map_map]
  exact List.map_id _
theorem trueC_of {e : E} (h : isTrueC e = true) : e = .cst (.bl true) := by
  unfold isTrueC at h
  split at h
  · rfl
  · cases h
theorem ok_ifs {X : Cx} {c : Cn} {d : E} {ifs : List Expr} (hd : OkE G g k d) (D : Gd G g k F0 X c) (hn : noIte d = true) (h : (match ifs with | [] => isTrueC d | [z] => chkE G d c z | _ => false) = true) :
    PTs X ifs (tT X.K g F0 fun s m => evE (callF G.P k) d true s m) := by
  split at h
  · obtain rfl := trueC_of h
    exact r_ifs0
  · exact pts_one ((hd D h).2 hn)
  · cases h
theorem lc_parts {W : WX} {X : Cx} {c : Cn} {elt d : E} {tg : Tg} {it : It} {y tg' iter : Expr} {ifs : List Expr} {scope : Scope} (he : OkE G g k elt) (hi : OkI G g k it) (hd : OkE G g k d) (D : Gd G g k W X c)
    (h2 : chkI G it c iter tg' = true) (h4 : blkC c.N c.sc scope (ownOf c tg) = true) (h5 : tgOk (blkCn c scope) tg tg' = true) (h6 : noIte d = true)
    (h7 : (match ifs with | [] => isTrueC d | [z] => chkE G d (blkCn c scope) z | _ => false) = true) (h8 : chkE G elt (blkCn c scope) y = true) :
    PI X tg' iter (tI X.K g W fun s m => evI (callF G.P k) it s m) ∧ BlkOk X.N X.env.scope scope (ownOf c tg) ∧
    (∀ (s : Shared) (H : Hp) (C : Addr) (cl : List (Str × Addr)) (fp : List Addr), PG (X.blk s H scope (compEnvC scope cl C X.env) fp) tg' (gB X.K tg)) ∧
    (∀ (s : Shared) (H : Hp) (C : Addr) (cl : List (Str × Addr)) (fp : List Addr), PTs (X.blk s H scope (compEnvC scope cl C X.env) fp) ifs (tT X.K g F0 fun s m => evE (callF G.P k) d true s m)) ∧
    (∀ (s : Shared) (H : Hp) (C : Addr) (cl : List (Str × Addr)) (fp : List Addr), PE (X.blk s H scope (compEnvC scope cl C X.env) fp) y (tE X.K g F0 fun s m => evE (callF G.P k) elt false s m)) := by
  have hk := blkC_kind h4
  refine ⟨hi D h2, by rw [D.N, D.sc]; exact blkOk_by h4, fun s H C cl fp => (D.blk hk s H C cl fp).tgB h5, fun s H C cl fp => ok_ifs hd (D.blk hk s H C cl fp) h6 h7, fun s H C cl fp => (he (D.blk hk s H C cl fp) h8).1⟩
theorem ok_lc {elt d : E} {tg : Tg} {it : It} (he : OkE G g k elt) (hi : OkI G g k it) (hd : OkE G g k d) : OkE G g k (.lc elt tg it d) := by
  intro W X c x D h
  simp only [chkE] at h
  split at h
  · simp only [Bool.and_eq_true, decide_eq_true_eq, Bool.not_eq_true'] at h
    obtain ⟨⟨⟨⟨⟨⟨⟨⟨hot, rfl⟩, h2⟩, h3⟩, h4⟩, h5⟩, h6⟩, h7⟩, h8⟩ := h
    obtain ⟨a1, a2, a3, a4, a5⟩ := lc_parts he hi hd D h2 h4 h5 h6 h7 h8
    exact fin_eq (r_lc (D.calm hot) (D.N ▸ D.nd) a1 a2 (ownOf_snd c tg) a3 a4 a5 (set_plain h3 _)) (fun _ => rfl) (fun _ _ => rfl) (fun _ _ => rfl)
  · cases h
theorem ok_lcX {elt : E} {tg : Tg} {it : It} (he : OkE G g k elt) (hi : OkI G g k it) : OkE G g k (.lcX elt tg it) := by
  intro W X c x D h
  exact absurd h (by simp [chkE])
theorem ok_lcL {elt d : E} {tg : Tg} {it : It} (he : OkE G g k elt) (hi : OkI G g k it) (hd : OkE G g k d) : OkE G g k (.lcL elt tg it d) := by
  intro W X c x D h
  exact absurd h (by simp [chkE])
theorem ok_lc2 {elt d : E} {tg tg1 : Tg} {it it1 : It} (he : OkE G g k elt) (hi : OkI G g k it) (hi1 : OkI G g k it1) (hd : OkE G g k d) : OkE G g k (.lc2 elt tg it tg1 it1 d) := by
  intro W X c x D h
  exact absurd h (by simp [chkE])
theorem ok_dctL : OkE G g k .dctL := by
  intro W X c x D h
  exact absurd h (by simp [chkE])
theorem ok_dget {a b : E} (ha : OkE G g k a) (hb : OkE G g k b) : OkE G g k (.dget a b) := by
  intro W X c x D h
  exact absurd h (by simp [chkE])
theorem ok_din {neg : Bool} {a b : E} (ha : OkE G g k a) (hb : OkE G g k b) : OkE G g k (.din neg a b) := by
  intro W X c x D h
  exact absurd h (by simp [chkE])
theorem ok_dg2 {a b d : E} (ha : OkE G g k a) (hb : OkE G g k b) (hd : OkE G g k d) : OkE G g k (.dg2 a b d) := by
  intro W X c x D h
  exact absurd h (by simp [chkE])
theorem ok_dg1 {a b : E} (ha : OkE G g k a) (hb : OkE G g k b) : OkE G g k (.dg1 a b) := by
  intro W X c x D h
  exact absurd h (by simp [chkE])
theorem pa_one {W : WX} {X : Cx} {c : Cn} {a : E} {z : Expr} (ha : OkE G g k a) (D : Gd G g k W X c) (h1 : chkE G a c z = true) (h2 : notStar z = true) : PA X [z] (tA X.K g W fun s m => (evE (callF G.P k) a false s m).bind fun d m => .ok [d] m) :=
  (ok_cons ha ok_nil).1 D (xs := [z]) (by simp [chkEs, h1, h2])
theorem ok_dls {a : E} (ha : OkE G g k a) : OkE G g k (.dls a) := by
  intro W X c x D h
  exact absurd h (by simp [chkE])
theorem ok_ditL : OkE G g k .ditL := by
  intro W X c x D h
  exact absurd h (by simp [chkE])
theorem ok_dig1 {a b : E} (ha : OkE G g k a) (hb : OkE G g k b) : OkE G g k (.dig1 a b) := by
  intro W X c x D h
  exact absurd h (by simp [chkE])
theorem ok_lsL {a : E} (ha : OkE G g k a) : OkE G g k (.lsL a) := by
  intro W X c x D h
  exact absurd h (by simp [chkE])
theorem ok_lset {a : E} (ha : OkE G g k a) : OkE G g k (.lset a) := by
  intro W X c x D h
  exact absurd h (by simp [chkE])
theorem ok_dilen {a : E} (ha : OkE G g k a) : OkE G g k (.dilen a) := by
  intro W X c x D h
  exact absurd h (by simp [chkE])
theorem ok_lcK {elt d : E} {tg : Tg} {v : Nat} (he : OkE G g k elt) (hd : OkE G g k d) : OkE G g k (.lcK elt tg v d) := by
  intro W X c x D h
  exact absurd h (by simp [chkE])
theorem ok_lcV {lv : Bool} {elt a d : E} {tg : Tg} (he : OkE G g k elt) (ha : OkE G g k a) (hd : OkE G g k d) : OkE G g k (.lcV lv elt tg a d) := by
  intro W X c x D h
  exact absurd h (by simp [chkE])
theorem ok_lrg2 {a b : E} (ha : OkE G g k a) (hb : OkE G g k b) : OkE G g k (.lrg2 a b) := by
  intro W X c x D h
  exact absurd h (by simp [chkE])
theorem ok_rpl {es : Es} (he : OkEs G g k es) : OkE G g k (.rpl es) := by
  intro W X c x D h
  exact absurd h (by simp [chkE])
theorem ok_tts {es : Es} (he : OkEs G g k es) : OkE G g k (.tts es) := by
  intro W X c x D h
  exact absurd h (by simp [chkE])
theorem ok_ttv {a : E} (ha : OkE G g k a) : OkE G g k (.ttv a) := by
  intro W X c x D h
  exact absurd h (by simp [chkE])
theorem ok_trg {a : E} (ha : OkE G g k a) : OkE G g k (.trg a) := by
  intro W X c x D h
  exact absurd h (by simp [chkE])
theorem ok_dof {a : E} (ha : OkE G g k a) : OkE G g k (.dof a) := by
  intro W X c x D h
  exact absurd h (by simp [chkE])
theorem ok_dig {a b : E} (ha : OkE G g k a) (hb : OkE G g k b) : OkE G g k (.dig a b) := by
  intro W X c x D h
  exact absurd h (by simp [chkE])
theorem ok_dii {neg : Bool} {a b : E} (ha : OkE G g k a) (hb : OkE G g k b) : OkE G g k (.dii neg a b) := by
  intro W X c x D h
  exact absurd h (by simp [chkE])
theorem ok_disi {a : E} (ha : OkE G g k a) : OkE G g k (.disi a) := by
  intro W X c x D h
  exact absurd h (by simp [chkE])
theorem ok_srtk {a : E} {z : Str} {f : Nat} (ha : OkE G g k a) : OkE G g k (.srtk a z f) := by
  intro W X c x D h
  exact absurd h (by simp [chkE])
theorem ok_lam {i : Nat} : OkE G g k (.lam i) := by
  intro W X c x D h
  exact absurd h (by simp [chkE])
theorem ok_srtl {lv : Bool} {a : E} {f : Nat} (ha : OkE G g k a) : OkE G g k (.srtl lv a f) := by
  intro W X c x D h
  exact absurd h (by simp [chkE])
theorem ok_dsrt {a : E} (ha : OkE G g k a) : OkE G g k (.dsrt a) := by
  intro W X c x D h
  exact absurd h (by simp [chkE])
theorem ok_dmL : OkE G g k .dmL := by
  intro W X c x D h
  simp only [chkE] at h
  split at h
  · exact fin_eq (r_dmL D.xf.pr) (fun _ => rfl) (fun _ _ => rfl) (fun _ _ => rfl)
  · cases h
theorem ok_dmix {a b : E} (ha : OkE G g k a) (hb : OkE G g k b) : OkE G g k (.dmix a b) := by
  intro W X c x D h
  exact absurd h (by simp [chkE])
theorem ok_dmin {neg : Bool} {a b : E} (ha : OkE G g k a) (hb : OkE G g k b) : OkE G g k (.dmin neg a b) := by
  intro W X c x D h
  exact absurd h (by simp [chkE])
theorem ok_dmsrt {a : E} (ha : OkE G g k a) : OkE G g k (.dmsrt a) := by
  intro W X c x D h
  exact absurd h (by simp [chkE])
theorem ok_dc {kk v : E} {tg : Tg} {it : It} (hk : OkE G g k kk) (hv : OkE G g k v) (hi : OkI G g k it) : OkE G g k (.dc kk v tg it) := by
  intro W X c x D h
  exact absurd h (by simp [chkE])
theorem ok_dnC {kk v : E} {tg : Tg} {it : It} (hk : OkE G g k kk) (hv : OkE G g k v) (hi : OkI G g k it) : OkE G g k (.dnC kk v tg it) := by
  intro W X c x D h
  exact absurd h (by simp [chkE])
theorem ok_dng {a b d : E} (ha : OkE G g k a) (hb : OkE G g k b) (hd : OkE G g k d) : OkE G g k (.dng a b d) := by
  intro W X c x D h
  exact absurd h (by simp [chkE])
theorem ok_dmsd {a b d : E} (ha : OkE G g k a) (hb : OkE G g k b) (hd : OkE G g k d) : OkE G g k (.dmsd a b d) := by
  intro W X c x D h
  simp only [chkE] at h
  split at h
  · simp only [Bool.and_eq_true, decide_eq_true_eq] at h
    obtain ⟨⟨⟨⟨⟨⟨⟨rfl, h1⟩, h2⟩, h3⟩, h4⟩, h5⟩, h6⟩, h7⟩ := h
    have hu := D.units
    exact fin_eq (r_dmsd D.xf.pr (by omega) (ha D h3).1 (hb D h4).1 (hd D h5).1 h1 h6 h7 h2) (fun _ => rfl) (fun _ _ => rfl) (fun _ _ => rfl)
  · cases h
theorem ok_dmlen {a : E} (ha : OkE G g k a) : OkE G g k (.dmlen a) := by
  intro W X c x D h
  simp only [chkE] at h
  split at h
  · simp only [Bool.and_eq_true, decide_eq_true_eq, Bool.not_eq_true'] at h
    obtain ⟨⟨⟨⟨hot, rfl⟩, h1⟩, h2⟩, h3⟩ := h
    obtain ⟨a1, a2⟩ := D.isBt h1
    exact fin_eq (r_dmlen D.xf.pr a1 a2 (pa_one ha D h2 h3) h3) (fun _ => rfl) (fun _ _ => rfl) (fun _ _ => rfl)
  · cases h
theorem ok_dcC {kk v d : E} {tg : Tg} {it : It} (hk : OkE G g k kk) (hv : OkE G g k v) (hi : OkI G g k it) (hd : OkE G g k d) : OkE G g k (.dcC kk v tg it d) := by
  intro W X c x D h
  exact absurd h (by simp [chkE])
theorem ok_dcD {kk v d : E} {tg : Tg} {w : Nat} (hk : OkE G g k kk) (hv : OkE G g k v) (hd : OkE G g k d) : OkE G g k (.dcD kk v tg w d) := by
  intro W X c x D h
  exact absurd h (by simp [chkE])
theorem ok_dil {a : E} (ha : OkE G g k a) : OkE G g k (.dil a) := by
  intro W X c x D h
  exact absurd h (by simp [chkE])
theorem ok_dcE {kk v d : E} {tg : Tg} {w : Nat} (hk : OkE G g k kk) (hv : OkE G g k v) (hd : OkE G g k d) : OkE G g k (.dcE kk v tg w d) := by
  intro W X c x D h
  exact absurd h (by simp [chkE])
theorem ok_dcZ {kk v a d : E} {tg : Tg} (hk : OkE G g k kk) (hv : OkE G g k v) (ha : OkE G g k a) (hd : OkE G g k d) : OkE G g k (.dcZ kk v tg a d) := by
  intro W X c x D h
  exact absurd h (by simp [chkE])
mutual
theorem okE : ∀ e : E, OkE G g k e
  | .dctL => ok_dctL
  | .ditL => ok_ditL
  | .dmsd a b d => ok_dmsd (okE a) (okE b) (okE d)
  | .dmlen a => ok_dmlen (okE a)
  | .dmL => ok_dmL
  | .dmix a b => ok_dmix (okE a) (okE b)
  | .dmin _ a b => ok_dmin (okE a) (okE b)
  | .dmsrt a => ok_dmsrt (okE a)
  | .dig1 a b => ok_dig1 (okE a) (okE b)
  | .lsL a => ok_lsL (okE a)
  | .lset a => ok_lset (okE a)
  | .dilen a => ok_dilen (okE a)
  | .lcK elt _ _ d => ok_lcK (okE elt) (okE d)
  | .lcV _ elt _ a d => ok_lcV (okE elt) (okE a) (okE d)
  | .dget a b => ok_dget (okE a) (okE b)
  | .din _ a b => ok_din (okE a) (okE b)
  | .dg1 a b => ok_dg1 (okE a) (okE b)
  | .dg2 a b d => ok_dg2 (okE a) (okE b) (okE d)
  | .dls a => ok_dls (okE a)
  | .dof a => ok_dof (okE a)
  | .lrg2 a b => ok_lrg2 (okE a) (okE b)
  | .rpl es => ok_rpl (okEs es)
  | .trg a => ok_trg (okE a)
  | .srtk a _ _ => ok_srtk (okE a)
  | .lam _ => ok_lam
  | .srtl _ a _ => ok_srtl (okE a)
  | .dig a b => ok_dig (okE a) (okE b)
  | .dii _ a b => ok_dii (okE a) (okE b)
  | .disi a => ok_disi (okE a)
  | .tts es => ok_tts (okEs es)
  | .ttv a => ok_ttv (okE a)
  | .dsrt a => ok_dsrt (okE a)
  | .dc kk v _ it => ok_dc (okE kk) (okE v) (okI it)
  | .dnC kk v _ it => ok_dnC (okE kk) (okE v) (okI it)
  | .dng a b d => ok_dng (okE a) (okE b) (okE d)
  | .dcC kk v _ it d => ok_dcC (okE kk) (okE v) (okI it) (okE d)
  | .dcD kk v _ _ d => ok_dcD (okE kk) (okE v) (okE d)
  | .dcE kk v _ _ d => ok_dcE (okE kk) (okE v) (okE d)
  | .dcZ kk v _ a d => ok_dcZ (okE kk) (okE v) (okE a) (okE d)
  | .dil a => ok_dil (okE a)
  | .cst _ => ok_cst
  | .var _ => ok_var
  | .glob _ _ => ok_glob
  | .tup es => ok_tup (okEs es)
  | .lst es => ok_lst (okEs es)
  | .lstL es => ok_lstL (okEs es)
  | .dctE => ok_dct
  | .bin _ a b => ok_bin (okE a) (okE b)
  | .neg a => ok_neg (okE a)
  | .not a => ok_not (okE a)
  | .cmp _ a b => ok_cmp (okE a) (okE b)
  | .chain _ _ a b c => ok_chain (okE a) (okE b) (okE c)
  | .and es => ok_and (okEs es)
  | .or es => ok_or (okEs es)
  | .ite d a b => ok_ite (okE d) (okE a) (okE b)
  | .ix a b => ok_ix (okE a) (okE b)
  | .sl a lo hi => ok_sl (okE a) (okE lo) (okE hi)
  | .slL a lo hi => ok_slL (okE a) (okE lo) (okE hi)
  | .abs => fun _ h => by simp [chkE] at h
  | .rev a => ok_rev (okE a)
  | .lrg a => ok_lrg (okE a)
  | .call _ _ es => ok_call (okEs es)
  | .callZ _ _ es => ok_callZ (okEs es)
  | .callD _ _ es => ok_callD (okEs es)
  | .callK _ _ es _ e => ok_callK (okEs es) (okE e)
  | .callN _ _ es _ => ok_callN (okEs es)
  | .bi _ _ es => ok_bi (okEs es)
  | .mt _ a es => ok_mt (okE a) (okEs es)
  | .isi a _ _ => ok_isi (okE a)
  | .lc elt _ it d => ok_lc (okE elt) (okI it) (okE d)
  | .lcL elt _ it d => ok_lcL (okE elt) (okI it) (okE d)
  | .lcX elt _ it => ok_lcX (okE elt) (okI it)
  | .lc2 elt _ it _ it1 d => ok_lc2 (okE elt) (okI it) (okI it1) (okE d)
  | .new _ _ _ es => ok_new (okEs es)
  | .fld a _ _ => ok_fld (okE a)
  | .meth a _ _ es => ok_meth (okE a) (okEs es)
  | .binL _ a b => ok_binL (okE a) (okE b)
  | .orV a b => ok_orV (okE a) (okE b)
  | .bad => ok_bad
  | .eis a _ _ _ => ok_eis (okE a)
  | .eqO _ a b _ _ => ok_eqO (okE a) (okE b)
  | .lenO a _ => ok_lenO (okE a)
  | .strO a _ => ok_strO (okE a)
  | .fs1 a => ok_fs1 (okE a)
  | .iin a _ _ _ => ok_iin (okE a)
  | .efl a _ _ => ok_efl (okE a)
  | .callV a es => ok_callV (okE a) (okEs es)
theorem okEs : ∀ es : Es, OkEs G g k es
  | .nil => ok_nil
  | .cons e r => ok_cons (okE e) (okEs r)
theorem okI : ∀ i : It, OkI G g k i
  | .of e => ok_of (okE e)
  | .rng1 a => ok_rng1 (okE a)
  | .rng2 a b => ok_rng2 (okE a) (okE b)
  | .rng3 a b c => ok_rng3 (okE a) (okE b) (okE c)
  | .enum a => ok_enum (okE a)
  | .zip a b => ok_zip (okE a) (okE b)
  | .zipS a b => ok_zipS (okE a) (okE b)
  | .zipM a b => ok_zipM (okE a) (okE b)
  | .zipSM a b => ok_zipSM (okE a) (okE b)
  | .enumS a => ok_enumS (okE a)
end
theorem sw_not {v : Expr} {t : Option Expr} {l : Nat} {env : Env} (h : notComp v = true) : swapsWith v t l env = pure false := by
  cases v <;> first | rfl | cases h
theorem sw_sole {v t : Expr} {l : Nat} {env : Env} (h : notComp v = true) : swapsWithSole [t] v l env = pure false := sw_not h
theorem sw_false {elt : Expr} {gs : List Comprehension} {scope : Scope} {pos py : Pos} {y : Str} {l : Nat} {env : Env}
    (h : (env.blockKind == .function && env.kindOf y == some .local && py.line == pos.line && !(scope.names.any fun (n, k) => n == y && (k == .local || k == .cell))) = false) : swapsWith (.ListComp elt gs scope pos) (some (.Name y py)) l env = pure false := by
  have e : swapsWith (.ListComp elt gs scope pos) (some (.Name y py)) l env = pure (env.blockKind == .function && env.kindOf y == some .local && py.line == pos.line && !(scope.names.any fun (n, k) => n == y && (k == .local || k == .cell))) := rfl
  rw [e, h]
theorem swD_false {kx vx : Expr} {gs : List Comprehension} {scope : Scope} {pos py : Pos} {y : Str} {l : Nat} {env : Env}
    (h : (env.blockKind == .function && env.kindOf y == some .local && py.line == pos.line && !(scope.names.any fun (n, k) => n == y && (k == .local || k == .cell))) = false) : swapsWith (.DictComp kx vx gs scope pos) (some (.Name y py)) l env = pure false := by
  have e : swapsWith (.DictComp kx vx gs scope pos) (some (.Name y py)) l env = pure (env.blockKind == .function && env.kindOf y == some .local && py.line == pos.line && !(scope.names.any fun (n, k) => n == y && (k == .local || k == .cell))) := rfl
  rw [e, h]
theorem stores_not {ts : List Expr} {kk : Nat} {p : Pos} {v : Expr} {env : Env} (h : notTup v = true) : swappedStores [.Tuple ts kk p] v env = pure none := by
  cases v <;> first | rfl | cases h
theorem r_setLc {W : WX} {X : Cx} {tg elt iter : Expr} {ifs : List Expr} {scope : Scope} {own : List (Str × Nat)} {t : Tg} {fi : Sl → Mu → R (List D)} {fc fe : Sl → Mu → R D} {i : Nat} {y : Str} {py pos spos : Pos} (hc : X.calm = true) (hN : X.N.Nodup) (hy : X.N[i]? = some y) (hyl : X.env.scope.names.lookup y = some .local)
    (hsw : swapsWith (.ListComp elt [⟨tg, iter, ifs, 0⟩] scope pos) (some (.Name y py)) spos.line X.env = pure true) (hi : PI X tg iter (tI X.K g W fi)) (ok : BlkOk X.N X.env.scope scope own)
    (ho : own.map (·.2) = ownT t)
    (hg : ∀ (s : Shared) (H : Hp) (C : Addr) (cl : List (Str × Addr)) (fp : List Addr), PG (X.blk s H scope (compEnvC scope cl C X.env) fp) tg (gB X.K t))
    (ht : ∀ (s : Shared) (H : Hp) (C : Addr) (cl : List (Str × Addr)) (fp : List Addr), PTs (X.blk s H scope (compEnvC scope cl C X.env) fp) ifs (tT X.K g F0 fc))
    (he : ∀ (s : Shared) (H : Hp) (C : Addr) (cl : List (Str × Addr)) (fp : List Addr), PE (X.blk s H scope (compEnvC scope cl C X.env) fp) elt (tE X.K g F0 fe)) (hs : ∀ x, foldedSetIterable iter X.env x = pure x) :
    PS X (.Assign [.Name y py] (.ListComp elt [⟨tg, iter, ifs, 0⟩] scope pos) spos) (tAsg (tE X.K g W (lcF t fi fc fe)) (gName i)) := by
  refine PS.imp (ps_setLc hc hN hy hyl hsw hi ok hg ht he hs) fun E σ H h => ?_
  rw [ho]
  exact i_lc (fun _ z => z) (gB_of fun _ z => z) h
def OkS (G : Pg) (g : Gm) (k : Nat) (s : S) : Prop := ∀ {W : WX} {X : Cx} {c : Cn} {x : Stmt}, Gd G g k W X c → chkS G s c x = true → PS X x (tS X.K g W fun sl m => evS (callF G.P k) s sl m)
def OkSs (G : Pg) (g : Gm) (k : Nat) (s : Ss) : Prop := ∀ {W : WX} {X : Cx} {c : Cn} {x : List Stmt}, Gd G g k W X c → chkSs G s c x = true → PSs X x (tS X.K g W fun sl m => evSs (callF G.P k) s sl m)
theorem seq' {X : Cx} {W : WX} {x : Stmt} {f f' : Sl → Mu → RS} (h : PS X x (tS X.K g W f)) (e : ∀ s m, f s m = f' s m) : PS X x (tS X.K g W f') := by
  rw [show f' = f from funext fun s => funext fun m => (e s m).symm]; exact h
theorem sseq {X : Cx} {W : WX} {x : List Stmt} {f f' : Sl → Mu → RS} (h : PSs X x (tS X.K g W f)) (e : ∀ s m, f s m = f' s m) : PSs X x (tS X.K g W f') := by
  rw [show f' = f from funext fun s => funext fun m => (e s m).symm]; exact h
theorem ok_set {i : Nat} {e : E} : OkS G g k (.set i e) := by
  intro W X c x D h
  simp only [chkS] at h
  split at h
  · rename_i y p v p2
    simp only [Bool.and_eq_true, decide_eq_true_eq] at h
    obtain ⟨⟨h1, h2⟩, h3⟩ := h
    obtain ⟨a1, a2, a3⟩ := D.loc h1
    have hN : X.N.Nodup := D.N ▸ D.nd
    have plain : swapsWith v (some (.Name y p)) p2.line X.env = pure false → PS X (.Assign [.Name y p] v p2) (tS X.K g W fun sl m => evS (callF G.P k) (.set i e) sl m) := fun hs =>
      seq' (r_setOf (ps_set hN a1 a2 (okE e D h2).1 hs a3)) fun _ _ => rfl
    cases hv : notComp v with
    | true => exact plain (sw_not hv)
    | false =>
      have h2' := h2
      cases v with
      | ListComp el gs sc2 q =>
        cases hb : (X.env.blockKind == .function && X.env.kindOf y == some .local && p.line == q.line && !(sc2.names.any fun (n, k) => n == y && (k == .local || k == .cell))) with
        | false => exact plain (sw_false hb)
        | true =>
          simp only [Bool.and_eq_true, beq_iff_eq] at hb
          obtain ⟨⟨⟨b1, b2⟩, b3⟩, b4⟩ := hb
          cases e with
          | lc elt tg it d =>
            simp only [chkE] at h2
            split at h2
            · rename_i y' tg' iter ifs ay scope pq heq
              cases heq
              simp only [Bool.and_eq_true, decide_eq_true_eq, Bool.not_eq_true'] at h2
              obtain ⟨⟨⟨⟨⟨⟨⟨⟨hot, rfl⟩, q2⟩, q3⟩, q4⟩, q5⟩, q6⟩, q7⟩, q8⟩ := h2
              obtain ⟨c1, c2, c3, c4, c5⟩ := lc_parts (okE elt) (okI it) (okE d) D q2 q4 q5 q6 q7 q8
              exact seq' (r_setOf (r_setLc (D.calm hot) hN a1 b2 (sw_true D.kd b2 (by simpa using b3) (by simpa using b4)) c1 c2 (ownOf_snd c tg) c3 c4 c5 (set_plain q3 _))) fun _ _ => rfl
            · cases h2
          | bad => exact seq' r_badS fun _ _ => rfl
          | _ => simp [chkE] at h2
      | SetComp _ _ _ _ =>
        cases e with
        | bad => exact seq' r_badS fun _ _ => rfl
        | _ => simp [chkE] at h2
      | DictComp kx vx gs sc2 q =>
        cases hb : (X.env.blockKind == .function && X.env.kindOf y == some .local && p.line == q.line && !(sc2.names.any fun (n, k) => n == y && (k == .local || k == .cell))) with
        | false => exact plain (swD_false hb)
        | true =>
          simp only [Bool.and_eq_true, beq_iff_eq] at hb
          obtain ⟨⟨⟨b1, b2⟩, b3⟩, b4⟩ := hb
          cases e with
          | bad => exact seq' r_badS fun _ _ => rfl
          | _ => simp [chkE] at h2
      | _ => simp [notComp] at hv
  · cases h
theorem ok_ex {e : E} : OkS G g k (.ex e) := by
  intro W X c x D h
  simp only [chkS] at h
  split at h
  · simp only [Bool.and_eq_true] at h
    exact seq' (r_ex (okE e D h.1).1 (sw_not h.2)) fun _ _ => rfl
  · cases h
theorem fm_short {α β : Type} {f : α → Option β} : ∀ {l : List α} {x : α}, x ∈ l → f x = none → (l.filterMap f).length < l.length
  | y :: l, x, hx, hf => by
    have hle : (l.filterMap f).length ≤ l.length := List.length_filterMap_le f l
    rcases List.mem_cons.mp hx with rfl | hx
    · rw [List.filterMap_cons, hf]
      simp only [List.length_cons]
      omega
    · have := fm_short hx hf
      rw [List.filterMap_cons]
      cases f y <;> simp only [List.length_cons] <;> omega
theorem stores_cell {ts : List Expr} {kk : Nat} {p : Pos} {v : Expr} {env : Env} (h : (ts.any fun e => match e with | .Name x _ => !decide (env.scope.names.lookup x = some .local) | _ => false) = true) : swappedStores [.Tuple ts kk p] v env = pure none := by
  rw [List.any_eq_true] at h
  obtain ⟨e, he, hx⟩ := h
  split at hx
  · rename_i x px
    have hx : ¬ env.scope.names.lookup x = some .local := by simpa using hx
    have hk : (env.kindOf x == some NameKind.local) = false := by
      rw [beq_eq_false_iff_ne]
      exact hx
    cases v with
    | Tuple vs k2 p2 =>
      unfold swappedStores
      dsimp only
      split
      · rfl
      · split
        · rfl
        · split
          · rfl
          · rename_i hn
            exfalso
            apply hn
            have := fm_short (f := fun (t : Expr) => match t with | .Name id pos => if env.kindOf id == some .local && pos.line == ((ts.head?.map (·.pos.line)).getD 0) then some id else none | _ => none) he (by simp [hk])
            have hne : ∀ {a b : Nat}, a < b → (a != b) = true := fun h => by simp; omega
            rw [Bool.or_eq_true]
            left
            exact hne this
    | _ => rfl
  · cases hx
theorem ok_unp {is : List Nat} {e : E} : OkS G g k (.unp is e) := by
  intro W X c x D h
  simp only [chkS] at h
  split at h
  · simp only [Bool.and_eq_true, Bool.not_eq_true'] at h
    obtain ⟨⟨⟨⟨hot, h1⟩, h2⟩, h3⟩, h4⟩ := h
    have hst : ∀ {kk : Nat} {p : Pos}, swappedStores [.Tuple _ kk p] _ X.env = pure none := fun {kk p} => by
      rw [Bool.or_eq_true] at h3
      rcases h3 with h3 | h3
      · exact stores_not h3
      · exact stores_cell (by unfold cellT at h3; rw [← D.sc] at h3; exact h3)
    exact seq' (r_unp (ps_asg (okE e D h2).1 (r_tgT (D.calm hot) (D.N ▸ D.nd) (D.names h1)) (sw_sole h4) hst rfl)) fun _ _ => rfl
  · cases h
theorem asg_sub {o i : Expr} {p : Pos} {env : Env} (h : notSlice i = true) (v : Value) : assign (.Subscript o i p) env v = (do
      let ov ← holding [v] (eval o env)
      let iv ← holding [v, ov] (eval i env)
      standAt p
      holding [v, ov, iv] (setItem ov iv v)
      release [v, ov, iv] []) := by
  cases i <;> first | rfl | cases h
theorem ok_sub {a i e : E} : OkS G g k (.sub a i e) := by
  intro W X c x D h
  simp only [chkS] at h
  split at h
  · simp only [Bool.and_eq_true] at h
    obtain ⟨⟨⟨⟨h1, h2⟩, h3⟩, h4⟩, h5⟩ := h
    exact seq' (r_sub (okE e D h3).1 (okE a D h1).1 (okE i D h2).1 (asg_sub h4) (sw_sole h5) rfl rfl) fun _ _ => rfl
  · cases h
theorem ok_subA {a i e : E} {op : Operator} : OkS G g k (.subA a i op e) := by
  intro W X c x D h
  exact absurd h (by simp [chkS])
theorem ok_dput {a i e : E} : OkS G g k (.dput a i e) := by
  intro W X c x D h
  exact absurd h (by simp [chkS])
theorem ok_dmput {a i e : E} : OkS G g k (.dmput a i e) := by
  intro W X c x D h
  exact absurd h (by simp [chkS])
theorem ok_diput {a i e : E} : OkS G g k (.diput a i e) := by
  intro W X c x D h
  exact absurd h (by simp [chkS])
theorem ok_aug {i : Nat} {op : Operator} {e : E} : OkS G g k (.aug i op e) := by
  intro W X c x D h
  simp only [chkS] at h
  split at h
  · simp only [Bool.and_eq_true, decide_eq_true_eq] at h
    obtain ⟨⟨h1, rfl⟩, h3⟩ := h
    obtain ⟨a1, a2, a3⟩ := D.loc h1
    exact seq' (r_aug (D.N ▸ D.nd) a1 a2 a3 (okE e D h3).1) fun _ _ => rfl
  · cases h
theorem ok_par {i j : Nat} {a b : E} : OkS G g k (.par i j a b) := by
  intro W X c x D h
  exact absurd h (by simp [chkS])
theorem ok_unpL {is : List Nat} {e : E} : OkS G g k (.unpL is e) := by
  intro W X c x D h
  exact absurd h (by simp [chkS])
theorem stOf_some {e s : Expr} (h : stOf e = some s) : ∃ p, e = .Starred s p := by
  unfold stOf at h
  split at h
  · cases h; exact ⟨_, rfl⟩
  · cases h
theorem Gd.star {W : WX} {X : Cx} {c : Cn} (D : Gd G g k W X c) : ∀ {is : List Nat} {es : List Expr}, starOk c is es = true → ∃ es0, NamesStar X is es0 es
  | [], es, h => by cases h
  | i :: is, es, h => by
    cases es with
    | nil => cases h
    | cons e es =>
      rcases (Bool.or_eq_true _ _).mp h with h | h
      · have h1 := (Bool.and_eq_true _ _).mp h
        have h2 := (Bool.and_eq_true _ _).mp h1.2
        obtain rfl := List.isEmpty_iff.mp h1.1
        obtain rfl := List.isEmpty_iff.mp h2.1
        cases hs : stOf e with
        | none => rw [hs] at h2; cases h2.2
        | some s =>
          rw [hs] at h2
          obtain ⟨p, rfl⟩ := stOf_some hs
          obtain ⟨x, hx, hl⟩ := nmLoc_some h2.2
          obtain ⟨p2, rfl⟩ := nmOf_some hx
          obtain ⟨h1, h2, h3⟩ := D.loc hl
          exact ⟨_, .last h1 h2 h3⟩
      · have h := (Bool.and_eq_true _ _).mp h
        obtain ⟨x, hx, hl⟩ := nmLoc_some h.1
        obtain ⟨p, rfl⟩ := nmOf_some hx
        obtain ⟨h1, h2, h3⟩ := D.loc hl
        obtain ⟨es0, hr⟩ := D.star h.2
        exact ⟨_, .cons h1 h2 h3 hr⟩
theorem ok_unpS {is : List Nat} {e : E} : OkS G g k (.unpS is e) := by
  intro W X c x D h
  exact absurd h (by simp [chkS])
theorem ok_sls {a lo hi e : E} : OkS G g k (.sls a lo hi e) := by
  intro W X c x D h
  exact absurd h (by simp [chkS])
theorem ok_setA {a e : E} {f : Str} {cs : List Nat} : OkS G g k (.setA a f cs e) := by
  intro W X c x D h
  exact absurd h (by simp [chkS])
theorem ok_augA {a e : E} {f : Str} {cs : List Nat} {op : Operator} : OkS G g k (.augA a f cs op e) := by
  intro W X c x D h
  exact absurd h (by simp [chkS])
theorem ok_if {d : E} {a b : Ss} (ha : OkSs G g k a) (hb : OkSs G g k b) : OkS G g k (.ite d a b) := by
  intro W X c x D h
  simp only [chkS] at h
  split at h
  · simp only [Bool.and_eq_true] at h
    obtain ⟨⟨⟨h1, h2⟩, h3⟩, h4⟩ := h
    exact seq' (r_if ((okE d D h1).2 h2) (ha D h3) (hb D h4)) fun _ _ => rfl
  · cases h
theorem ok_for {tg : Tg} {it : It} {b : Ss} (hb : OkSs G g k b) : OkS G g k (.fo tg it b) := by
  intro W X c x D h
  simp only [chkS] at h
  split at h
  · simp only [Bool.and_eq_true, Bool.not_eq_true'] at h
    obtain ⟨⟨⟨⟨hot, h1⟩, h2⟩, h3⟩, h4⟩ := h
    exact seq' (r_for D.po (D.calm hot) (okI it D h2) (D.tgM h1) (hb D h4) (set_plain h3 _)) fun _ _ => rfl
  · cases h
theorem ok_foR {en : Bool} {tg : Tg} {e : E} {b : Ss} (hb : OkSs G g k b) : OkS G g k (.foR en tg e b) := by
  intro W X c x D h
  exact absurd h (by simp [chkS])
theorem ok_while {d : E} {b : Ss} (hb : OkSs G g k b) : OkS G g k (.wh d b) := by
  intro W X c x D h
  simp only [chkS] at h
  split at h
  · simp only [Bool.and_eq_true] at h
    obtain ⟨⟨h1, h2⟩, h3⟩ := h
    exact seq' (r_while D.po ((okE d D h1).2 h2) (hb D h3) wFuel) fun _ _ => rfl
  · cases h
theorem ok_ret {e : E} : OkS G g k (.ret e) := by
  intro W X c x D h
  simp only [chkS] at h
  split at h
  · exact seq' (r_ret (okE e D h).1) fun _ _ => rfl
  · cases h
theorem ok_plain {s : S} (hs : s = .retN ∨ s = .pass ∨ s = .brk ∨ s = .cont) : OkS G g k s := by
  intro W X c x D h
  rcases hs with rfl | rfl | rfl | rfl <;> simp only [chkS] at h <;> split at h
  · exact seq' r_retN fun _ _ => rfl
  · cases h
  · exact seq' r_pass fun _ _ => rfl
  · cases h
  · exact seq' r_brk fun _ _ => rfl
  · cases h
  · exact seq' r_cont fun _ _ => rfl
  · cases h
theorem ok_badS : OkS G g k .bad := by
  intro W X c x D h
  exact seq' r_badS fun _ _ => rfl
theorem ok_rz {z : Str} {kc : Nat} {es : Es} : OkS G g k (.rz z kc es) := by
  intro W X c x D h
  simp only [chkS] at h
  split at h
  · rename_i y p xs p2 p3
    simp only [Bool.and_eq_true, decide_eq_true_eq, Bool.not_eq_true'] at h
    obtain ⟨⟨⟨⟨⟨⟨hot, rfl⟩, h2⟩, h3⟩, h4⟩, h5⟩, h6⟩ := h
    obtain ⟨a1, a2⟩ := D.isGl h2
    obtain ⟨C, hm, hca, hh⟩ := D.xf.rz _ _ h3
    obtain ⟨hE, hty, hkp⟩ := D.xf.exc _ _ hca
    have hlen := chkEs_len h6
    rw [← D.xf.cf] at h4
    rcases hh with ⟨hcf, hex⟩ | ⟨hne, T, fI, fd, ps, iC, tI, hb, F1⟩
    · rw [hcf] at h4
      obtain rfl := nil_of h4
      obtain rfl : xs = [] := List.eq_nil_of_length_eq_zero (by rw [hlen]; rfl)
      exact seq' (r_rz0 (D.calm hot) D.tk hca PySem.F.excBase_ValueError hex hm hkp (raises_own hE.hs hty) a1 a2) fun _ _ => rfl
    · cases xs with
      | nil =>
        exfalso
        simp at hlen
        exact hne (List.length_eq_zero_iff.mp (by omega))
      | cons e r => exact seq' (r_rzI (D.calm hot) D.tk hca hne T iC tI F1.1 ((D.room hot).mono (by omega)) hb a1 hm ((okEs es).1 D h6) (fun s m ds m' e => by rw [evEs_len e, h4]) (by omega) (chkEs_star h6) a2) fun _ _ => rfl
  · cases h
def OkHs (G : Pg) (g : Gm) (k : Nat) (h : Hs) : Prop := ∀ {W : WX} {X : Cx} {c : Cn} {x : List ExceptHandler}, Gd G g k W X c → chkHs G h c x = true → HdsD X g x (fun c fs s m => evHs (callF G.P k) h c fs s m)
theorem heq {X : Cx} {x : List ExceptHandler} {f f' : Nat → List D → Sl → Mu → RS} (h : HdsD X g x f) (e : ∀ c fs s m, f c fs s m = f' c fs s m) : HdsD X g x f' := by
  rw [show f' = f from funext fun c => funext fun fs => funext fun s => funext fun m => (e c fs s m).symm]; exact h
theorem ok_hnil : OkHs G g k .nil := by
  intro W X c x D h
  simp only [chkHs, List.isEmpty_iff] at h
  subst h
  exact heq .nil fun _ _ _ _ => by simp only [evHs]
theorem ok_hcons {z : Str} {cs : List Nat} {i : Option Nat} {b : Ss} {r : Hs} (hb : OkSs G g k b) (hr : OkHs G g k r) : OkHs G g k (.cons z cs i b r) := by
  intro W X c x D h
  simp only [chkHs] at h
  split at h
  · rename_i y p n st suite p2 q
    simp only [Bool.and_eq_true, decide_eq_true_eq] at h
    obtain ⟨⟨⟨⟨⟨rfl, h2⟩, h3⟩, h4⟩, h5⟩, h6⟩ := h
    obtain ⟨a1, a2⟩ := D.isGl h2
    obtain ⟨cv, cw, hv, hcl, hrel, hk, ht⟩ := D.xf.ct _ _ h3
    refine heq (.cons (i := i) ⟨a1, a2, hv⟩ (fun c C hc => (hk c C hc).1) ?_ (fun a pn => hb (D.suite a pn) h5) (hr D h6)) fun _ _ _ _ => by simp only [evHs]
    unfold nmI at h4
    split at h4
    · exact .inl ⟨rfl, rfl⟩
    · rename_i i n
      simp only [Bool.and_eq_true, decide_eq_true_eq] at h4
      refine .inr ⟨n, i, rfl, rfl, by rw [D.N]; exact h4.1, ?_⟩
      show X.env.scope.names.lookup n = _
      rw [D.sc]
      exact h4.2
    · cases h4
  · cases h
theorem ok_tr {b : Ss} {h : Hs} (hb : OkSs G g k b) (hh : OkHs G g k h) : OkS G g k (.tr b h) := by
  intro W X c x D h
  exact absurd h (by simp [chkS])
theorem ok_dels {a lo hi : E} : OkS G g k (.dels a lo hi) := by
  intro W X c x D h
  exact absurd h (by simp [chkS])
theorem ok_trN {b f : Ss} (hb : OkSs G g k b) (hf : OkSs G g k f) : OkS G g k (.trN b f) := by
  intro W X c x D h
  exact absurd h (by simp [chkS])
theorem ok_trX {b : Ss} {z v : Str} {cs hl : List Nat} {i kc : Nat} {es : Es} (hb : OkSs G g k b) : OkS G g k (.trX b z cs hl i v kc es) := by
  intro W X c x D h
  exact absurd h (by simp [chkS])
theorem ok_snil : OkSs G g k .nil := by
  intro W X c x D h
  simp only [chkSs, List.isEmpty_iff] at h
  subst h
  exact sseq r_ssnil fun _ _ => rfl
theorem ok_scons {s : S} {r : Ss} (hs : OkS G g k s) (hr : OkSs G g k r) : OkSs G g k (.cons s r) := by
  intro W X c x D h
  simp only [chkSs] at h
  split at h
  · simp only [Bool.and_eq_true] at h
    exact sseq (r_sscons (hs D h.1) (hr D h.2)) fun _ _ => rfl
  · cases h
mutual
theorem okS : ∀ s : S, OkS G g k s
  | .ex _ => ok_ex
  | .set _ _ => ok_set
  | .unp _ _ => ok_unp
  | .sub _ _ _ => ok_sub
  | .dput _ _ _ => ok_dput
  | .dmput _ _ _ => ok_dmput
  | .diput _ _ _ => ok_diput
  | .aug _ _ _ => ok_aug
  | .ite _ a b => ok_if (okSs a) (okSs b)
  | .fo _ _ b => ok_for (okSs b)
  | .wh _ b => ok_while (okSs b)
  | .ret _ => ok_ret
  | .retN => ok_plain (.inl rfl)
  | .pass => ok_plain (.inr (.inl rfl))
  | .brk => ok_plain (.inr (.inr (.inl rfl)))
  | .cont => ok_plain (.inr (.inr (.inr rfl)))
  | .unpL _ _ => ok_unpL
  | .foR _ _ _ b => ok_foR (okSs b)
  | .unpS _ _ => ok_unpS
  | .sls _ _ _ _ => ok_sls
  | .par _ _ _ _ => ok_par
  | .setA _ _ _ _ => ok_setA
  | .augA _ _ _ _ _ => ok_augA
  | .subA _ _ _ _ => ok_subA
  | .bad => ok_badS
  | .rz _ _ _ => ok_rz
  | .tr b h => ok_tr (okSs b) (okHs h)
  | .trX b _ _ _ _ _ _ _ => ok_trX (okSs b)
  | .trN b f => ok_trN (okSs b) (okSs f)
  | .dels _ _ _ => ok_dels
theorem okSs : ∀ s : Ss, OkSs G g k s
  | .nil => ok_snil
  | .cons s r => ok_scons (okS s) (okSs r)
theorem okHs : ∀ h : Hs, OkHs G g k h
  | .nil => ok_hnil
  | .cons _ _ _ b r => ok_hcons (okSs b) (okHs r)
end
end
end Ev
namespace Ev
open PySem PySem.Spec PyProof.Rows L2
theorem room_units2 {k : Nat} {A : Around} (r : Room k A) : A.units + 80 < cLine := by have := r.un; omega
section
variable {K : PySem.W.Frag} {g : Gm} {ρ ρ' : Rh} {H H' : Hp}
mutual
theorem RV.closed : ∀ {d : D} {v : V}, RV K g ρ H d v → closD ρ.lv.length d = true
  | _, _, .non => rfl
  | _, _, .bl _ => rfl
  | _, _, .int _ => rfl
  | _, _, .str _ => rfl
  | _, _, .tup _ r => by simp only [closD]; exact RVs.closed r
  | _, _, .lst _ _ r => by simp only [closD]; exact RVs.closed r
  | _, _, .scr _ => rfl
  | _, _, .dct _ _ => rfl
  | _, _, .xo0 _ _ _ => rfl
  | _, _, .xo1 _ _ _ _ _ _ _ r => by simp only [closD]; exact RVs.closed r
  | _, _, .dks _ _ _ _ _ r => by simp only [closD]; exact RVs.closed r
  | _, _, .dcn _ _ _ _ _ _ r1 r2 _ => by simp only [closD, Bool.and_eq_true]; exact ⟨RVs.closed r1, RVs.closed r2⟩
  | _, _, .tts _ _ _ _ => rfl
  | _, _, .lam _ _ _ _ _ => rfl
  | _, _, .ref h => by simp only [closD, decide_eq_true_eq]; exact (List.getElem?_eq_some_iff.mp h).1
  | _, _, .fn _ => rfl
  | _, _, .cls _ => rfl
  | _, _, .ty _ => rfl
theorem RVs.closed : ∀ {ds : List D} {vs : List V}, RVs K g ρ H ds vs → closDs ρ.lv.length ds = true
  | _, _, .nil => rfl
  | _, _, .cons h r => by simp only [closDs, RV.closed h, RVs.closed r]; rfl
end
theorem Grow.out_back (G : Grow ρ H ρ' H') {a : Addr} (h : ρ'.out a) : ρ.out a := by
  obtain ⟨e, q⟩ := G.ext
  refine ⟨fun z => h.1 (by rw [q]; exact List.mem_append_left _ z), fun z => h.2 (by rw [G.hid]; exact z)⟩
theorem SqS.shrink (G : Grow ρ H ρ' H') {a : Addr} {vs : List V} (h : SqS K ρ' H' a vs) : SqS K ρ H' a vs := by
  rcases h with ⟨h, n⟩ | ⟨o, h⟩ | h
  · exact .inl ⟨h, G.out_back n⟩
  · exact .inr (.inl ⟨o, h⟩)
  · exact .inr (.inr h)
mutual
theorem RV.shrink (G : Grow ρ H ρ' H') : ∀ {d : D} {v : V}, RV K g ρ' H' d v → closD ρ.lv.length d = true → RV K g ρ H' d v
  | _, _, .non, _ => .non
  | _, _, .bl b, _ => .bl b
  | _, _, .int i, _ => .int i
  | _, _, .str x, _ => .str x
  | _, _, .tup h r, c => .tup h (RVs.shrink G r (by simpa only [closD] using c))
  | _, _, .lst h n r, c => .lst h (G.out_back n) (RVs.shrink G r (by simpa only [closD] using c))
  | _, _, .scr h, _ => .scr (SqS.shrink G h)
  | _, _, .dct h n, _ => .dct h (G.out_back n)
  | _, _, .xo0 h n e, _ => .xo0 h (G.out_back n) e
  | _, _, .xo1 h n e h2 n2 l f r, c => .xo1 h (G.out_back n) e h2 (G.out_back n2) l f (RVs.shrink G r (by simpa only [closD] using c))
  | _, _, .dks h1 h2 h3 h4 h5 r, c => .dks h1 h2 h3 h4 h5 (RVs.shrink G r (by simpa only [closD] using c))
  | _, _, .tts h1 h2 h3 h4, _ => .tts h1 h2 h3 h4
  | _, _, .dcn h1 n1 h3 h4 h5 h6 r1 r2 h7, c => .dcn h1 (G.out_back n1) h3 h4 h5 h6 (RVs.shrink G r1 (by simp only [closD, Bool.and_eq_true] at c; exact c.1)) (RVs.shrink G r2 (by simp only [closD, Bool.and_eq_true] at c; exact c.2)) h7
  | _, _, .lam h1 n1 h2 n2 e, _ => .lam h1 (G.out_back n1) h2 (G.out_back n2) e
  | _, _, .ref h, c => .ref (by
      simp only [closD, decide_eq_true_eq] at c
      obtain ⟨e, q⟩ := G.ext
      rw [q, List.getElem?_append_left c] at h
      exact h)
  | _, _, .fn h, _ => .fn h
  | _, _, .cls h, _ => .cls h
  | _, _, .ty n, _ => .ty n
theorem RVs.shrink (G : Grow ρ H ρ' H') : ∀ {ds : List D} {vs : List V}, RVs K g ρ' H' ds vs → closDs ρ.lv.length ds = true → RVs K g ρ H' ds vs
  | _, _, .nil, _ => .nil
  | _, _, .cons h r, c => by
    simp only [closDs, Bool.and_eq_true] at c
    exact .cons (RV.shrink G h c.1) (RVs.shrink G r c.2)
end
theorem Grow.shrink (G : Grow ρ H ρ' H') : Grow ρ H ρ H' :=
  ⟨⟨[], by simp⟩, rfl, G.tup, G.frz, fun a o h t n => ⟨(G.oth a o h t n).1, n⟩⟩
theorem RO.closed {o : O} {a : Addr} (h : RO K g ρ H o a) : closO ρ.lv.length o = true := by
  cases o with
  | lst xs => obtain ⟨vs, _, r⟩ := h; exact r.closed
  | ins c fs => obtain ⟨C, dx, fvs, _, _, _, r⟩ := h; exact r.closed
  | dct kvs => obtain ⟨ws, _, _, r⟩ := h; exact r.closed
  | dci kvs => obtain ⟨ws, _, _, r⟩ := h; exact r.closed
  | dcm kvs => obtain ⟨xs, vs, _, r1, r2, _⟩ := h; simp only [closO, r1.closed, r2.closed, Bool.and_self]
  | hid => rfl
theorem RO.shrink (G : Grow ρ H ρ' H') {o : O} {a : Addr} (h : RO K g ρ' H' o a) (c : closO ρ.lv.length o = true) : RO K g ρ H' o a := by
  cases o with
  | lst xs => obtain ⟨vs, q, r⟩ := h; exact ⟨vs, q, r.shrink G c⟩
  | ins k fs => obtain ⟨C, dx, fvs, q1, q2, q3, r⟩ := h; exact ⟨C, dx, fvs, q1, q2, q3, r.shrink G c⟩
  | dct kvs => obtain ⟨ws, q1, q2, r⟩ := h; exact ⟨ws, q1, q2, r.shrink G c⟩
  | dci kvs => obtain ⟨ws, q1, q2, r⟩ := h; exact ⟨ws, q1, q2, r.shrink G c⟩
  | dcm kvs => obtain ⟨xs, vs, q1, r1, r2, q2⟩ := h; simp only [closO, Bool.and_eq_true] at c; exact ⟨xs, vs, q1, r1.shrink G c.1, r2.shrink G c.2, q2⟩
  | hid => obtain ⟨ob, u, q⟩ := h; exact ⟨ob, u, q⟩
theorem Rel.shrink {m m' : Mu} (r : Rel K g ρ m H) (G : Grow ρ H ρ' H') (r' : Rel K g ρ' m' H') (hd : dropOk m.length m m') : Rel K g ρ (m'.take m.length) H' := by
  obtain ⟨e, q⟩ := G.ext
  have hl : m.length ≤ m'.length := by rw [r.len, r'.len, q, List.length_append]; omega
  refine ⟨r.nd, ?_, fun a ha => r'.hh a (by rw [G.hid]; exact ha), fun i o a h1 h2 => ?_, r'.tb⟩
  · rw [List.length_take, r.len]
    rw [r.len] at hl
    omega
  · have hi : i < m.length := by rw [r.len]; exact (List.getElem?_eq_some_iff.mp h2).1
    rw [List.getElem?_take_of_lt hi] at h1
    refine RO.shrink G (r'.at_ i o a h1 (G.get h2)) ?_
    rcases hd i o hi h1 with z | z
    · exact (r.at_ i o a z h2).closed
    · rw [← r.len]; exact z
theorem RV.fzE {m m' : Mu} (r : Rel K g ρ m H) (G : Grow ρ H ρ' H') (r' : Rel K g ρ' m' H') {d d' : D} {v : V} (h : RV K g ρ' H' d v) (e : fzE m.length m' d = some d') : RV K g ρ H' d' v := by
  have plain : (if closD m.length d = true then some d else none) = some d' → RV K g ρ H' d' v := fun q => by
    split at q
    · rename_i hc
      cases q
      rw [r.len] at hc
      exact h.shrink G hc
    · cases q
  cases d with
  | ref i =>
    simp only [Ev.fzE] at e
    split at e
    · rename_i hi
      cases e
      rw [r.len] at hi
      exact h.shrink G (by simp only [closD, decide_eq_true_eq]; exact hi)
    · rename_i hi
      split at e
      · rename_i xs hm
        split at e
        · rename_i hc
          cases e
          cases h with
          | ref ha =>
            rename_i a
            obtain ⟨a', ha', vs, hv, hr⟩ := r'.get hm
            rw [ha] at ha'
            cases ha'
            have hn : a ∉ ρ.lv := fun z => by
              obtain ⟨j, hj⟩ := List.getElem?_of_mem z
              have hj2 := G.get hj
              have hjl : j < ρ'.lv.length := (List.getElem?_eq_some_iff.mp hj2).1
              have hil : i < ρ'.lv.length := (List.getElem?_eq_some_iff.mp ha).1
              have : i = j := by
                have e1 := (List.getElem?_eq_some_iff.mp ha).2
                have e2 := (List.getElem?_eq_some_iff.mp hj2).2
                exact (List.getElem_inj r'.nd).mp (e1.trans e2.symm)
              subst this
              exact hi (by rw [r.len]; exact (List.getElem?_eq_some_iff.mp hj).1)
            have hh : a ∉ ρ.hd := fun z => by
              obtain ⟨o, ho, t⟩ := r.hh a z
              exact (G.oth a o ho t.tbl hn).2 (List.mem_of_getElem? ha)
            rw [r.len] at hc
            exact .lst hv ⟨hn, hh⟩ (hr.shrink G hc)
        · cases e
      · cases e
  | _ => exact plain (by simpa only [Ev.fzE] using e)
theorem RVs.fzE {m m' : Mu} (r : Rel K g ρ m H) (G : Grow ρ H ρ' H') (r' : Rel K g ρ' m' H') : ∀ {ds ds' : List D} {vs : List V}, RVs K g ρ' H' ds vs → allD (Ev.fzE m.length m') ds = some ds' → RVs K g ρ H' ds' vs
  | [], ds', _, .nil, e => by
    simp only [allD, Option.some.injEq] at e
    subst e
    exact .nil
  | d :: ds, ds', _, .cons h hr, e => by
    simp only [allD] at e
    split at e
    · rename_i a as e1 e2
      cases e
      exact .cons (RV.fzE r G r' h e1) (RVs.fzE r G r' hr e2)
    · cases e
theorem fz_out {m m' : Mu} (r : Rel K g ρ m H) (G : Grow ρ H ρ' H') (r' : Rel K g ρ' m' H') {i : Nat} {a : Addr} (ha : ρ'.lv[i]? = some a) (hi : ¬ i < m.length) : ρ.out a := by
  have hn : a ∉ ρ.lv := fun z => by
    obtain ⟨j, hj⟩ := List.getElem?_of_mem z
    have hj2 := G.get hj
    have : i = j := by
      have e1 := (List.getElem?_eq_some_iff.mp ha).2
      have e2 := (List.getElem?_eq_some_iff.mp hj2).2
      exact (List.getElem_inj r'.nd).mp (e1.trans e2.symm)
    subst this
    exact hi (by rw [r.len]; exact (List.getElem?_eq_some_iff.mp hj).1)
  exact ⟨hn, fun z => by
    obtain ⟨o, ho, t⟩ := r.hh a z
    exact (G.oth a o ho t.tbl hn).2 (List.mem_of_getElem? ha)⟩
theorem fzE_int {n : Nat} {m : Mu} {d : D} {i : Int} (h : Ev.fzE n m d = some (.int i)) : d = .int i := by
  cases d with
  | ref j =>
    simp only [Ev.fzE] at h
    split at h
    · cases h
    · split at h
      · split at h <;> cases h
      · cases h
  | _ =>
    simp only [Ev.fzE] at h
    split at h
    · injection h
    · cases h
theorem fz_row {n : Nat} {m : Mu} : ∀ {xs ys : List D}, allD (Ev.fzE n m) xs = some ys → (allD intD ys).isSome = true → xs = ys
  | [], ys, e, _ => by
    simp only [allD, Option.some.injEq] at e
    exact e
  | d :: xs, ys, e, h => by
    simp only [allD] at e
    split at e
    · rename_i a as e1 e2
      cases e
      simp only [allD] at h
      cases a with
      | int i =>
        have h2 : (allD intD as).isSome = true := by
          cases q : allD intD as with
          | none => rw [q] at h; simp [intD] at h
          | some z => rfl
        rw [fz_row e2 h2, fzE_int e1]
      | _ => simp [intD] at h
    · cases e
theorem RV.fz {m m' : Mu} (r : Rel K g ρ m H) (G : Grow ρ H ρ' H') (r' : Rel K g ρ' m' H') {d d' : D} {v : V} (h : RV K g ρ' H' d v) (e : fzD m.length m' d = some d') : RV K g ρ H' d' v := by
  have same : fzD m.length m' d = Ev.fzE m.length m' d → RV K g ρ H' d' v := fun q => RV.fzE r G r' h (q ▸ e)
  cases d with
  | lst xs =>
    by_cases hc : closD m.length (.lst xs) = true
    · exact same (by simp only [fzD, Ev.fzE]; rw [if_pos hc, if_pos hc])
    · simp only [fzD] at e
      rw [if_neg hc] at e
      cases h with
      | lst h1 h2 h3 =>
        cases e1 : allD (Ev.fzE m.length m') xs with
        | none => rw [e1] at e; cases e
        | some ys =>
          rw [e1] at e
          cases e
          exact .lst h1 (G.out_back h2) (RVs.fzE r G r' h3 e1)
  | tup xs =>
    by_cases hc : closD m.length (.tup xs) = true
    · exact same (by simp only [fzD, Ev.fzE]; rw [if_pos hc, if_pos hc])
    · simp only [fzD] at e
      rw [if_neg hc] at e
      cases h with
      | tup h1 h3 =>
        cases e1 : allD (Ev.fzE m.length m') xs with
        | none => rw [e1] at e; cases e
        | some ys =>
          rw [e1] at e
          cases e
          refine .tup ⟨h1.1, fun z => h1.2 ?_⟩ (RVs.fzE r G r' h3 e1)
          have : xs = ys := fz_row e1 z
          rw [this]
          exact z
  | ref i =>
    by_cases hi : i < m.length
    · exact same (by simp only [fzD, Ev.fzE]; rw [if_pos hi, if_pos hi])
    · cases hm : m'[i]? with
      | none => exact same (by simp only [fzD, Ev.fzE]; rw [if_neg hi, if_neg hi, hm])
      | some o =>
        cases o with
        | lst xs =>
          by_cases hc : closDs m.length xs = true
          · exact same (by simp only [fzD, Ev.fzE]; rw [if_neg hi, if_neg hi, hm]; simp only [hc, if_true])
          · simp only [fzD] at e
            rw [if_neg hi, hm] at e
            dsimp only at e
            rw [if_neg hc] at e
            cases e1 : allD (Ev.fzE m.length m') xs with
            | none => rw [e1] at e; cases e
            | some ys =>
              rw [e1] at e
              cases e
              cases h with
              | ref ha =>
                obtain ⟨a', ha', vs, hv, hr⟩ := r'.get hm
                rw [ha] at ha'
                cases ha'
                exact .lst hv (fz_out r G r' ha hi) (RVs.fzE r G r' hr e1)
        | _ => exact same (by simp only [fzD, Ev.fzE]; rw [if_neg hi, if_neg hi, hm])
  | _ => exact same rfl
theorem RX.shrink (G : Grow ρ H ρ' H') {c : Nat} {fs : List D} {cv : Value} {dd : Option Addr} (h : RX K g ρ' H' c fs cv dd) (hc : closDs ρ.lv.length fs = true) : RX K g ρ H' c fs cv dd := by
  obtain ⟨C, h1, h2, h3⟩ := h
  refine ⟨C, h1, h2, ?_⟩
  rcases h3 with h3 | ⟨a, vs, h4, h5, h6, h7, h8, h9⟩
  · exact .inl h3
  · exact .inr ⟨a, vs, h4, h5, h6, G.out_back h7, h8, h9.shrink G hc⟩
theorem fin0_ok {W : WX} {σ : L2.St} {keep : Bool} {m m' : Mu} {Q : VK} {d : D} (r : Rel K g ρ m H) (h : PostE K g W σ ρ H Q (fin.fin0 keep m d m')) : ∀ ρ' H' v, Grow ρ H ρ' H' → Rel K g ρ' m' H' → RV K g ρ' H' d v → Q v H' := by
  intro ρ' H' v G r' V
  unfold fin.fin0 at h
  split at h
  · exact h ρ' H' v G r' V
  · split at h
    · rename_i d' e
      split at h
      · rename_i hd
        exact h ρ H' v G.shrink (r.shrink G r' hd) (V.fz r G r' e)
      · exact h.elim
    · exact h.elim
theorem fin_ok {E : XK} {keep : Bool} {m : Mu} {Q : VK} {x : RS} (r : Rel K g ρ m H) (h : PostE K g (fun c d _ H' => E c d H') [] ρ H Q (fin keep m x)) :
    PostS K g (fun c d _ H' => E c d H') ρ H { nx := fun _ H' => Q .non H', rt := Q } x := by
  cases x with
  | nx s m' => exact fun ρ' H' σ' G r' _ => fin0_ok r h ρ' H' .non G r' .non
  | rt d m' => exact fun ρ' H' v G r' V => fin0_ok r h ρ' H' v G r' V
  | bk s m' => exact h.elim
  | ct s m' => exact h.elim
  | bad => exact h.elim
  | exc c fs s m' =>
    intro ρ' H' σ' cv dd G r' _ X
    simp only [fin] at h
    split at h
    · exact h ρ' H' cv dd G r' X
    · split at h
      · rename_i hd
        exact h ρ H' cv dd G.shrink (r.shrink G r' hd.1) (X.shrink G (by rw [← r.len]; exact hd.2))
      · exact h.elim
end
structure FT where
  l : Addr
  fd : FuncData
  ps : List Str
  N : List Str
  st : Stmt
  qual : Str
  lm : Bool
structure Def (K : PySem.W.Frag) (mg : Str → Option Value) (G : Pg) (F : Fn) (T : FT) : Prop where
  fn : Fun K F.nm T.qual T.st T.l T.fd
  at_ : F.own = none ∨ F.own = some 1001 → mg F.nm = some (.ref T.l)
  bi : F.own ≠ some 1001 → Binds K T.fd T.ps []
  scope : FnScope T.N T.ps (defScope T.st)
  lps : T.ps.length = F.ps
  lnn : T.N.length = F.nn
  ok : chkSs G F.body ⟨T.N, defScope T.st, fun _ => true, false, true, true, T.lm⟩ (defBody T.st) = true
theorem REnv.start {K : PySem.W.Frag} {g : Gm} {ρ : Rh} {H : Hp} {ds : List D} {vs : List V} {N : List Str} {n p : Nat} (h : RVs K g ρ H ds vs) (hp : ds.length = p) (hn : N.length = n) : REnv K g ρ H (ds.map some ++ List.replicate (n - p) none) (start N vs) := by
  have hl := h.length
  refine ⟨?_, fun i d e => ?_⟩
  · unfold L2.start
    simp only [List.length_append, List.length_map, List.length_replicate]
    omega
  · unfold L2.start
    by_cases hi : i < ds.length
    · rw [List.getElem?_append_left (by simpa using hi), List.getElem?_map] at e
      rw [List.getElem?_append_left (by simpa using (hl ▸ hi)), List.getElem?_map]
      cases e2 : ds[i]? with
      | none => rw [e2] at e; cases e
      | some d2 =>
        rw [e2] at e
        cases e
        obtain ⟨v, hv, r⟩ := h.get e2
        exact ⟨v, by rw [hv]; rfl, r⟩
    · rw [List.getElem?_append_right (by simpa using hi), List.getElem?_replicate] at e
      split at e <;> cases e
theorem XF.no {P : Program} {w : World} {K : PySem.W.Frag} {mg : Str → Option Value} {base : Heap} {G : Pg} {g : Gm} (x : XF P w K mg base G g) : XF P w K mg base G.no g :=
  ⟨x.pr, x.cf, x.exc, x.fld, x.ct, x.rz, x.hx, x.fa, x.icl, x.ifl, x.ims, x.isc, x.ifi, x.ine, x.iit, x.iis, x.inm, x.imk⟩
theorem all_ok {P : Program} {w : World} {K : PySem.W.Frag} {mg : Str → Option Value} {base : Heap} {G : Pg} {g : Gm} {T : Nat → FT} (hd : ∀ i F, G.P[i]? = some F → F.own ≠ some 1000 → Def K mg G F (T i)) (nb : ∀ x, G.nb.contains x = true → mg x = none)
    (gl : ∀ x d, G.gl.lookup x = some d → ∃ v u, mg x = some u ∧ RelV v u ∧ ∀ ρ H, RV K g ρ H d v) (xf : XF P w K mg base G g) (hfa : ∀ i F, G.P[i]? = some F → F.own ≠ some 1000 ∧ F.own ≠ some 1001 → g.fa i = some (T i).l)
    (hkb : ∀ i F q, G.P[i]? = some F → F.own = some 1001 → G.kd.lookup i = some q → KwB K g (T i).fd (T i).ps q.1 q.2)
    (hlb : ∀ i params body scope, G.lb i params body scope = true → LamChk G i params body scope) (hlo : ∀ i params body scope q, g.lo i params body scope q ↔ LamChk G i params body scope)
    (hlm : ∀ i F, G.P[i]? = some F → (T i).lm = true → ∃ c P, (∀ cdv, CdAt K (T i).l cdv → cdv = .ref c) ∧ LamX.TabB base mg c P ∧ (P, (T i).qual ++ ".<locals>." ++ "<lambda>") ∈ g.tb ∧ ∀ p ∈ g.tb, p.1 = P → p.2 = (T i).qual ++ ".<locals>." ++ "<lambda>") : ∀ k,
      (∀ i F, G.P[i]? = some F → F.own ≠ some 1000 → FnG P w K mg base (2 * k + 2) (T i).l (T i).fd (T i).ps (spM K G.P g k i)) ∧
      (∀ i params body scope q, g.lo i params body scope q → ∃ n, ∀ f c, FnL P w K mg base (2 * k + 2) f c params body scope q n (spM K G.P g k i))
  | 0 => by
    have no : ∀ i vs H Q E, ¬ spM K G.P g 0 i vs H Q E := by
      rintro i vs H Q E ⟨ρ, m, ds, R, V, z⟩
      simp only [callF] at z
      exact z
    exact ⟨fun i F hF _ => ⟨fun vs H Q E h => (no _ _ _ _ _ h).elim, fun A outer s H args us vs Q E _ _ _ _ _ h => (no _ _ _ _ _ h).elim⟩,
      fun i params body scope q _ => ⟨0, fun f c => ⟨fun vs H Q E h => (no _ _ _ _ _ h).elim, fun A outer s H us vs Q E _ _ _ _ _ _ h => (no _ _ _ _ _ h).elim⟩⟩⟩
  | k + 1 => by
    obtain ⟨ih, il⟩ := all_ok (P := P) (w := w) (base := base) hd nb gl xf hfa hkb hlb hlo hlm k
    refine ⟨fun i F hF hFo => ?_, fun i params body scope q hq => ?_⟩
    · have D := hd i F hF hFo
      have len : ∀ vs H Q E, spM K G.P g (k + 1) i vs H Q E → vs.length = (T i).ps.length := by
        rintro vs H Q E ⟨ρ, m, ds, R, V, z⟩
        simp only [callF, hF] at z
        split at z
        · rename_i hl
          rw [D.lps, ← V.length]
          exact hl
        · exact z.elim
      rw [show 2 * (k + 1) + 2 = (2 * k + 3) + 1 by omega]
      refine FnG.of_body (k := 2 * k + 3) D.fn D.scope len ?_
      intro cdv A outer s H vs Q E hcd room gd hsp
      obtain ⟨ρ, m, ds, R, V, z⟩ := hsp
      simp only [callF, hF] at z
      split at z
      · rename_i hl
        generalize hX : cxOf (CX P w mg) P w K mg base (T i).N (T i).qual (defScope (T i).st) (T i).l cdv A outer s H E = X
        have Dg : Gd G g k (fun c d _ H => E c d H) X ⟨(T i).N, defScope (T i).st, fun _ => true, false, true, true, (T i).lm⟩ := by
          subst hX
          exact { N := rfl, nd := D.scope.nd, sc := rfl, kd := D.scope.kind, fn := fun _ _ => rfl, calm := fun _ => rfl, room := fun _ => room, units := room.units, units2 := room_units2 room, tops := fun _ => ⟨rfl, rfl, rfl⟩, xf := xf, gd := gd, tk := takes_of rfl rfl rfl rfl, po := passes_of rfl, tx := fun _ hd => PassesOwnAt.leaving,
                  fns := fun j F' hj ho => ⟨_, _, _, fun z => (hd j F' hj ho.1).at_ (.inl z), (hd j F' hj ho.1).fn.kp, (hd j F' hj ho.1).bi ho.2, ih j F' hj ho.1, hfa j F' hj ho⟩,
                  kws := fun j F' q hj ho hq => ⟨_, _, _, (hd j F' hj (by rw [ho]; decide)).at_ (.inr ho), (hd j F' hj (by rw [ho]; decide)).fn.kp, hkb j F' q hj ho hq, ih j F' hj (by rw [ho]; decide)⟩, nb := nb, gl := gl,
                  lm := fun z => (by
                    obtain ⟨c, P', h1, h2, h3, h4⟩ := hlm i F hF z
                    exact ⟨c, P', h1 _ hcd, h2, h3, h4⟩), lb := hlb, lo := fun i params body scope q z => (hlo i params body scope q).mpr z, lms := il }
        have hK : X.K = K := by subst hX; rfl
        have body := okSs F.body Dg D.ok
        rw [hK] at body
        exact ⟨_, body, ρ, m, ds.map some ++ List.replicate (F.nn - F.ps) none, R, REnv.start V hl D.lnn, fin_ok R z⟩
      · exact z.elim
    · obtain ⟨ps, F, b, hp, hF, ho, h1, h2, h3, hb, hs, hck⟩ := (hlo i params body scope q).mp hq
      refine ⟨ps.length, fun f c => ?_⟩
      have len : ∀ vs H Q E, spM K G.P g (k + 1) i vs H Q E → vs.length = ps.length := by
        rintro vs H Q E ⟨ρ, m, ds, R, V, z⟩
        simp only [callF, hF] at z
        split at z
        · rename_i hl
          rw [← h1, ← V.length]
          exact hl
        · exact z.elim
      rw [show 2 * (k + 1) + 2 = (2 * k + 3) + 1 by omega]
      have S := fnScB_ok hs
      refine FnL.of_body (k := 2 * k + 3) S ((lamPs_ok hp).1 _ _ _) len ?_
      intro A outer s H vs Q E room gd hsp
      obtain ⟨ρ, m, ds, R, V, z⟩ := hsp
      simp only [callF, hF] at z
      split at z
      · rename_i hl
        generalize hX : cxOf (CX P w mg) P w K mg base ps q scope f (.ref c) A outer s H E = X
        have Dg : Gd G.no g k (fun c d _ H => E c d H) X (lamCn ps scope) := by
          subst hX
          exact { N := rfl, nd := S.nd, sc := rfl, kd := S.kind, fn := fun _ _ => rfl, calm := fun _ => rfl, room := fun _ => room, units := room.units, units2 := room_units2 room, tops := fun z => (by cases z), xf := xf.no, gd := gd, tk := takes_of rfl rfl rfl rfl, po := passes_of rfl, tx := fun z => (by cases z),
                  fns := fun j F' hj ho => ⟨_, _, _, fun z => (hd j F' hj ho.1).at_ (.inl z), (hd j F' hj ho.1).fn.kp, (hd j F' hj ho.1).bi ho.2, ih j F' hj ho.1, hfa j F' hj ho⟩,
                  kws := fun j F' q hj ho hq => ⟨_, _, _, (hd j F' hj (by rw [ho]; decide)).at_ (.inr ho), (hd j F' hj (by rw [ho]; decide)).fn.kp, hkb j F' q hj ho hq, ih j F' hj (by rw [ho]; decide)⟩, nb := nb, gl := gl,
                  lm := fun z => (by cases z), lb := fun _ _ _ _ z => (by cases z), lo := fun i params body scope q z => (hlo i params body scope q).mpr z, lms := il }
        have hK : X.K = K := by subst hX; rfl
        have body' := (okE (G := G.no) b Dg hck).1
        rw [hK] at body'
        refine ⟨_, body', ρ, m, ds.map some ++ List.replicate (F.nn - F.ps) none, R, REnv.start V hl (by rw [h2]), ?_⟩
        rw [hb, h3] at z
        simp only [evSs, evS] at z
        revert z
        show PostE K g (fun c d _ H' => E c d H') [] ρ H Q (fin false m (((evE (callF G.P k) b false (ds.map some ++ List.replicate (F.nn - F.ps) none) m).toS _ fun d m => .rt d m).thn _)) → PostE K g (fun c d _ H' => E c d H') _ ρ H Q (evE (callF G.P k) b false (ds.map some ++ List.replicate (F.nn - F.ps) none) m)
        cases evE (callF G.P k) b false (ds.map some ++ List.replicate (F.nn - F.ps) none) m with
        | ok d m' => exact fun z => fin_ok (x := .rt d m') R z
        | exc c' fs m' => exact fun z ρ' H' cv dd G' R' X' => fin_ok (x := .exc c' fs (ds.map some ++ List.replicate (F.nn - F.ps) none) m') R z ρ' H' _ cv dd G' R' ((REnv.start V hl (N := ps) (by rw [h2])).grow G') X'
        | bad => exact fun z => z.elim
      · exact z.elim
end Ev
namespace Ev
open PySem PySem.Spec PyProof.Rows L2
def DefAt (K : PySem.W.Frag) (x : Str) (st : Stmt) : Prop := ∃ (f : Addr) (fd : FuncData), PySem.W.nsIn K mainGlobals x = some (some (.ref f)) ∧ Fun K x x st f fd
theorem addrOf_in {K : PySem.W.Frag} {x : Str} {a : Addr} (h : addrOf K x = some a) : PySem.W.nsIn K mainGlobals x = some (some (.ref a)) := by
  unfold addrOf at h
  split at h
  · rename_i b e
    cases h
    exact e
  · cases h
theorem findOf_in {K : PySem.W.Frag} {C : Addr} {x : Str} {a : Addr} (h : findOf K C x = some a) : PySem.W.findIn K (.ref C) x = some (some (.ref a)) := by
  unfold findOf at h
  split at h
  · rename_i b e
    cases h
    exact e
  · cases h
def gmOf (K : PySem.W.Frag) (G : Pg) (T : Tx) (pr : Params) (tb : List (Addr × Str) := []) : Gm :=
  ⟨faOf K G, fun c => (T.xs[c]?).bind (addrOf K), fun c => (G.ik[c]?).bind fun q => addrOf K q.nm, fun c => G.cf.getD c [], pr, fun i params body scope _ => LamChk G i params body scope, tb⟩
def AtF (K : PySem.W.Frag) (G : Pg) (F : Fn) (l : Addr) : Prop := match F.own with
  | none => PySem.W.nsIn K mainGlobals F.nm = some (some (.ref l))
  | some c => ¬ (c = 1000 ∨ c = 1001) ∧ ∃ q C, G.ik[c]? = some q ∧ PySem.W.nsIn K mainGlobals q.nm = some (some (.ref C)) ∧ PySem.W.findIn K (.ref C) F.nm = some (some (.ref l))
def GlAt (K : PySem.W.Frag) (g : Gm) (x : Str) (d : D) : Prop := ∃ (u : Value) (v : V), PySem.W.nsIn K mainGlobals x = some (some u) ∧ RelV v u ∧ ∀ ρ H, RV K g ρ H d v
section
variable {K : PySem.W.Frag} {g : Gm}
theorem glInt {x : Str} {i : Int} {t : Tok} (a : PySem.W.nsIn K mainGlobals x = some (some (.int i t))) : GlAt K g x (.int i) := ⟨_, .int i, a, ⟨t, rfl⟩, fun _ _ => .int i⟩
inductive FnsAt (g : Gm) : List Nat → List Addr → Prop
  | nil : FnsAt g [] []
  | cons {i : Nat} {a : Addr} {is : List Nat} {as : List Addr} : g.fa i = some a → FnsAt g is as → FnsAt g (i :: is) (a :: as)
inductive NsRefs (K : PySem.W.Frag) : List Str → List Addr → Prop
  | nil : NsRefs K [] []
  | cons {x : Str} {a : Addr} {xs : List Str} {as : List Addr} : PySem.W.nsIn K mainGlobals x = some (some (.ref a)) → NsRefs K xs as → NsRefs K (x :: xs) (a :: as)
inductive FnNames (K : PySem.W.Frag) (g : Gm) : List Str → List Nat → Prop
  | nil : FnNames K g [] []
  | cons {x : Str} {i : Nat} {a : Addr} {xs : List Str} {is : List Nat} : PySem.W.nsIn K mainGlobals x = some (some (.ref a)) → g.fa i = some a → FnNames K g xs is → FnNames K g (x :: xs) (i :: is)
end
inductive Defs (K : PySem.W.Frag) (mg : Str → Option Value) (G : Pg) : List Fn → List FT → Prop
  | nil : Defs K mg G [] []
  | cons {F : Fn} {T : FT} {Fs : List Fn} {Ts : List FT} : Def K mg G F T → AtF K G F T.l → Defs K mg G Fs Ts → Defs K mg G (F :: Fs) (T :: Ts)
  | lam {F : Fn} {T : FT} {Fs : List Fn} {Ts : List FT} : F.own = some 1000 → Defs K mg G Fs Ts → Defs K mg G (F :: Fs) (T :: Ts)
  | kw {F : Fn} {T : FT} {Fs : List Fn} {Ts : List FT} : F.own = some 1001 → Def K mg G F T → Defs K mg G Fs Ts → Defs K mg G (F :: Fs) (T :: Ts)
theorem Defs.at_ {K : PySem.W.Frag} {mg : Str → Option Value} {G : Pg} {t0 : FT} : ∀ {Fs : List Fn} {Ts : List FT} {i : Nat} {F : Fn}, Defs K mg G Fs Ts → Fs[i]? = some F → F.own ≠ some 1000 → Def K mg G F (Ts.getD i t0) ∧ (F.own ≠ some 1001 → AtF K G F (Ts.getD i t0).l)
  | _, _, 0, _, .cons d n _, h, _ => by
    simp at h
    subst h
    exact ⟨d, fun _ => n⟩
  | _, _, i + 1, _, .cons _ _ r, h, ho => by
    simp at h
    simpa using Defs.at_ (t0 := t0) r h ho
  | _, _, 0, _, .lam e _, h, ho => by
    simp at h
    subst h
    exact absurd e ho
  | _, _, i + 1, _, .lam _ r, h, ho => by
    simp at h
    simpa using Defs.at_ (t0 := t0) r h ho
  | _, _, 0, _, .kw e d _, h, ho => by
    simp at h
    subst h
    exact ⟨d, fun z => absurd e z⟩
  | _, _, i + 1, _, .kw _ _ r, h, ho => by
    simp at h
    simpa using Defs.at_ (t0 := t0) r h ho
theorem GlAt.ref {K : PySem.W.Frag} {g : Gm} {x : Str} {d : D} {a : Addr} (h : GlAt K g x d) (e : PySem.W.nsIn K mainGlobals x = some (some (.ref a))) : ∀ ρ H, RV K g ρ H d (.ref a) := by
  obtain ⟨u, v, h1, h2, h3⟩ := h
  rw [e] at h1
  cases h1
  cases v <;> first | exact h3 | (simp [L2.RelV] at h2; done) | (simp [L2.RelV] at h2; subst h2; exact h3)
theorem def_of {K : PySem.W.Frag} {mg : Str → Option Value} {h : Heap} {G : Pg} {F : Fn} {N ps : List Str} {st : Stmt} {x : Str} {lm : Bool} (X : K.In h) (Gn : h.Ns mainGlobals mg) (d : DefAt K x st) (hx : F.nm = x) (ho : F.own = none) (S : FnScope N ps (defScope st)) (h1 : ps.length = F.ps) (h2 : N.length = F.nn)
    (hb : ∀ (kV doc pm : Value) (an : Option Addr) (cdv ct : Value) (us : List Value), us.length = ps.length → bindArgs (PySem.W.fnOf x x (defArgs st) (defBody st) (defScope st) .none kV doc pm an cdv ct) ⟨us, []⟩ = pure (ps.zip us))
    (ck : chkSs G F.body ⟨N, defScope st, fun _ => true, false, true, true, lm⟩ (defBody st) = true) : ∃ T : FT, T.lm = lm ∧ T.qual = x ∧ T.ps = ps ∧ mg x = some (.ref T.l) ∧ Def K mg G F T ∧ (∀ us : List Value, us.length = ps.length → bindArgs T.fd ⟨us, []⟩ = pure (ps.zip us)) ∧ AtF K G F T.l ∧ PySem.W.nsIn K mainGlobals F.nm = some (some (.ref T.l)) := by
  obtain ⟨f, fd, a, fn⟩ := d
  have m := PySem.W.mg_of X Gn a
  subst hx
  refine ⟨⟨f, fd, ps, N, st, F.nm, lm⟩, rfl, rfl, rfl, m, ⟨fn, fun _ => m, fun _ => fn.binds hb, S, h1, h2, ck⟩, fun us hl => ?_, by unfold AtF; rw [ho]; exact a, a⟩
  obtain ⟨oc, od, kV, doc, pm, an, cdv, ct, osl, e, lk, hcd⟩ := fn.ex
  show bindArgs fd ⟨us, []⟩ = _
  rw [e]
  exact hb kV doc pm an cdv ct us hl
theorem gls_of {K : PySem.W.Frag} {mg : Str → Option Value} {h : Heap} {g : Gm} (X : K.In h) (Gn : h.Ns mainGlobals mg) : ∀ {l : List (Str × D)}, (∀ p ∈ l, GlAt K g p.1 p.2) → ∀ x d, l.lookup x = some d → ∃ v u, mg x = some u ∧ RelV v u ∧ ∀ ρ H, RV K g ρ H d v
  | [], _, x, d, e => by cases e
  | (y, d') :: r, hl, x, d, e => by
    rw [List.lookup_cons] at e
    cases q : x == y with
    | true =>
      rw [q] at e
      cases e
      obtain rfl : x = y := by simpa using q
      obtain ⟨u, v, a, rv, hv⟩ := hl _ List.mem_cons_self
      exact ⟨v, u, PySem.W.mg_of X Gn a, rv, fun ρ H => hv ρ H⟩
    | false =>
      rw [q] at e
      exact gls_of X Gn (fun p hp => hl p (List.mem_cons_of_mem _ hp)) x d e
theorem nbs_of {K : PySem.W.Frag} {mg : Str → Option Value} {h : Heap} (X : K.In h) (Gn : h.Ns mainGlobals mg) {l : List Str} (hl : ∀ x ∈ l, PySem.W.nsIn K mainGlobals x = some none) : ∀ x, l.contains x = true → mg x = none := by
  intro x hx
  exact PySem.W.mg_none_of X Gn (hl x (by simpa using hx))
theorem excB_ok {K : PySem.W.Frag} {C : Addr} (h : excB K C = true) : ExcC K C ∧ PySem.W.typeIn K (.ref C) = some (.type "type") ∧ PySem.W.keepIn K (.ref C) = true := by
  simp only [excB, Bool.and_eq_true, decide_eq_true_eq] at h
  obtain ⟨h1, h2, h3, h4, h5, h6, h7, h8, h9, h10⟩ := h
  exact ⟨⟨h1, h2, h3, h4, h5, h6, h7, h8⟩, h9, h10⟩
theorem ndB_ok : ∀ {l : List Str}, ndB l = true → l.Nodup
  | [], _ => List.nodup_nil
  | x :: r, h => by
    simp only [ndB, Bool.and_eq_true, Bool.not_eq_true', List.contains_eq_mem, decide_eq_false_iff_not] at h
    exact List.nodup_cons.mpr ⟨h.1, ndB_ok h.2⟩
theorem idxAll_ok {α : Type} {f : Nat → α → Bool} : ∀ {l : List α} {k i : Nat} {x : α}, idxAll f k l = true → l[i]? = some x → f (k + i) x = true
  | [], _, _, _, _, h => by simp at h
  | y :: r, k, 0, x, h, e => by
    simp only [idxAll, Bool.and_eq_true] at h
    simp at e
    subst e
    exact h.1
  | y :: r, k, i + 1, x, h, e => by
    simp only [idxAll, Bool.and_eq_true] at h
    have := idxAll_ok (k := k + 1) h.2 (by simpa using e)
    rwa [show k + 1 + i = k + (i + 1) by omega] at this
theorem oexB_ok {K : PySem.W.Frag} {C : Addr} (h : oexB K C = true) (E : ExcC K C) (ty : PySem.W.typeIn K (.ref C) = some (.type "type")) (kp : PySem.W.keepIn K (.ref C) = true) (sa : PySem.W.findIn K (.ref C) "__setattr__" = some (some (.builtin "object.__setattr__"))) : OexC K C := by
  refine ⟨?_, sa, E.hs, ty, kp⟩
  unfold oexB at h
  split at h
  · rename_i dd cq sq ho
    split at h
    · rename_i C2 bq k0 k1 k2 k3 nq k5 hm hs
      simp only [Bool.and_eq_true, beq_iff_eq, Bool.not_eq_true'] at h
      obtain ⟨⟨⟨⟨rfl, rfl⟩, hdel⟩, hdi⟩, hre⟩ := h
      obtain ⟨nm, bs, mro, ns, qn, hd, sn, sub, ab, col, del⟩ := cq
      dsimp only at hm hdel hdi
      subst hm hdel hdi
      have hsl : sq = #[k0, k1, k2, k3, some (.builtin "ValueError.__new__"), k5] := by
        obtain ⟨l⟩ := sq
        simp only at hs
        rw [hs]
      subst hsl
      exact ⟨nm, qn, ns, bs, bq, sn, sub, ab, col, dd, k0, k1, k2, k3, k5, ho, hre⟩
    · cases h
  · cases h
theorem hotB1_ok {K : PySem.W.Frag} {h : Heap} {mg : Str → Option Value} {C : Addr} (X : K.In h) (Gn : h.Ns mainGlobals mg) (q : hotB1 K C = true) : ∀ n ∈ hotNames, mg n ≠ some (.ref C) := by
  intro n hn
  have z := List.all_eq_true.mp q n hn
  split at z
  · rename_i v e
    rw [PySem.W.mg_of X Gn e]
    intro y
    simp at z
    exact z (Option.some.inj y)
  · rename_i e
    rw [PySem.W.mg_none_of X Gn e]
    simp
  · cases z
def IniAt (P : Program) (w : World) (K : PySem.W.Frag) (mg : Str → Option Value) (base : Heap) (C : Addr) (flds : List Str) : Prop :=
  ∃ fI fd ps, PySem.W.findIn K (.ref C) "__init__" = some (some (.ref fI)) ∧ PySem.W.typeIn K (.ref fI) = some (.type "function") ∧ Binds K fd ps [] ∧ FnB P w K mg base (CX P w mg) 1 fI fd ps (spIni C flds)
def iniB (st : Stmt) (ps : List Str) (flds : List Str) : Bool := match defBody st, ps, flds with
  | [.Assign [.Attribute (.Name s1 _) f _] (.Name x _) _], [q1, q2], [g1] => s1 == q1 && x == q2 && f == g1 && !(s1 == ("__debug__" : Str)) && !(s1 == ("__classdict__" : Str)) && !(x == ("__debug__" : Str)) && !(x == ("__classdict__" : Str))
  | [.Assign [.Attribute (.Name s1 _) f _] (.Name x _) _, .Assign [.Attribute (.Name s2 _) f2 _] (.Name y _) _], [q1, q2, q3], [g1, g2] => s1 == q1 && s2 == q1 && x == q2 && y == q3 && f == g1 && f2 == g2 && !(s1 == ("__debug__" : Str)) && !(s1 == ("__classdict__" : Str)) &&
      !(x == ("__debug__" : Str)) && !(x == ("__classdict__" : Str)) && !(y == ("__debug__" : Str)) && !(y == ("__classdict__" : Str))
  | _, _, _ => false
theorem iniAt {P : Program} {w : World} {K : PySem.W.Frag} {mg : Str → Option Value} {base : Heap} {C fI : Addr} {st : Stmt} {qual : Str} {ps flds : List Str} {oc : Value} {od an : Option Addr} {osl : Array (Option Value)} {kV doc pm cdv ct : Value}
    (i : PySem.W.findIn K (.ref C) "__init__" = some (some (.ref fI))) (t : PySem.W.typeIn K (.ref fI) = some (.type "function"))
    (l : K.lookup fI = some ⟨oc, od, .func (PySem.W.fnOf "__init__" qual (defArgs st) (defBody st) (defScope st) .none kV doc pm an cdv ct), osl⟩) (c : PySem.W.codeIn K cdv qual = true)
    (hb : ∀ (kV doc pm : Value) (an : Option Addr) (cdv ct : Value) (us : List Value), us.length = ps.length → bindArgs (PySem.W.fnOf "__init__" qual (defArgs st) (defBody st) (defScope st) .none kV doc pm an cdv ct) ⟨us, []⟩ = pure (ps.zip us))
    (S : FnScope ps ps (defScope st)) (hi : iniB st ps flds = true) (T : OexC K C) (hno : ∀ f ∈ flds, PySem.W.findIn K (.ref C) f = some none) : IniAt P w K mg base C flds := by
  refine ⟨fI, _, ps, i, t, .all (hb kV doc pm an cdv ct), ?_⟩
  unfold iniB at hi
  split at hi
  · rename_i s1 p1 f p2 x p3 p4 q1 q2 g1 hbd
    simp only [Bool.and_eq_true, beq_iff_eq, Bool.not_eq_true'] at hi
    obtain ⟨⟨⟨⟨⟨⟨rfl, rfl⟩, rfl⟩, d1⟩, d2⟩, d3⟩, d4⟩ := hi
    rw [hbd] at l ⊢
    exact ⟨ini1 l c S d1 d2 d3 d4 T (hno _ (by simp)), ini1H l c S d1 d2 d3 d4 T (hno _ (by simp))⟩
  · rename_i s1 p1 f p2 x p3 p4 s2 r1 f2 r2 y r3 r4 q1 q2 q3 g1 g2 hbd
    simp only [Bool.and_eq_true, beq_iff_eq, Bool.not_eq_true'] at hi
    obtain ⟨⟨⟨⟨⟨⟨⟨⟨⟨⟨⟨rfl, rfl⟩, rfl⟩, rfl⟩, rfl⟩, rfl⟩, d1⟩, d2⟩, d3⟩, d4⟩, d5⟩, d6⟩ := hi
    rw [hbd] at l ⊢
    exact ⟨ini2 l c S d1 d2 d3 d4 d5 d6 T (hno _ (by simp)) (hno _ (by simp)), ini2H l c S d1 d2 d3 d4 d5 d6 T (hno _ (by simp)) (hno _ (by simp))⟩
  · cases hi
structure IniF (P : Program) (w : World) (K : PySem.W.Frag) (x : Str) (flds : List Str) : Prop where
  at_ : ∀ (mg : Str → Option Value) (base : Heap) (C : Addr), addrOf K x = some C → OexC K C → (∀ f ∈ flds, PySem.W.findIn K (.ref C) f = some none) → IniAt P w K mg base C flds
theorem iniF {P : Program} {w : World} {K : PySem.W.Frag} {x : Str} {C0 fI : Addr} {st : Stmt} {qual : Str} {ps flds : List Str} {oc : Value} {od an : Option Addr} {osl : Array (Option Value)} {kV doc pm cdv ct : Value}
    (a : PySem.W.nsIn K mainGlobals x = some (some (.ref C0))) (i : PySem.W.findIn K (.ref C0) "__init__" = some (some (.ref fI))) (t : PySem.W.typeIn K (.ref fI) = some (.type "function"))
    (l : K.lookup fI = some ⟨oc, od, .func (PySem.W.fnOf "__init__" qual (defArgs st) (defBody st) (defScope st) .none kV doc pm an cdv ct), osl⟩) (c : PySem.W.codeIn K cdv qual = true)
    (hb : ∀ (kV doc pm : Value) (an : Option Addr) (cdv ct : Value) (us : List Value), us.length = ps.length → bindArgs (PySem.W.fnOf "__init__" qual (defArgs st) (defBody st) (defScope st) .none kV doc pm an cdv ct) ⟨us, []⟩ = pure (ps.zip us))
    (S : FnScope ps ps (defScope st)) (hi : iniB st ps flds = true) : IniF P w K x flds := ⟨fun mg base C hC T hno => by
      have e := addrOf_in hC
      rw [a] at e
      cases e
      exact iniAt i t l c hb S hi T hno⟩
theorem clsB_ok {K : PySem.W.Frag} {C : Addr} (h : clsB K C = true) : Cls K C := by
  simp only [clsB, Bool.and_eq_true, decide_eq_true_eq] at h
  exact ⟨h.1, h.2.1, h.2.2.1, h.2.2.2⟩
theorem methB_ok {K : PySem.W.Frag} {fa : Nat → Option Addr} {C : Addr} {p : Str × Nat} (h : methB K fa C p = true) : ∃ a, fa p.2 = some a ∧ Meth K C p.1 a := by
  unfold methB at h
  split at h
  · rename_i a e
    simp only [Bool.and_eq_true, decide_eq_true_eq] at h
    exact ⟨a, h.1, findOf_in e, h.2.1, h.2.2⟩
  · cases h
theorem isiB_ok {K : PySem.W.Frag} {C : Addr} (h : isiB K C = true) : IsiC K C := by
  simp only [isiB, Bool.and_eq_true, decide_eq_true_eq] at h
  exact ⟨h.1, h.2.1, h.2.2.1, h.2.2.2⟩
theorem xf_of {tb : List (Addr × Str)} {P : Program} {w : World} {K : PySem.W.Frag} {mg : Str → Option Value} {h base : Heap} {G : Pg} {T : Tx} (X : K.In h) (Gn : h.Ns mainGlobals mg) (h1 : xcB K T G.cf = true) (h2 : ctB K T G.ct = true) (h3 : rzB K T G.cf G.rz = true) (h4 : ikB K G = true)
    (hb : ∀ q ∈ T.bt, bootBuiltins q.1 = some (.type q.2)) (hi : ∀ q ∈ G.rz, G.cf.getD q.2 [] ≠ [] → IniF P w K q.1 (G.cf.getD q.2 []).reverse) : XF P w K mg base G (gmOf K G T w.params tb) := by
  have cls : ∀ c C, (gmOf K G T w.params tb).ca c = some C → ∃ x, T.xs[c]? = some x ∧ addrOf K x = some C := fun c C hc => by
    simp only [gmOf, Option.bind_eq_some_iff] at hc
    exact hc
  have each : ∀ c C, (gmOf K G T w.params tb).ca c = some C → excB K C = true ∧ ndB (G.cf.getD c []) = true ∧ ∀ f ∈ G.cf.getD c [], PySem.W.findIn K (.ref C) f = some none := fun c C hc => by
    obtain ⟨x, e1, e2⟩ := cls c C hc
    have q := idxAll_ok h1 e1
    rw [e2, Nat.zero_add] at q
    simp only [Bool.and_eq_true, List.all_eq_true, decide_eq_true_eq] at q
    exact ⟨q.1.1, q.1.2, q.2⟩
  have ct1 : ∀ cv cs, ctB1 K T cv cs = true → (∀ c C, (gmOf K G T w.params tb).ca c = some C → PySem.W.exmOne K (.ref C) cv = some (cs.contains c) ∧ PySem.W.kitOne K (.ref C) cv = some (cs.contains c)) ∧ ∀ t ∈ tyNames, PySem.W.kitOne K (.type t) cv = some false := fun cv cs q => by
    simp only [ctB1, Bool.and_eq_true, List.all_eq_true, decide_eq_true_eq] at q
    refine ⟨fun c C hc => ?_, q.2⟩
    obtain ⟨x, e1, e2⟩ := cls c C hc
    have z := idxAll_ok q.1 e1
    rw [e2, Nat.zero_add] at z
    simp only [Bool.and_eq_true, decide_eq_true_eq] at z
    exact z
  have ik : ∀ (c : Nat) q, G.ik[c]? = some q → ∃ C, addrOf K q.nm = some C ∧ Cls K C ∧ (∀ f ∈ q.fl, PySem.W.findIn K (.ref C) f = some none) ∧ (∀ p ∈ q.ms, ∃ a, (gmOf K G T w.params tb).fa p.2 = some a ∧ Meth K C p.1 a) ∧ ((q.ms.lookup ("__init__" : Str)).isNone || (PySem.W.makesIn K C && PySem.W.keepIn K (.ref C))) = true := fun c q hq => by
    have z := List.all_eq_true.mp ((Bool.and_eq_true _ _).mp h4).1 q (List.mem_of_getElem? hq)
    split at z
    · rename_i C e
      simp only [Bool.and_eq_true, List.all_eq_true, decide_eq_true_eq] at z
      exact ⟨C, e, clsB_ok z.1, z.2.1, fun p hp => methB_ok (z.2.2.1 p hp), z.2.2.2⟩
    · cases z
  have ik2 : ∀ (c : Nat) q, G.ik[c]? = some q → ∃ C, addrOf K q.nm = some C ∧ IsiC K C ∧ (∀ n ∈ tyNames, PySem.W.notFirst K C (.type n) = true ∧ PySem.W.kitOne K (.type n) (.ref C) = some false) ∧ ((q.ms.lookup nEq).isNone = true ∨ PySem.W.findIn K (.ref C) "__ne__" = some (some (.builtin "object.__ne__"))) ∧
      idxAll (fun j q' => match addrOf K q'.nm with
        | some D => decide (PySem.W.kitOne K (.ref D) (.ref C) = some (q.sb.contains j))
        | none => false) 0 G.ik = true := fun c q hq => by
    have z := List.all_eq_true.mp ((Bool.and_eq_true _ _).mp h4).2 q (List.mem_of_getElem? hq)
    split at z
    · rename_i C e
      simp only [Bool.and_eq_true, List.all_eq_true, Bool.or_eq_true, decide_eq_true_eq] at z
      exact ⟨C, e, isiB_ok z.1, z.2.1, z.2.2.1, z.2.2.2⟩
    · cases z
  have ia2 : ∀ c C, (gmOf K G T w.params tb).ia c = some C → ∃ q, G.ik[c]? = some q ∧ addrOf K q.nm = some C := fun c C hC => by
    simp only [gmOf, Option.bind_eq_some_iff] at hC
    exact hC
  have h30 := (Bool.and_eq_true _ _).mp h3
  refine ⟨rfl, fun _ => rfl, fun c C hc => excB_ok (each c C hc).1, fun c C hc => ⟨ndB_ok (each c C hc).2.1, (each c C hc).2.2⟩, fun x cs hx => ?_, fun x c hx => ?_, fun hne c C hc hl => ?_, fun f l hl => ?_, fun c C hC => ?_, fun c C q f hC hq hf => ?_, fun c C q x i hC hq hx => ?_, fun c C hC => ?_, fun c C hC n hn => ?_, fun c C q f hC hq hf => ?_, fun c C hC n hn => ?_, fun i C q c D hC hq hD => ?_, fun i q hq => ?_, fun c q i hq hi => ?_⟩
  · have q := List.all_eq_true.mp h2 _ (lookup_mem hx)
    dsimp only at q
    split at q
    · rename_i C e
      obtain ⟨q1, q2⟩ := ct1 _ _ q
      exact ⟨.ref C, .ref C, .inl (PySem.W.mg_of X Gn e), .own C, rfl, q1, q2⟩
    · rename_i e
      split at q
      · rename_i n hn
        simp only [Bool.and_eq_true, Bool.not_eq_true', beq_eq_false_iff_ne] at q
        obtain ⟨q1, q2⟩ := ct1 _ _ q.1
        exact ⟨.type n, .ty n, .inr ⟨PySem.W.mg_none_of X Gn e, hb _ (lookup_mem hn), q.2⟩, .ty n, rfl, q1, q2⟩
      · cases q
    · cases q
  · have hm := lookup_mem hx
    have q := List.all_eq_true.mp h30.1 _ hm
    simp only [Bool.and_eq_true, decide_eq_true_eq] at q
    obtain ⟨q1, q2⟩ := q
    split at q2
    · rename_i C e
      have hca : (gmOf K G T w.params tb).ca c = some C := by
        simp only [gmOf, Option.bind_eq_some_iff]
        exact ⟨x, q1, e⟩
      refine ⟨C, PySem.W.mg_of X Gn (addrOf_in e), hca, ?_⟩
      obtain ⟨hE, hty, hkp⟩ := excB_ok (each c C hca).1
      show (G.cf.getD c [] = [] ∧ _) ∨ (G.cf.getD c [] ≠ [] ∧ _)
      split at q2
      · rename_i e0
        exact .inl ⟨e0, q2⟩
      · rename_i f0 fr e0
        simp only [Bool.and_eq_true, decide_eq_true_eq] at q2
        have T1 := oexB_ok q2.1 hE hty hkp q2.2
        have hne : G.cf.getD c [] ≠ [] := by rw [e0]; simp
        exact .inr ⟨hne, T1, (hi _ hm hne).at_ mg base C e T1 fun f hf => (each c C hca).2.2 f (by simpa using hf)⟩
    · cases q2
  · obtain ⟨x, e1, e2⟩ := cls c C hc
    have q0 : idxAll (fun c x => (hlOf G.rz).contains c || match addrOf K x with
      | some C => hotB1 K C
      | none => true) 0 T.xs = true := (Bool.or_eq_true _ _).mp h30.2 |>.resolve_left fun z => hne (List.isEmpty_iff.mp z)
    have q := idxAll_ok q0 e1
    rw [Nat.zero_add, hl, e2, Bool.false_or] at q
    exact hotB1_ok X Gn q
  · have hl : faOf K G f = some l := hl
    simp only [faOf, Option.bind_eq_some_iff] at hl
    obtain ⟨F, e, z⟩ := hl
    exact ⟨F, e, (fun q => by rw [q] at z; simp at z), fun q => by rw [q] at z; simp at z⟩
  · simp only [gmOf, Option.bind_eq_some_iff] at hC
    obtain ⟨q, hq, e⟩ := hC
    obtain ⟨C', e', k1, _⟩ := ik c q hq
    rw [e] at e'
    cases e'
    exact k1
  · obtain ⟨C', e', k1, k2, _⟩ := ik c q hq
    simp only [gmOf, hq, Option.bind_some] at hC
    rw [hC] at e'
    cases e'
    exact k2 f (by simpa using hf)
  · obtain ⟨C', e', k1, k2, k3, _⟩ := ik c q hq
    have hC2 := hC
    simp only [gmOf, hq, Option.bind_some] at hC2
    rw [hC2] at e'
    cases e'
    exact k3 _ (lookup_mem hx)
  · obtain ⟨q, hq, e⟩ := ia2 c C hC
    obtain ⟨C', e', k, _⟩ := ik2 c q hq
    rw [e] at e'
    cases e'
    exact k
  · obtain ⟨q, hq, e⟩ := ia2 c C hC
    obtain ⟨C', e', _, k, _⟩ := ik2 c q hq
    rw [e] at e'
    cases e'
    exact (k n hn).1
  · obtain ⟨q', hq', e⟩ := ia2 c C hC
    rw [hq] at hq'
    cases hq'
    obtain ⟨C', e', _, _, k, _⟩ := ik2 c q hq
    rw [e] at e'
    cases e'
    exact k.resolve_left fun z => by rw [hf] at z; cases z
  · obtain ⟨q, hq, e⟩ := ia2 c C hC
    obtain ⟨C', e', _, k, _⟩ := ik2 c q hq
    rw [e] at e'
    cases e'
    exact (k n hn).2
  · obtain ⟨q', hq', e⟩ := ia2 i C hC
    rw [hq] at hq'
    cases hq'
    obtain ⟨C', e', _, _, _, k⟩ := ik2 i q hq
    rw [e] at e'
    cases e'
    obtain ⟨q2, hq2, e2⟩ := ia2 c D hD
    have z := idxAll_ok k hq2
    rw [e2, Nat.zero_add] at z
    exact of_decide_eq_true z
  · obtain ⟨C', e', _⟩ := ik2 i q hq
    exact ⟨C', PySem.W.mg_of X Gn (addrOf_in e'), by simp only [gmOf, hq, Option.bind_some]; exact e'⟩
  · obtain ⟨C', e', k1, k2, k3, k4⟩ := ik c q hq
    obtain ⟨a, ha, hm⟩ := k3 _ (lookup_mem hi)
    have hn : (q.ms.lookup ("__init__" : Str)).isNone = false := by rw [hi]; rfl
    rw [hn, Bool.false_or, Bool.and_eq_true] at k4
    exact ⟨C', a, PySem.W.mg_of X Gn (addrOf_in e'), by simp only [gmOf, hq, Option.bind_some]; exact e', ha, ⟨k4.1, hm.at_, hm.fn, k4.2⟩⟩
theorem fa_of {K : PySem.W.Frag} {G : Pg} {T : Tx} {pr : Params} {i : Nat} {F : Fn} {l : Addr} {tb : List (Addr × Str)} (h : G.P[i]? = some F) (a : AtF K G F l) : (gmOf K G T pr tb).fa i = some l := by
  unfold AtF at a
  show faOf K G i = some l
  simp only [faOf, h, Option.bind_some]
  split at a
  · rename_i e
    simp only [e, addrOf, a]
  · rename_i c e
    obtain ⟨hc, q, C, h1, h2, h3⟩ := a
    simp only [e, if_neg hc, h1, Option.bind_some, addrOf, h2, findOf, h3]
theorem law_sp {K : PySem.W.Frag} {P : List Fn} {g : Gm} {k i : Nat} {H : Hp} {a : Addr} {ns : List Int} (h : ∃ m, callF P k i [.scr ns] [] = .ok (.bl true) m) (hs : SqL K H a (ns.map V.int)) (ht : LamX.Tabs g.tb H) : spM K P g k i [.ref a] H (fun v _ => v = .bl true) fun _ _ _ => False := by
  obtain ⟨m, e⟩ := h
  refine ⟨⟨[], []⟩, [], [.scr ns], ⟨List.nodup_nil, rfl, fun _ z => absurd z (by simp), fun i o a z => absurd z (by simp), ht⟩, .cons (.scr (SqS.of hs)) .nil, ?_⟩
  rw [e]
  intro ρ' H' v _ _ r
  cases r
  rfl
end Ev
namespace LamX
open PySem PySem.Spec PyProof.Rows L2
theorem law_callG {P : Program} {w : World} {K : PySem.W.Frag} {mg mb : Str → Option Value} {k : Nat} {fa a : Addr} {cs : List (Addr × Addr)} {fd : FuncData} {x : Str} {sp : Sp} {s₁ : Shared} {vs : List Value} {ns : List Int}
    (KX : K.In s₁.heap) (hns : s₁.heap.Ns mainGlobals mg) (hb : s₁.heap.Ns builtinsNs mb) (hbb : ∀ x : Str, x ≠ "__name__" → mb x = bootBuiltins x) (hlim : s₁.heap.NoLimit) (hg : s₁.gens = #[])
    (hT : ∀ p ∈ cs, s₁.heap.get? p.2 = some { cls := .none, data := .fields #[] }) (nT : ∀ p ∈ cs, K.lookup p.2 = none) (C : ∀ p ∈ cs, PySem.W.CodeHd s₁.heap p.1 p.2)
    (hbm : ∃ (bm : Addr) (ob : Obj), mg "__builtins__" = some (.ref bm) ∧ bm ≠ builtinsNs ∧ s₁.heap.get? bm = some ob ∧ ob.cls = .type "module" ∧ ob.dict = some builtinsNs ∧ ob.data = .plain)
    (ha : s₁.heap.get? a = some { cls := .type "list", data := .seq vs.toArray }) (hi : IntsAre vs ns) (hl : ns.length ≤ sizeLine) (hr : Room k callerA)
    (F : ∀ base : Heap, K.In base → base.Ns mainGlobals mg → (∀ p ∈ cs, TabB base mg p.1 p.2) → Ev.FnG P w K mg base k fa fd [x] sp) (hbind : ∀ (s : Shared) (u : Value), BindsTo s fd ⟨[u], []⟩ [(x, u)])
    (hsp : ∀ H : Hp, (∀ p ∈ cs, H p.2 = some (.tbl #[])) → SqL K H a (ns.map V.int) → sp [.ref a] H (fun v _ => v = .bl true) fun _ _ _ => False) :
    codeAny (model P w) callerA (.call (.ref fa) ⟨[.ref a], []⟩) (fun r s' => r = .ok (.ret (.bool true)) ∧ OldK s₁.heap s'.heap ∧ s'.os = s₁.os ∧ AllBare s'.gens) s₁ := by
  have rv := vals_ints hi
  have lenV := hi.length
  have isT : ∀ b : Addr, b ∈ cs.map (·.2) → s₁.heap.get? b = some { cls := .none, data := .fields #[] } := fun b hb => by
    obtain ⟨p, hp, e⟩ := List.mem_map.mp hb
    rw [← e]
    exact hT p hp
  have aT : a ∉ cs.map (·.2) := fun z => by
    have q := isT a z
    rw [ha] at q
    have z' : Data.seq vs.toArray _ = Data.fields #[] := congrArg Obj.data (Option.some.inj q)
    cases z'
  have memT : ∀ p ∈ cs, p.2 ∈ cs.map (·.2) := fun p hp => List.mem_map.mpr ⟨p, hp, rfl⟩
  -- from an abstract heap in which nothing but the script and the tables may be tracked
  have core : ∀ H : Hp, (∀ p ∈ cs, H p.2 = some (.tbl #[])) → (∀ b, H b = none ∨ b ∈ cs.map (·.2) ∨ ∃ o xs, H b = some (.frz o (.lst xs))) → SqL K H a (ns.map V.int) → HOk P w H s₁.heap → (∀ b, H b ≠ none → b = a ∨ b ∈ cs.map (·.2)) → (H a ≠ none → K.lookup a = none) →
      codeAny (model P w) callerA (.call (.ref fa) ⟨[.ref a], []⟩) (fun r s' => r = .ok (.ret (.bool true)) ∧ OldK s₁.heap s'.heap ∧ s'.os = s₁.os ∧ AllBare s'.gens) s₁ := by
    intro H hH hO hS hok hA hK
    have base_of : ∀ {b : Addr} {o : Obj}, s₁.heap.get? b = some o → H b = none → (hidT s₁.heap H).get? b = some o := fun e n => hidT_get e n
    have noD : ∀ {b : Addr} {o : Obj}, s₁.heap.get? b = some o → (∀ vs n, o.data ≠ .seq vs n) → o.data ≠ .fields #[] → H b = none := fun {b o} e h1 h2 => by
      cases q : H b with
      | none => rfl
      | some u =>
        rcases hA b (by rw [q]; simp) with e' | e'
        · rw [e', ha] at e
          cases e
          exact (h1 _ _ rfl).elim
        · rw [isT b e'] at e
          cases e
          exact (h2 rfl).elim
    have noA : ∀ {b : Addr} {o : Obj} {es : Array DictEntry} {ep : Nat}, s₁.heap.get? b = some o → o.data = .dict es ep → H b = none := fun {b o es ep} e d => by
      refine noD e (fun vs n z => ?_) fun z => ?_
      · rw [d] at z
        cases z
      · rw [d] at z
        cases z
    have nsK : ∀ {b : Addr} {m : Str → Option Value}, s₁.heap.Ns b m → (hidT s₁.heap H).Ns b m := fun {b m} ⟨o, es, ep, e, d, r⟩ => ⟨o, es, ep, base_of e (noA e d), d, r⟩
    have hKb : K.In (hidT s₁.heap H) := fun b o e => base_of (KX b o e) (by
      cases q : H b with
      | none => rfl
      | some u =>
        rcases hA b (by rw [q]; simp) with e' | e'
        · rw [e'] at e q
          rw [hK (by rw [q]; simp)] at e
          cases e
        · obtain ⟨p, hp, ep⟩ := List.mem_map.mp e'
          rw [← ep, nT p hp] at e
          cases e)
    have hM : L2.Mod K mg (hidT s₁.heap H) := ⟨hKb, nsK hns, ⟨mb, nsK hb, hbb⟩, let ⟨mc, h1, h2⟩ := hlim; ⟨mc, nsK h1, h2⟩⟩
    have TB : ∀ p ∈ cs, TabB (hidT s₁.heap H) mg p.1 p.2 := fun p hp => by
      have hTp := hT p hp
      refine ⟨?_, ?_, fun z => ?_⟩
      · obtain ⟨o, us, file, tf, flags, tg, inF, text, tt, e1, r1, r2, r3, r4, r5, r6, r7, r8, hne⟩ := C p hp
        refine ⟨o, us, file, tf, flags, tg, inF, text, tt, base_of e1 (noD e1 (fun vs n z => ?_) fun z => ?_), r1, r2, r3, r4, r5, r6, r7, r8, hne⟩
        · rw [r2] at z
          cases z
        · rw [r2] at z
          cases z
          simp at r3
      · obtain ⟨bm, ob, b1, b2, b3, b4, b5, b6⟩ := hbm
        have nG : bm ≠ mainGlobals := fun q => by
          obtain ⟨o, es, ep, e, hd, _⟩ := hns
          rw [q, e] at b3
          cases b3
          rw [hd] at b6
          cases b6
        have nP : bm ≠ p.2 := fun q => by
          rw [q, hTp] at b3
          cases b3
          cases b6
        refine ⟨bm, ob, b1, b2, nG, nP, base_of b3 (noD b3 (fun vs n z => ?_) fun z => ?_), b4, b5, b6⟩
        · rw [b6] at z
          cases z
        · rw [b6] at z
          cases z
      · obtain ⟨o, es, ep, e, hd, _⟩ := hns
        rw [z, hTp] at e
        cases e
        cases hd
    have e0 : Env0 P w K mg (hidT s₁.heap H) callerA [] s₁ H := ⟨rfl, hM, fun b o e => of_hidT e, Nat.le_of_eq (hidT_size _ _), trivial, fun b hb => absurd (show b ∈ ([] : List Addr) from hb) (by simp), hok, .of_eq hg⟩
    refine codeAny_mono ((F _ hKb (nsK hns) TB).run callerA [] s₁ H ⟨[.ref a], []⟩ [.ref a] [.ref a] _ _ hr rfl e0 (hbind s₁ (.ref a)) (.cons rfl .nil) (hsp H hH hS)) fun r s' h => ?_
    cases r with
    | error e =>
      obtain ⟨_, _, _, _, _, _, _, _, _, _, _, _, z⟩ := h
      exact z.elim
    | ok fl =>
      cases fl with
      | next => exact False.elim h
      | brk => exact False.elim h
      | cont => exact False.elim h
      | ret u =>
        obtain ⟨v, H', os, bare, un, hok', r', q⟩ := h
        have q' : v = .bl true := q
        subst q'
        obtain rfl : u = Value.bool true := r'
        have key : ∀ b o, b ∉ cs.map (·.2) → s₁.heap.get? b = some o → s'.heap.get? b = some o := fun b o nb e => by
          cases q : H b with
          | none => exact un.keep b o e q (by intro z; exact absurd (show b ∈ ([] : List Addr) from z) (by simp)) (by simp)
          | some u =>
            rcases hO b with z | z | ⟨ob, xs, z⟩
            · rw [q] at z; cases z
            · exact absurd z nb
            · have z2 := un.frzs b ob _ z
              obtain ⟨e1, _⟩ := hok b _ z
              obtain ⟨e2, _⟩ := hok' b _ z2
              rw [e] at e1; cases e1
              exact e2
        have grown : ∀ p ∈ cs, ∃ more : Array Value, s'.heap.get? p.2 = some { cls := .none, data := .fields more } := fun p hp => by
          obtain ⟨more, z⟩ := un.tbls p.2 #[] (hH p hp)
          exact ⟨_, hok' p.2 _ z⟩
        refine ⟨rfl, ⟨fun b o e => ?_, fun b o e => ?_⟩, os, bare⟩
        · by_cases hb : b ∈ cs.map (·.2)
          · obtain ⟨p, hp, ep⟩ := List.mem_map.mp hb
            obtain ⟨more, hm⟩ := grown p hp
            rw [← ep] at e ⊢
            rw [hT p hp] at e
            cases e
            exact .inr (.inl ⟨((C p hp).tab (hT p hp)).isCodeTable, rfl, #[], more, rfl, by rw [Array.empty_append]; exact hm⟩)
          · exact .inl (key b o hb e)
        · by_cases hb : b ∈ cs.map (·.2)
          · obtain ⟨p, hp, ep⟩ := List.mem_map.mp hb
            obtain ⟨more, hm⟩ := grown p hp
            rw [← ep]
            exact ⟨_, hm⟩
          · exact ⟨o, key b o hb e⟩
  cases hk : K.lookup a with
  | some o =>
    have e := KX a o hk
    rw [ha] at e
    cases e
    refine core (fun b => if b ∈ cs.map (·.2) then some (.tbl #[]) else none) (fun p hp => if_pos (memT p hp)) (fun b => ?_) (.inr ⟨_, vs.toArray, _, hk, rfl, rfl, rfl, by rw [List.size_toArray, lenV]; exact hl, by simpa using rv⟩) (fun b u z => ?_) (fun b z => ?_) fun z => absurd (show (if a ∈ cs.map (·.2) then some (HO.tbl #[]) else none) = none from if_neg aT) z
    · by_cases hb : b ∈ cs.map (·.2)
      · exact .inr (.inl hb)
      · exact .inl (if_neg hb)
    · by_cases hb : b ∈ cs.map (·.2)
      · have z' := (if_pos hb).symm.trans z
        cases z'
        exact isT b hb
      · have z' := (if_neg hb).symm.trans z
        cases z'
    · by_cases hb : b ∈ cs.map (·.2)
      · exact .inr hb
      · exact absurd (if_neg hb) z
  | none =>
    refine core (fun b => if b = a then some (.frz { cls := .type "list", data := .seq vs.toArray } (.lst (ns.map V.int))) else if b ∈ cs.map (·.2) then some (.tbl #[]) else none) (fun p hp => (if_neg (show ¬ p.2 = a from fun z => aT (by rw [← z]; exact memT p hp))).trans (if_pos (memT p hp))) (fun b => ?_)
      (.inl (.inr ⟨{ cls := .type "list", data := .seq vs.toArray }, if_pos rfl⟩)) (fun b u z => ?_) (fun b z => ?_) fun _ => hk
    · by_cases hb : b = a
      · exact .inr (.inr ⟨_, _, if_pos hb⟩)
      · by_cases hb2 : b ∈ cs.map (·.2)
        · exact .inr (.inl hb2)
        · exact .inl ((if_neg hb).trans (if_neg hb2))
    · by_cases hb : b = a
      · have z' := (if_pos hb).symm.trans z
        cases z'
        rw [hb]
        exact ⟨ha, by rw [List.length_map]; exact hl, vs, _, rv, ha⟩
      · have z1 := (if_neg hb).symm.trans z
        by_cases hb2 : b ∈ cs.map (·.2)
        · have z' := (if_pos hb2).symm.trans z1
          cases z'
          exact isT b hb2
        · have z' := (if_neg hb2).symm.trans z1
          cases z'
    · by_cases hb : b = a
      · exact .inl hb
      · by_cases hb2 : b ∈ cs.map (·.2)
        · exact .inr hb2
        · exact absurd ((if_neg hb).trans (if_neg hb2)) z
end LamX
namespace He
open PySem PySem.Spec PyProof.Rows L2
end He
namespace Ev
open PySem PySem.Spec PyProof.Rows L2
theorem funD_fun {K : PySem.W.Frag} {x qual : Str} {st : Stmt} {f : Addr} {fd : FuncData} (F : FunD K x qual (defArgs st) (defBody st) (defScope st) [] [] f fd) : Fun K x qual st f fd := by
  obtain ⟨oc, od, dV, kV, doc, pm, an, cdv, ct, osl, e, lk, hc, hd, hk⟩ := F.ex
  rcases hd with ⟨_, rfl⟩ | ⟨h, _⟩
  · exact ⟨⟨oc, od, kV, doc, pm, an, cdv, ct, osl, e, lk, hc⟩, F.kp⟩
  · exact absurd rfl h
def tbOf (K : PySem.W.Frag) (lm : List Str) : List (Addr × Str) := lm.map fun x => ((He.cT K (x, none)).2, x ++ ".<locals>." ++ "<lambda>")
structure ExB (G : Pg) (T : Tx) (h : Hd) (K : PySem.W.Frag) : Prop where
  ns : ∀ x ∈ h.ns, PySem.W.nsIn K mainGlobals x = some (some (.ref (He.ga K x)))
  ms : ∀ p ∈ h.ms, PySem.W.findIn K (.ref (He.ga K p.1)) p.2 = some (some (.ref (He.ma K (He.ga K p.1) p.2)))
  fr : ∀ x ∈ h.fr, PySem.W.nsIn K mainGlobals x = some none
  cs : ∀ c ∈ h.cs, CnF.ok K c = true
  is : ∀ x ∈ h.is, iniOk K x = true
  xc : xcB K T G.cf = true
  xt : ctB K T G.ct = true
  xr : rzB K T G.cf G.rz = true
  xi : ikB K G = true
  nd : tabNd K h.lm = true
theorem exB_ok {G : Pg} {T : Tx} {h : Hd} {K : PySem.W.Frag} (e : exB G T h K = true) : ExB G T h K := by
  simp only [exB, Bool.and_eq_true, List.all_eq_true] at e
  obtain ⟨h1, h2, h3, h4, h5, h6, h7, h8, h9, h10⟩ := e
  exact ⟨fun x hx => He.eqO_ok (h1 x hx), fun p hp => He.eqO_ok (h2 p hp), fun x hx => He.eqO_ok (h3 x hx), h4, h5, h6, h7, h8, h9, h10⟩
section
variable {G : Pg} {T : Tx} {hd : Hd} {fa : List He.Fa} {fn : List He.DefD} {ts : List He.Tab} {tf : List He.Defn} {w : World} {h : Heap} {K : PySem.W.Frag} {g : Gm}
theorem mem_at {α : Type} {l : List α} (i : Nat) {x : α} (h : l[i]? = some x) : x ∈ l := List.mem_of_getElem? h
theorem defAtE (c : He.SaysX fa fn ts tf (exB G T hd) w h K) (i j : Nat) {x : Str} {st : Stmt} (h1 : fn[i]? = some (dfD x st)) (h2 : hd.ns[j]? = some x) : DefAt K x st := by
  obtain ⟨fd, F⟩ := c.t.d.def_ i h1
  exact ⟨He.ga K x, fd, (exB_ok c.more).ns x (mem_at j h2), funD_fun F⟩
theorem intE (c : He.SaysX fa fn ts tf (exB G T hd) w h K) (i : Nat) {x : Str} {z : Int} (h1 : fa[i]? = some (.int x z)) : GlAt K g x (.int z) := by
  have q := c.t.d.fact i h1
  have q2 : (match PySem.W.nsIn K mainGlobals x with
    | some (some (.int j _)) => decide (j = z)
    | _ => false) = true := q
  split at q2
  · rename_i j t e
    rw [of_decide_eq_true q2] at e
    exact glInt e
  · cases q2
theorem iniFE {P : Program} {w2 : World} (c : He.SaysX fa fn ts tf (exB G T hd) w h K) (i j k : Nat) {x qual : Str} {st : Stmt} {ps flds : List Str} (h1 : fn[i]? = some (mtD x "__init__" qual st)) (h2 : hd.ns[j]? = some x) (h3 : hd.is[k]? = some x)
    (hb : ∀ (kV doc pm : Value) (an : Option Addr) (cdv ct : Value) (us : List Value), us.length = ps.length → bindArgs (PySem.W.fnOf "__init__" qual (defArgs st) (defBody st) (defScope st) .none kV doc pm an cdv ct) ⟨us, []⟩ = pure (ps.zip us))
    (S : FnScope ps ps (defScope st)) (hi : iniB st ps flds = true) : IniF P w2 K x flds := by
  obtain ⟨fd, F⟩ := c.t.d.def_ i h1
  have q := (exB_ok c.more).is x (mem_at k h3)
  rw [iniOk, Bool.and_eq_true] at q
  obtain ⟨oc, od, kV, doc, pm, an, cdv, ct, osl, e, lk, hcd⟩ := (funD_fun F).ex
  rw [e] at lk
  exact iniF ((exB_ok c.more).ns x (mem_at j h2)) (He.eqO_ok q.2) (of_decide_eq_true q.1) lk hcd hb S hi
theorem tabs_start {H : Hp} {lm : List Str} (hH : ∀ p ∈ (lmD lm).map (He.cT K), H p.2 = some (.tbl #[])) : LamX.Tabs (tbOf K lm) H := fun p hp => by
  obtain ⟨x, hx, rfl⟩ := List.mem_map.mp hp
  exact LamX.TabS.nil (hH _ (List.mem_map.mpr ⟨(x, none), List.mem_map.mpr ⟨x, hx, rfl⟩, rfl⟩))
end
theorem getD_all {Ts : List FT} {t : FT} {Q : FT → Prop} (h : ∀ T ∈ Ts, Q T) (ht : Q t) (i : Nat) : Q (Ts.getD i t) := by
  rw [List.getD_eq_getElem?_getD]
  cases e : Ts[i]? with
  | none => exact ht
  | some T => exact h T (List.mem_of_getElem? e)
theorem FnG.walkE {l : PySem.W.OpenLaw} {n k : Nat} {q : Program} {loose : List Str} {XP : (Str → Option Value) → Heap → Prop} {YP : World → Heap → Prop} {d : DefRec} {x : Str}
    (hn : l.most = some n) (hn2 : n ≤ sizeLine) (hdf : d.params.defaults = []) (room : Room k callerA)
    (F : ∀ (w : World) (mg : Str → Option Value) (fa : Addr) (h : Heap), YP w h → h.Ns mainGlobals mg → mg d.name = some (.ref fa) →
      ∃ (K : PySem.W.Frag) (fd : FuncData) (cs : List (Addr × Addr)) (sp : Sp), K.In h ∧ (∀ p ∈ cs, h.get? p.2 = some { cls := .none, data := .fields #[] }) ∧ (∀ p ∈ cs, K.lookup p.2 = none) ∧ (∀ p ∈ cs, PySem.W.CodeHd h p.1 p.2) ∧ (∀ (s : Shared) (u : Value), BindsTo s fd ⟨[u], []⟩ [(x, u)]) ∧
        (∀ (H : Hp) (a : Addr) (ns : List Int), ns.length ≤ n → (∀ p ∈ cs, H p.2 = some (.tbl #[])) → SqL K H a (ns.map V.int) → sp [.ref a] H (fun v _ => v = .bl true) fun _ _ _ => False) ∧
        ∀ base : Heap, K.In base → base.Ns mainGlobals mg → (∀ p ∈ cs, LamX.TabB base mg p.1 p.2) → FnG l.prog w K mg base k fa fd [x] sp) :
    PySem.W.WalkO q loose XP YP l.row.toRowW d [] (fun f vs => PySem.call f vs) := by
  refine Att.attach_call hn hdf fun w s₀ s₁ mg mb fa o pm cd doc a vs ns G Y ho hd hcd hmg hobj hints hlen hg => ?_
  obtain ⟨K, fd, cs, sp, KX, hT, nT, C, hb, hsp, hF⟩ := F w mg fa _ Y G.T.g hmg
  exact LamX.law_callG KX G.T.g G.T.b G.T.builtins G.T.nolimit hg hT nT C G.T.bmain hobj hints (Nat.le_trans hlen hn2) room hF hb (fun H hH hS => hsp H a ns hlen hH hS)
end Ev
namespace Ev
open PySem L2
def R.wpx {α : Type} (r : R α) (E : Xp) (Q : α → Mu → Prop) : Prop := match r with
  | .ok a m => Q a m
  | .exc c fs m => E c fs m
  | .bad => False
abbrev R.wp {α : Type} (r : R α) (Q : α → Mu → Prop) : Prop := r.wpx (fun _ _ _ => False) Q
section
variable {α β : Type} {Ex : Xp}
@[simp] theorem wp_ok (a : α) (m : Mu) (Q : α → Mu → Prop) : (R.ok a m).wpx Ex Q ↔ Q a m := Iff.rfl
@[simp] theorem wp_exc (c : Nat) (fs : List D) (m : Mu) (Q : α → Mu → Prop) : (R.exc c fs m : R α).wpx Ex Q ↔ Ex c fs m := Iff.rfl
@[simp] theorem wp_bad (Q : α → Mu → Prop) : (R.bad : R α).wpx Ex Q ↔ False := Iff.rfl
@[simp] theorem wp_bind (r : R α) (f : α → Mu → R β) (Q : β → Mu → Prop) : (r.bind f).wpx Ex Q ↔ r.wpx Ex fun a m => (f a m).wpx Ex Q := by
  cases r <;> exact Iff.rfl
@[simp] theorem wp_opt (m : Mu) (o : Option α) (Q : α → Mu → Prop) : (opt m o).wpx Ex Q ↔ ∃ a, o = some a ∧ Q a m := by
  cases o with
  | none => simp
  | some a => simp
@[simp high] theorem wp_optm (m : Mu) (o : Option α) (f : α → β) (Q : β → Mu → Prop) : (opt m (o.map f)).wpx Ex Q ↔ ∃ a, o = some a ∧ Q (f a) m := by
  cases o with
  | none => simp
  | some a => simp
@[simp] theorem truth_bl (m : Mu) (b : Bool) : truthD m (.bl b) = some b := rfl
theorem wx_mono {r : R α} {Q Q' : α → Mu → Prop} (h : r.wpx Ex Q) (hq : ∀ a m, Q a m → Q' a m) : r.wpx Ex Q' := by
  cases r with
  | ok a m => exact hq a m h
  | exc c fs m => exact h
  | bad => exact h
theorem wx_weak {E2 : Xp} {r : R α} {Q Q' : α → Mu → Prop} (h : r.wpx E2 Q) (hq : ∀ a m, Q a m → Q' a m) (he : ∀ c fs m, E2 c fs m → Ex c fs m) : r.wpx Ex Q' := by
  cases r with
  | ok a m => exact hq a m h
  | exc c fs m => exact he c fs m h
  | bad => exact h
theorem wp_mono {r : R α} {Q Q' : α → Mu → Prop} (h : r.wp Q) (hq : ∀ a m, Q a m → Q' a m) : r.wpx Ex Q' := wx_weak h hq fun _ _ _ z => z.elim
theorem wp_eq {r : R α} {Q : α → Mu → Prop} (h : r.wp Q) : ∃ a m, r = .ok a m ∧ Q a m := by
  cases r with
  | ok a m => exact ⟨a, m, rfl, h⟩
  | exc c fs m => exact h.elim
  | bad => exact h.elim
end
def RS.wp (x : RS) (Q : Q4) : Prop := match x with
  | .nx s m => Q.n s m
  | .rt d m => Q.r d m
  | .bk s m => Q.b s m
  | .ct s m => Q.c s m
  | .exc c fs s m => Q.x c fs s m
  | .bad => False
@[simp] theorem swp_n (s : Sl) (m : Mu) (Q : Q4) : (RS.nx s m).wp Q ↔ Q.n s m := Iff.rfl
@[simp] theorem swp_r (d : D) (m : Mu) (Q : Q4) : (RS.rt d m).wp Q ↔ Q.r d m := Iff.rfl
@[simp] theorem swp_b (s : Sl) (m : Mu) (Q : Q4) : (RS.bk s m).wp Q ↔ Q.b s m := Iff.rfl
@[simp] theorem swp_c (s : Sl) (m : Mu) (Q : Q4) : (RS.ct s m).wp Q ↔ Q.c s m := Iff.rfl
@[simp] theorem swp_x (c : Nat) (fs : List D) (s : Sl) (m : Mu) (Q : Q4) : (RS.exc c fs s m).wp Q ↔ Q.x c fs s m := Iff.rfl
@[simp] theorem swp_bad (Q : Q4) : (RS.bad).wp Q ↔ False := Iff.rfl
@[simp] theorem swp_toS {α : Type} (r : R α) (s : Sl) (f : α → Mu → RS) (Q : Q4) : (r.toS s f).wp Q ↔ r.wpx (fun c fs m => Q.x c fs s m) fun a m => (f a m).wp Q := by
  cases r <;> exact Iff.rfl
@[simp] theorem swp_thn (x : RS) (f : Sl → Mu → RS) (Q : Q4) : (x.thn f).wp Q ↔ x.wp { Q with n := fun s m => (f s m).wp Q } := by
  cases x <;> exact Iff.rfl
theorem swp_mono {x : RS} {Q Q' : Q4} (h : x.wp Q) (h1 : ∀ s m, Q.n s m → Q'.n s m) (h2 : ∀ d m, Q.r d m → Q'.r d m) (h3 : ∀ s m, Q.b s m → Q'.b s m) (h4 : ∀ s m, Q.c s m → Q'.c s m) (h5 : ∀ c fs s m, Q.x c fs s m → Q'.x c fs s m) : x.wp Q' := by
  cases x with
  | nx s m => exact h1 s m h
  | rt d m => exact h2 d m h
  | bk s m => exact h3 s m h
  | ct s m => exact h4 s m h
  | exc c fs s m => exact h5 c fs s m h
  | bad => exact h
def FinQ (keep : Bool) (m : Mu) (Q : D → Mu → Prop) (d : D) (m' : Mu) : Prop :=
  ((keep = true ∨ m'.length = m.length) ∧ Q d m') ∨ (¬ (keep = true ∨ m'.length = m.length) ∧ ∃ d', fzD m.length m' d = some d' ∧ dropOk m.length m m' ∧ Q d' (m'.take m.length))
def FinX (m : Mu) (E : Xp) (c : Nat) (fs : List D) (m' : Mu) : Prop :=
  (m'.length = m.length ∧ E c fs m') ∨ (¬ m'.length = m.length ∧ dropOk m.length m m' ∧ closDs m.length fs = true ∧ E c fs (m'.take m.length))
theorem fin_wpx {keep : Bool} {m : Mu} {x : RS} {E : Xp} {Q : D → Mu → Prop} (h : x.wp { n := fun _ m' => FinQ keep m Q .non m', r := FinQ keep m Q, x := fun c fs _ m' => FinX m E c fs m' }) : (fin keep m x).wpx E Q := by
  have key : ∀ d m', FinQ keep m Q d m' → (fin.fin0 keep m d m').wpx E Q := by
    intro d m' h
    unfold fin.fin0
    rcases h with ⟨h1, h2⟩ | ⟨h1, d', h2, h3, h4⟩
    · rw [if_pos h1]; exact h2
    · rw [if_neg h1, h2]
      simp only
      rw [if_pos h3]
      exact h4
  cases x with
  | nx s m' => exact key _ _ h
  | rt d m' => exact key _ _ h
  | bk s m' => exact h.elim
  | ct s m' => exact h.elim
  | exc c fs s m' =>
    simp only [fin]
    rcases h with ⟨h1, h2⟩ | ⟨h1, h2, h3, h4⟩
    · rw [if_pos h1]; exact h2
    · rw [if_neg h1, if_pos ⟨h2, h3⟩]; exact h4
  | bad => exact h.elim
theorem call_wpx {P : List Fn} {n f : Nat} {F : Fn} {ds : List D} {m : Mu} {E : Xp} {Q : D → Mu → Prop} (hF : P[f]? = some F) (hl : ds.length = F.ps)
    (h : (evSs (callF P n) F.body (ds.map some ++ List.replicate (F.nn - F.ps) none) m).wp { n := fun _ m' => FinQ F.keep m Q .non m', r := FinQ F.keep m Q, x := fun c fs _ m' => FinX m E c fs m' }) : (callF P (n + 1) f ds m).wpx E Q := by
  simp only [callF, hF]
  rw [if_pos hl]
  exact fin_wpx h
theorem call_wp {P : List Fn} {n f : Nat} {F : Fn} {ds : List D} {m : Mu} {Q : D → Mu → Prop} (hF : P[f]? = some F) (hl : ds.length = F.ps)
    (h : (evSs (callF P n) F.body (ds.map some ++ List.replicate (F.nn - F.ps) none) m).wp { n := fun _ m' => FinQ F.keep m Q .non m', r := FinQ F.keep m Q }) : (callF P (n + 1) f ds m).wp Q := by
  refine call_wpx hF hl (swp_mono h (fun _ _ z => z) (fun _ _ z => z) (fun _ _ z => z) (fun _ _ z => z) fun _ _ _ _ z => z.elim)
theorem finq_same {keep : Bool} {m m' : Mu} {Q : D → Mu → Prop} {d : D} (hl : m'.length = m.length) (h : Q d m') : FinQ keep m Q d m' := .inl ⟨.inr hl, h⟩
theorem goF_wp {f : D → Sl → Mu → RS} {Q : Q4} (I : List D → Sl → Mu → Prop) (step : ∀ x r s m, I (x :: r) s m → (f x s m).wp { n := fun s m => I r s m, r := Q.r, b := Q.n, c := fun s m => I r s m, x := Q.x }) (last : ∀ s m, I [] s m → Q.n s m) :
    ∀ (xs : List D) (s : Sl) (m : Mu), I xs s m → (goF f xs s m).wp Q
  | [], s, m, h => last s m h
  | x :: r, s, m, h => by
    have q := step x r s m h
    simp only [goF]
    cases e : f x s m with
    | nx s1 m1 => rw [e] at q; exact goF_wp I step last r s1 m1 q
    | ct s1 m1 => rw [e] at q; exact goF_wp I step last r s1 m1 q
    | bk s1 m1 => rw [e] at q; exact q
    | rt d m1 => rw [e] at q; exact q
    | exc c fs s1 m1 => rw [e] at q; exact q
    | bad => rw [e] at q; exact q
theorem wp_noX {α : Type} {Ex : Xp} (r : R α) (Q : α → Mu → Prop) : (noX r).wpx Ex Q ↔ r.wp Q := by
  cases r <;> exact Iff.rfl
end Ev
namespace Ev
open PySem L2
section
variable {C : Cl} {s : Sl} {m : Mu} {Ex : Xp} {Q : D → Mu → Prop}
theorem w_cst {d : D} : (evE C (.cst d) false s m).wpx Ex Q ↔ Q d m := by simp [evE]
theorem w_cstT {d : D} : (evE C (.cst d) true s m).wpx Ex Q ↔ ∃ b, truthD m d = some b ∧ Q (.bl b) m := by simp [evE]
theorem w_glob {x : Str} {d : D} : (evE C (.glob x d) false s m).wpx Ex Q ↔ Q d m := by simp [evE]
theorem w_var {i : Nat} : (evE C (.var i) false s m).wpx Ex Q ↔ ∃ d, s[i]? = some (some d) ∧ Q d m := by
  simp only [evE, tst_f]
  cases e : s[i]? with
  | none => simp
  | some o => cases o <;> simp
theorem w_varT {i : Nat} : (evE C (.var i) true s m).wpx Ex Q ↔ ∃ d, s[i]? = some (some d) ∧ ∃ b, truthD m d = some b ∧ Q (.bl b) m := by
  simp only [evE, tst_t]
  cases e : s[i]? with
  | none => simp
  | some o => cases o <;> simp
theorem w_tup {es : Es} : (evE C (.tup es) false s m).wpx Ex Q ↔ (evEs C es s m).wpx Ex fun ds m => Q (.tup ds) m := by simp [evE]
theorem w_lst {es : Es} : (evE C (.lst es) false s m).wpx Ex Q ↔ (evEs C es s m).wpx Ex fun ds m => Q (.lst ds) m := by simp [evE]
theorem w_lstL {es : Es} : (evE C (.lstL es) false s m).wpx Ex Q ↔ (evEs C es s m).wpx Ex fun ds m => Q (.ref m.length) (m ++ [.lst ds]) := by simp [evE]
theorem w_dct : (evE C .dctE false s m).wpx Ex Q ↔ Q .dct m := by simp [evE]
theorem w_dctL : (evE C .dctL false s m).wpx Ex Q ↔ Q (.ref m.length) (m ++ [.dct []]) := by simp [evE]
theorem w_dget {a b : E} : (evE C (.dget a b) false s m).wpx Ex Q ↔ (evE C a false s m).wpx Ex fun x m => (evE C b false s m).wpx Ex fun y m => ∃ d, dgetF m x y = some d ∧ Q d m := by simp [evE]
theorem w_din {n : Bool} {a b : E} : (evE C (.din n a b) false s m).wpx Ex Q ↔ (evE C a false s m).wpx Ex fun x m => (evE C b false s m).wpx Ex fun y m => ∃ k, dinF m n x y = some k ∧ Q (.bl k) m := by simp [evE]
theorem w_dinT {n : Bool} {a b : E} : (evE C (.din n a b) true s m).wpx Ex Q ↔ (evE C a false s m).wpx Ex fun x m => (evE C b false s m).wpx Ex fun y m => ∃ k, dinF m n x y = some k ∧ Q (.bl k) m := by simp [evE, truthD]
theorem w_dg1 {a b : E} : (evE C (.dg1 a b) false s m).wpx Ex Q ↔ (evE C a false s m).wpx Ex fun x m => (∃ kvs, dctD m x = some kvs) ∧ (evE C b false s m).wpx Ex fun y m => ∃ d, dg1F m x y = some d ∧ Q d m := by simp [evE]
theorem w_lrg2 {a b : E} : (evE C (.lrg2 a b) false s m).wpx Ex Q ↔ (evE C a false s m).wpx Ex fun x m => (evE C b false s m).wpx Ex fun y m => ∃ z, lrg2F x y = some z ∧ Q z m := by simp [evE]
theorem w_rpl {es : Es} : (evE C (.rpl es) false s m).wpx Ex Q ↔ (evEs C es s m).wpx Ex fun ds m => ∃ z, reprLF m ds = some z ∧ Q z m := by simp [evE]
theorem w_tts {es : Es} : (evE C (.tts es) false s m).wpx Ex Q ↔ (evEs C es s m).wpx Ex fun ds m => ∃ z, ttsF ds = some z ∧ Q z m := by simp [evE]
theorem w_ttv {a : E} : (evE C (.ttv a) false s m).wpx Ex Q ↔ (evE C a false s m).wpx Ex fun x m => ∃ z, ttvF x = some z ∧ Q z m := by simp [evE]
theorem w_dig {a b : E} : (evE C (.dig a b) false s m).wpx Ex Q ↔ (evE C a false s m).wpx Ex fun x m => (evE C b false s m).wpx Ex fun y m => ∃ d, digF m x y = some d ∧ Q d m := by simp [evE]
theorem w_dii {n : Bool} {a b : E} : (evE C (.dii n a b) false s m).wpx Ex Q ↔ (evE C a false s m).wpx Ex fun x m => (evE C b false s m).wpx Ex fun y m => ∃ k, diiF m n x y = some k ∧ Q (.bl k) m := by simp [evE]
theorem w_diiT {n : Bool} {a b : E} : (evE C (.dii n a b) true s m).wpx Ex Q ↔ (evE C a false s m).wpx Ex fun x m => (evE C b false s m).wpx Ex fun y m => ∃ k, diiF m n x y = some k ∧ Q (.bl k) m := by simp [evE, truthD]
theorem w_disi {a : E} : (evE C (.disi a) false s m).wpx Ex Q ↔ (evE C a false s m).wpx Ex fun x m => ∃ z, disiF m x = some z ∧ Q z m := by simp [evE]
theorem w_srtk {a : E} {x : Str} {f : Nat} : (evE C (.srtk a x f) false s m).wpx Ex Q ↔ (evE C a false s m).wpx Ex fun x m => ∃ z, srtkF C f m x = some z ∧ Q z m := by simp [evE]
theorem w_lam {i : Nat} : (evE C (.lam i) false s m).wpx Ex Q ↔ Q (.lam i) m := by simp [evE]
theorem w_srtl {lv : Bool} {a : E} {f : Nat} : (evE C (.srtl lv a f) false s m).wpx Ex Q ↔ (evE C a false s m).wpx Ex fun x m => (srtlF C lv f m x).wpx Ex Q := by simp [evE]
theorem w_trg {a : E} : (evE C (.trg a) false s m).wpx Ex Q ↔ (evE C a false s m).wpx Ex fun x m => ∃ z, trgF x = some z ∧ Q z m := by simp [evE]
theorem w_dof {a : E} : (evE C (.dof a) false s m).wpx Ex Q ↔ (evE C a false s m).wpx Ex fun x m => ∃ kvs, dofF m x = some kvs ∧ Q (.ref m.length) (m ++ [.dct kvs]) := by simp [evE]
theorem w_dls {a : E} : (evE C (.dls a) false s m).wpx Ex Q ↔ (evE C a false s m).wpx Ex fun x m => ∃ d, dlsF m x = some d ∧ Q d m := by simp [evE]
theorem w_dsrt {a : E} : (evE C (.dsrt a) false s m).wpx Ex Q ↔ (evE C a false s m).wpx Ex fun x m => ∃ d, dsrtF m x = some d ∧ Q d m := by simp [evE]
theorem w_bin {op : Operator} {a b : E} : (evE C (.bin op a b) false s m).wpx Ex Q ↔ (evE C a false s m).wpx Ex fun x m => (evE C b false s m).wpx Ex fun y m => ∃ z, binF m op x y = some z ∧ Q z m := by simp [evE]
theorem w_neg {a : E} : (evE C (.neg a) false s m).wpx Ex Q ↔ (evE C a false s m).wpx Ex fun x m => ∃ i, x = .int i ∧ Q (.int (-i)) m := by
  simp only [evE, tst_f, wp_bind]
  constructor
  · intro h
    refine wx_mono h fun x m h => ?_
    cases x <;> simp [intD] at h ⊢
    exact h
  · intro h
    refine wx_mono h fun x m h => ?_
    obtain ⟨i, rfl, h⟩ := h
    simp [intD, h]
theorem w_not {t : Bool} {a : E} : (evE C (.not a) t s m).wpx Ex Q ↔ (evE C a t s m).wpx Ex fun x m => ∃ b, x = .bl b ∧ Q (.bl (!b)) m := by
  simp only [evE, wp_bind]
  constructor
  · intro h
    refine wx_mono h fun x m h => ?_
    cases x <;> simp [blD] at h ⊢
    exact h
  · intro h
    refine wx_mono h fun x m h => ?_
    obtain ⟨i, rfl, h⟩ := h
    simp [blD, h]
theorem w_cmp {op : CmpOp} {a b : E} : (evE C (.cmp op a b) false s m).wpx Ex Q ↔ (evE C a false s m).wpx Ex fun x m => (evE C b false s m).wpx Ex fun y m => ∃ z, cmpF m op x y = some z ∧ Q (.bl z) m := by simp [evE]
theorem w_cmpT {op : CmpOp} {a b : E} : (evE C (.cmp op a b) true s m).wpx Ex Q ↔ (evE C a false s m).wpx Ex fun x m => (evE C b false s m).wpx Ex fun y m => ∃ z, cmpF m op x y = some z ∧ Q (.bl z) m := by simp [evE]
theorem w_chain {t : Bool} {o1 o2 : CmpOp} {a b c : E} : (evE C (.chain o1 o2 a b c) t s m).wpx Ex Q ↔ (evE C a false s m).wpx Ex fun x m => (evE C b false s m).wpx Ex fun y m => ∃ k, cmpF m o1 x y = some k ∧
    (k = true → (evE C c false s m).wpx Ex fun z m => ∃ z', cmpF m o2 y z = some z' ∧ Q (.bl z') m) ∧ (k = false → Q (.bl false) m) := by
  cases t with
  | false =>
    simp only [evE, tst_f, wp_bind]
    constructor
    · intro h
      refine wx_mono h fun x m h => wx_mono h fun y m h => ?_
      cases e : cmpF m o1 x y with
      | none => simp [e] at h
      | some k => cases k <;> simpa [e] using h
    · intro h
      refine wx_mono h fun x m h => wx_mono h fun y m h => ?_
      obtain ⟨k, e, h1, h2⟩ := h
      cases k with
      | true => simpa [e] using h1 rfl
      | false => simpa [e] using h2 rfl
  | true =>
    simp only [evE, tst_t, wp_bind]
    constructor
    · intro h
      refine wx_mono h fun x m h => wx_mono h fun y m h => ?_
      cases e : cmpF m o1 x y with
      | none => simp [e] at h
      | some k => cases k <;> simpa [e] using h
    · intro h
      refine wx_mono h fun x m h => wx_mono h fun y m h => ?_
      obtain ⟨k, e, h1, h2⟩ := h
      cases k with
      | true => simpa [e] using h1 rfl
      | false => simpa [e] using h2 rfl
theorem w_and {t : Bool} {es : Es} : (evE C (.and es) t s m).wpx Ex Q ↔ (evAnd C es t s m).wpx Ex Q := by simp [evE]
theorem w_or {t : Bool} {es : Es} : (evE C (.or es) t s m).wpx Ex Q ↔ (evOr C es t s m).wpx Ex Q := by simp [evE]
theorem w_and1 {t : Bool} {a : E} : (evAnd C (.cons a .nil) t s m).wpx Ex Q ↔ (evE C a t s m).wpx Ex Q := by simp [evAnd]
theorem w_or1 {t : Bool} {a : E} : (evOr C (.cons a .nil) t s m).wpx Ex Q ↔ (evE C a t s m).wpx Ex Q := by simp [evOr]
theorem w_and2 {t : Bool} {a b : E} {r : Es} : (evAnd C (.cons a (.cons b r)) t s m).wpx Ex Q ↔ (evE C a t s m).wpx Ex fun x m => ∃ k, x = .bl k ∧ (k = true → (evAnd C (.cons b r) t s m).wpx Ex Q) ∧ (k = false → Q (.bl false) m) := by
  simp only [evAnd, wp_bind]
  constructor
  · intro h
    refine wx_mono h fun x m h => ?_
    cases x with
    | bl k => cases k <;> simpa using h
    | _ => exact h.elim
  · intro h
    refine wx_mono h fun x m h => ?_
    obtain ⟨k, rfl, h1, h2⟩ := h
    cases k with
    | true => exact h1 rfl
    | false => exact h2 rfl
theorem w_or2 {t : Bool} {a b : E} {r : Es} : (evOr C (.cons a (.cons b r)) t s m).wpx Ex Q ↔ (evE C a t s m).wpx Ex fun x m => ∃ k, x = .bl k ∧ (k = false → (evOr C (.cons b r) t s m).wpx Ex Q) ∧ (k = true → Q (.bl true) m) := by
  simp only [evOr, wp_bind]
  constructor
  · intro h
    refine wx_mono h fun x m h => ?_
    cases x with
    | bl k => cases k <;> simpa using h
    | _ => exact h.elim
  · intro h
    refine wx_mono h fun x m h => ?_
    obtain ⟨k, rfl, h1, h2⟩ := h
    cases k with
    | true => exact h2 rfl
    | false => exact h1 rfl
theorem w_ite {c a b : E} : (evE C (.ite c a b) false s m).wpx Ex Q ↔ (evE C c true s m).wpx Ex fun x m => ∃ k, x = .bl k ∧ (k = true → (evE C a false s m).wpx Ex Q) ∧ (k = false → (evE C b false s m).wpx Ex Q) := by
  simp only [evE, tst_f, wp_bind]
  constructor
  · intro h
    refine wx_mono h fun x m h => ?_
    cases x with
    | bl k => cases k <;> simpa using h
    | _ => exact h.elim
  · intro h
    refine wx_mono h fun x m h => ?_
    obtain ⟨k, rfl, h1, h2⟩ := h
    cases k with
    | true => exact h1 rfl
    | false => exact h2 rfl
theorem w_ix {a b : E} : (evE C (.ix a b) false s m).wpx Ex Q ↔ (evE C a false s m).wpx Ex fun x m => (evE C b false s m).wpx Ex fun y m => ∃ z, ixF m x y = some z ∧ Q z m := by simp [evE]
theorem w_ixT {a b : E} : (evE C (.ix a b) true s m).wpx Ex Q ↔ (evE C a false s m).wpx Ex fun x m => (evE C b false s m).wpx Ex fun y m => ∃ z, ixF m x y = some z ∧ ∃ k, truthD m z = some k ∧ Q (.bl k) m := by simp [evE]
theorem w_sl {a lo hi : E} : (evE C (.sl a lo hi) false s m).wpx Ex Q ↔ (evE C a false s m).wpx Ex fun x m => (evE C lo false s m).wpx Ex fun l m => ∃ l', partD (isAbs lo) l = some l' ∧ (evE C hi false s m).wpx Ex fun h m => ∃ h', partD (isAbs hi) h = some h' ∧ ∃ z, slF m x l' h' = some z ∧ Q z m := by simp [evE]
theorem w_abs : (evE C .abs false s m).wpx Ex Q ↔ Q .non m := by simp [evE]
theorem w_rev {a : E} : (evE C (.rev a) false s m).wpx Ex Q ↔ (evE C a false s m).wpx Ex fun x m => ∃ z, revF m x = some z ∧ Q z m := by simp [evE]
theorem w_lrg {a : E} : (evE C (.lrg a) false s m).wpx Ex Q ↔ (evE C a false s m).wpx Ex fun x m => ∃ z, lrgF x = some z ∧ Q z m := by simp [evE]
theorem w_call {x : Str} {f : Nat} {es : Es} : (evE C (.call x f es) false s m).wpx Ex Q ↔ (evEs C es s m).wpx Ex fun ds m => (C f ds m).wpx Ex Q := by simp [evE]
theorem w_callT {x : Str} {f : Nat} {es : Es} : (evE C (.call x f es) true s m).wpx Ex Q ↔ (evEs C es s m).wpx Ex fun ds m => (C f ds m).wpx Ex fun d m => ∃ k, truthD m d = some k ∧ Q (.bl k) m := by simp [evE]
theorem w_bi {x : Str} {b : Bi} {es : Es} : (evE C (.bi x b es) false s m).wpx Ex Q ↔ (evEs C es s m).wpx Ex fun ds m => ∃ z, biF m b ds = some z ∧ Q z m := by simp [evE]
theorem w_biT {x : Str} {b : Bi} {es : Es} : (evE C (.bi x b es) true s m).wpx Ex Q ↔ (evEs C es s m).wpx Ex fun ds m => ∃ z, biF m b ds = some z ∧ ∃ k, truthD m z = some k ∧ Q (.bl k) m := by simp [evE]
theorem w_mt {k : Mt} {a : E} {es : Es} : (evE C (.mt k a es) false s m).wpx Ex Q ↔ (evE C a false s m).wpx Ex fun x m => mtT m k x = some () ∧ (evEs C es s m).wpx Ex fun ds m => ∃ p, mtF m k x ds = some p ∧ Q p.1 p.2 := by
  simp only [evE, tst_f, wp_bind, wp_opt]
  constructor
  · intro h
    refine wx_mono h fun x m h => ?_
    obtain ⟨u, e, h⟩ := h
    refine ⟨e, wx_mono h fun ds m h => ?_⟩
    cases e2 : mtF m k x ds with
    | none => simp [e2] at h
    | some p => exact ⟨p, rfl, by simpa [e2] using h⟩
  · intro h
    refine wx_mono h fun x m h => ?_
    refine ⟨(), h.1, wx_mono h.2 fun ds m h => ?_⟩
    obtain ⟨p, e, h⟩ := h
    simpa [e] using h
theorem w_isi {a : E} {ts : List String} {tp : Bool} : (evE C (.isi a ts tp) false s m).wpx Ex Q ↔ (evE C a false s m).wpx Ex fun x m => ∃ u, tyD m x = some u ∧ Q (.bl (isiT u ts)) m := by
  simp [evE]
theorem w_isiT {a : E} {ts : List String} {tp : Bool} : (evE C (.isi a ts tp) true s m).wpx Ex Q ↔ (evE C a false s m).wpx Ex fun x m => ∃ u, tyD m x = some u ∧ Q (.bl (isiT u ts)) m := by
  simp only [evE, tst_t, wp_bind, wp_optm, truth_bl, Option.some.injEq, exists_eq_left']
noncomputable def lcB (C : Cl) (tg : Tg) (c elt : E) (s : Sl) : D → Mu → R (Option D) := fun x m => match setT tg x m (wipeS s (ownT tg)) with
        | some s' => (evE C c true s' m).bind fun k m => match k with
          | .bl true => (evE C elt false s' m).bind fun d m => .ok (some d) m
          | .bl false => .ok none m
          | _ => .bad
        | none => .bad
theorem w_lc {elt c : E} {tg : Tg} {it : It} : (evE C (.lc elt tg it c) false s m).wpx Ex Q ↔ (evI C it s m).wpx Ex fun xs m => (goL (lcB C tg c elt s) xs m).wp fun ys m => ys.length ≤ sizeLine ∧ Q (.lst ys) m := by
  simp only [evE, tst_f, wp_bind]
  have key : ∀ xs m, ((noX (goL (lcB C tg c elt s) xs m)).wpx Ex fun ys m => (if ys.length ≤ sizeLine then R.ok (D.lst ys) m else .bad).wpx Ex Q) ↔ (goL (lcB C tg c elt s) xs m).wp fun ys m => ys.length ≤ sizeLine ∧ Q (.lst ys) m := by
    intro xs m
    rw [wp_noX]
    constructor
    · intro h
      refine wx_mono h fun ys m h => ?_
      split at h
      · exact ⟨by assumption, h⟩
      · exact h.elim
    · intro h
      refine wx_mono h fun ys m h => ?_
      rw [if_pos h.1]
      exact h.2
  constructor
  · intro h
    exact wx_mono h fun xs m h => (key xs m).mp h
  · intro h
    exact wx_mono h fun xs m h => (key xs m).mpr h
noncomputable def lc2B (C : Cl) (tg tg1 : Tg) (it1 : It) (c elt : E) (s : Sl) : D → Mu → R (List D) := fun x m => match setT tg x m (wipeS s (ownT tg ++ ownT tg1)) with
        | some s1 => (evI C it1 s1 m).bind fun ys m => goL (lcB C tg1 c elt s1) ys m
        | none => .bad
theorem w_lc2 {elt c : E} {tg tg1 : Tg} {it it1 : It} : (evE C (.lc2 elt tg it tg1 it1 c) false s m).wpx Ex Q ↔ (evI C it s m).wpx Ex fun xs m => (goLL (lc2B C tg tg1 it1 c elt s) xs m).wp fun ys m => ys.length ≤ sizeLine ∧ Q (.lst ys) m := by
  simp only [evE, tst_f, wp_bind]
  have key : ∀ xs m, ((noX (goLL (lc2B C tg tg1 it1 c elt s) xs m)).wpx Ex fun ys m => (if ys.length ≤ sizeLine then R.ok (D.lst ys) m else .bad).wpx Ex Q) ↔ (goLL (lc2B C tg tg1 it1 c elt s) xs m).wp fun ys m => ys.length ≤ sizeLine ∧ Q (.lst ys) m := by
    intro xs m
    rw [wp_noX]
    constructor
    · intro h
      refine wx_mono h fun ys m h => ?_
      split at h
      · exact ⟨by assumption, h⟩
      · exact h.elim
    · intro h
      refine wx_mono h fun ys m h => ?_
      rw [if_pos h.1]
      exact h.2
  constructor
  · intro h
    exact wx_mono h fun xs m h => (key xs m).mp h
  · intro h
    exact wx_mono h fun xs m h => (key xs m).mpr h
noncomputable def dcB (C : Cl) (tg : Tg) (k v : E) (s : Sl) : D → Mu → R (List Int × D) := fun x m => match setT tg x m (wipeS s (ownT tg)) with
  | some s' => (evE C k false s' m).bind fun y m => (opt m (rowI y)).bind fun r m => (evE C v false s' m).bind fun d m => .ok (r, d) m
  | none => .bad
theorem w_dc {k v : E} {tg : Tg} {it : It} : (evE C (.dc k v tg it) false s m).wpx Ex Q ↔ (evI C it s m).wpx Ex fun xs m => (goD (dcB C tg k v s) xs [] m).wp fun kvs m => xs.length ≤ sizeLine ∧ Q (.ref m.length) (m ++ [.dct kvs]) := by
  simp only [evE, tst_f, wp_bind]
  have key : ∀ xs m, ((noX (goD (dcB C tg k v s) xs [] m)).wpx Ex fun kvs m => (if xs.length ≤ sizeLine then R.ok (D.ref m.length) (m ++ [O.dct kvs]) else .bad).wpx Ex Q) ↔ (goD (dcB C tg k v s) xs [] m).wp fun kvs m => xs.length ≤ sizeLine ∧ Q (.ref m.length) (m ++ [.dct kvs]) := by
    intro xs m
    rw [wp_noX]
    constructor
    · intro h
      refine wx_mono h fun ys m h => ?_
      split at h
      · exact ⟨by assumption, h⟩
      · exact h.elim
    · intro h
      refine wx_mono h fun ys m h => ?_
      rw [if_pos h.1]
      exact h.2
  constructor
  · intro h
    exact wx_mono h fun xs m h => (key xs m).mp h
  · intro h
    exact wx_mono h fun xs m h => (key xs m).mpr h
theorem w_lcL {elt c : E} {tg : Tg} {it : It} : (evE C (.lcL elt tg it c) false s m).wpx Ex Q ↔ (evI C it s m).wpx Ex fun xs m => (goL (lcB C tg c elt s) xs m).wp fun ys m => ys.length ≤ sizeLine ∧ Q (.ref m.length) (m ++ [.lst ys]) := by
  simp only [evE, tst_f, wp_bind]
  have key : ∀ xs m, ((noX (goL (lcB C tg c elt s) xs m)).wpx Ex fun ys m => (if ys.length ≤ sizeLine then R.ok (D.ref m.length) (m ++ [O.lst ys]) else .bad).wpx Ex Q) ↔ (goL (lcB C tg c elt s) xs m).wp fun ys m => ys.length ≤ sizeLine ∧ Q (.ref m.length) (m ++ [.lst ys]) := by
    intro xs m
    rw [wp_noX]
    constructor
    · intro h
      refine wx_mono h fun ys m h => ?_
      split at h
      · exact ⟨by assumption, h⟩
      · exact h.elim
    · intro h
      refine wx_mono h fun ys m h => ?_
      rw [if_pos h.1]
      exact h.2
  constructor
  · intro h
    exact wx_mono h fun xs m h => (key xs m).mp h
  · intro h
    exact wx_mono h fun xs m h => (key xs m).mpr h
theorem w_nil {Q : List D → Mu → Prop} : (evEs C .nil s m).wpx Ex Q ↔ Q [] m := by simp [evEs]
theorem w_cons {e : E} {r : Es} {Q : List D → Mu → Prop} : (evEs C (.cons e r) s m).wpx Ex Q ↔ (evE C e false s m).wpx Ex fun d m => (evEs C r s m).wpx Ex fun ds m => Q (d :: ds) m := by simp [evEs]
theorem w_of {e : E} {Q : List D → Mu → Prop} : (evI C (.of e) s m).wpx Ex Q ↔ (evE C e false s m).wpx Ex fun x m => ∃ xs, itF x = some xs ∧ Q xs m := by simp [evI]
theorem w_rng1 {a : E} {Q : List D → Mu → Prop} : (evI C (.rng1 a) s m).wpx Ex Q ↔ (evE C a false s m).wpx Ex fun x m => ∃ n, x = .int n ∧ small62 n = true ∧ Q (rngD 0 n.toNat) m := by
  simp only [evI, wp_bind, wp_opt]
  constructor
  · intro h
    refine wx_mono h fun x m h => ?_
    obtain ⟨xs, e, h⟩ := h
    cases x <;> simp [intD] at e
    exact ⟨_, rfl, e.1, e.2 ▸ h⟩
  · intro h
    refine wx_mono h fun x m h => ?_
    obtain ⟨n, rfl, e, h⟩ := h
    exact ⟨_, by simp [intD, e], h⟩
theorem w_rng2 {a b : E} {Q : List D → Mu → Prop} : (evI C (.rng2 a b) s m).wpx Ex Q ↔ (evE C a false s m).wpx Ex fun x m => (evE C b false s m).wpx Ex fun y m => ∃ i j, x = .int i ∧ y = .int j ∧ small62 i = true ∧ small62 j = true ∧ Q (rngD i (j - i).toNat) m := by
  simp only [evI, wp_bind, wp_opt]
  constructor
  · intro h
    refine wx_mono h fun x m h => wx_mono h fun y m h => ?_
    obtain ⟨xs, e, h⟩ := h
    cases x <;> simp [intD] at e
    cases y <;> simp [intD] at e
    obtain ⟨⟨e1, e2⟩, rfl⟩ := e
    exact ⟨_, _, rfl, rfl, e1, e2, h⟩
  · intro h
    refine wx_mono h fun x m h => wx_mono h fun y m h => ?_
    obtain ⟨i, j, rfl, rfl, e1, e2, h⟩ := h
    exact ⟨_, by simp [intD, e1, e2], h⟩
theorem w_rng3 {a b c : E} {Q : List D → Mu → Prop} : (evI C (.rng3 a b c) s m).wpx Ex Q ↔ (evE C a false s m).wpx Ex fun x m => (evE C b false s m).wpx Ex fun y m => (evE C c false s m).wpx Ex fun z m => ∃ i j, x = .int i ∧ y = .int j ∧ z = .int (-1) ∧ small62 i = true ∧ small62 j = true ∧ Q (rngDown i j) m := by
  simp only [evI, wp_bind, wp_opt]
  constructor
  · intro h
    refine wx_mono h fun x m h => wx_mono h fun y m h => wx_mono h fun z m h => ?_
    obtain ⟨xs, e, h⟩ := h
    cases x <;> simp [intD] at e
    cases y <;> simp [intD] at e
    cases z <;> simp [intD] at e
    obtain ⟨⟨rfl, e1, e2⟩, rfl⟩ := e
    exact ⟨_, _, rfl, rfl, rfl, e1, e2, h⟩
  · intro h
    refine wx_mono h fun x m h => wx_mono h fun y m h => wx_mono h fun z m h => ?_
    obtain ⟨i, j, rfl, rfl, rfl, e1, e2, h⟩ := h
    exact ⟨_, by simp [intD, e1, e2], h⟩
theorem w_enum {e : E} {Q : List D → Mu → Prop} : (evI C (.enum e) s m).wpx Ex Q ↔ (evE C e false s m).wpx Ex fun x m => ∃ xs, sqF x = some xs ∧ Q (enumD 0 xs) m := by simp [evI]
theorem w_zipS {a b : E} {Q : List D → Mu → Prop} : (evI C (.zipS a b) s m).wpx Ex Q ↔ (evE C a false s m).wpx Ex fun x m => (evE C b false s m).wpx Ex fun y m => ∃ xs, zipSF x y = some xs ∧ Q xs m := by simp [evI]
theorem w_zipM {a b : E} {Q : List D → Mu → Prop} : (evI C (.zipM a b) s m).wpx Ex Q ↔ (evE C a false s m).wpx Ex fun x m => (evE C b false s m).wpx Ex fun y m => ∃ xs, zipMF x y = some xs ∧ Q xs m := by simp [evI]
theorem w_bad {t : Bool} : (evE C .bad t s m).wpx Ex Q ↔ False := by simp [evE]
theorem w_eis {t : Bool} {a : E} {xs : List Str} {cs : List Nat} {tp : Bool} : (evE C (.eis a xs cs tp) t s m).wpx Ex Q ↔ (evE C a false s m).wpx Ex fun x m => ∃ b, eisF m cs x = some b ∧ Q (.bl b) m := by
  cases t with
  | false => simp [evE]
  | true => simp only [evE, tst_t, wp_bind, wp_optm, truth_bl, Option.some.injEq, exists_eq_left']
theorem w_efl {a : E} {f : Str} {tb : List (Nat × Nat)} : (evE C (.efl a f tb) false s m).wpx Ex Q ↔ (evE C a false s m).wpx Ex fun x m => ∃ z, eflF tb x = some z ∧ Q z m := by simp [evE]
theorem w_callV {a : E} {es : Es} : (evE C (.callV a es) false s m).wpx Ex Q ↔ (evE C a false s m).wpx Ex fun x m => ∃ f, fnF x = some f ∧ (evEs C es s m).wpx Ex fun ds m => (C f ds m).wpx Ex Q := by simp [evE]
theorem w_zip {a b : E} {Q : List D → Mu → Prop} : (evI C (.zip a b) s m).wpx Ex Q ↔ (evE C a false s m).wpx Ex fun x m => (evE C b false s m).wpx Ex fun y m => ∃ xs, zipF x y = some xs ∧ Q xs m := by simp [evI]
end
noncomputable def foB (C : Cl) (tg : Tg) (b : Ss) : D → Sl → Mu → RS := fun x s m => match setT tg x m s with
      | some s => evSs C b s m
      | none => .bad
section
variable {C : Cl} {s : Sl} {m : Mu} {Q : Q4}
theorem v_nil : (evSs C .nil s m).wp Q ↔ Q.n s m := by simp [evSs]
theorem v_cons {a : S} {r : Ss} : (evSs C (.cons a r) s m).wp Q ↔ (evS C a s m).wp { n := fun s m => (evSs C r s m).wp Q, r := Q.r, b := Q.b, c := Q.c, x := Q.x } := by simp [evSs]
theorem v_ex {e : E} : (evS C (.ex e) s m).wp Q ↔ (evE C e false s m).wpx (fun c fs m => Q.x c fs s m) fun _ m => Q.n s m := by simp [evS]
theorem v_set {i : Nat} {e : E} : (evS C (.set i e) s m).wp Q ↔ (evE C e false s m).wpx (fun c fs m => Q.x c fs s m) fun d m => Q.n (s.set i (some d)) m := by simp [evS]
theorem v_par {i j : Nat} {a b : E} : (evS C (.par i j a b) s m).wp Q ↔ (evE C a false s m).wpx (fun c fs m => Q.x c fs s m) fun x m => (evE C b false s m).wpx (fun c fs m => Q.x c fs s m) fun y m => Q.n ((s.set i (some x)).set j (some y)) m := by
  simp only [evS, swp_toS, swp_n]
theorem v_unp {is : List Nat} {e : E} : (evS C (.unp is e) s m).wp Q ↔ (evE C e false s m).wpx (fun c fs m => Q.x c fs s m) fun d m => ∃ xs, d = .tup xs ∧ xs.length = is.length ∧ Q.n ((is.zip xs).foldl (fun s p => s.set p.1 (some p.2)) s) m := by
  simp only [evS, swp_toS]
  constructor
  · intro h
    refine wx_mono h fun d m h => ?_
    cases d with
    | tup xs =>
      simp only [unpF, setT] at h
      by_cases hl : xs.length = is.length
      · rw [if_pos hl] at h; exact ⟨xs, rfl, hl, h⟩
      · rw [if_neg hl] at h; exact h.elim
    | _ => exact h.elim
  · intro h
    refine wx_mono h fun d m h => ?_
    obtain ⟨xs, rfl, hl, h⟩ := h
    simp only [unpF, setT]
    rw [if_pos hl]
    exact h
theorem v_sub {a i e : E} : (evS C (.sub a i e) s m).wp Q ↔ (evE C e false s m).wpx (fun c fs m => Q.x c fs s m) fun d m => (evE C a false s m).wpx (fun c fs m => Q.x c fs s m) fun x m => (evE C i false s m).wpx (fun c fs m => Q.x c fs s m) fun y m => ∃ m', setSub m x y d = some m' ∧ Q.n s m' := by
  simp only [evS, swp_toS]
  constructor
  · intro h
    refine wx_mono h fun d m h => wx_mono h fun x m h => wx_mono h fun y m h => ?_
    cases e : setSub m x y d with
    | none => simp [e] at h
    | some m' => exact ⟨m', rfl, by simpa [e] using h⟩
  · intro h
    refine wx_mono h fun d m h => wx_mono h fun x m h => wx_mono h fun y m h => ?_
    obtain ⟨m', e, h⟩ := h
    simpa [e] using h
theorem v_dput {a i e : E} : (evS C (.dput a i e) s m).wp Q ↔ (evE C e false s m).wpx (fun c fs m => Q.x c fs s m) fun d m => (evE C a false s m).wpx (fun c fs m => Q.x c fs s m) fun x m => (evE C i false s m).wpx (fun c fs m => Q.x c fs s m) fun y m => ∃ m', dputF m x y d = some m' ∧ Q.n s m' := by
  simp only [evS, swp_toS]
  constructor
  · intro h
    refine wx_mono h fun d m h => wx_mono h fun x m h => wx_mono h fun y m h => ?_
    cases e : dputF m x y d with
    | none => simp [e] at h
    | some m' => exact ⟨m', rfl, by simpa [e] using h⟩
  · intro h
    refine wx_mono h fun d m h => wx_mono h fun x m h => wx_mono h fun y m h => ?_
    obtain ⟨m', e, h⟩ := h
    simpa [e] using h
theorem v_aug {i : Nat} {op : Operator} {e : E} : (evS C (.aug i op e) s m).wp Q ↔ ∃ x, s[i]? = some (some x) ∧ (evE C e false s m).wpx (fun c fs m => Q.x c fs s m) fun y m => ∃ z, augF op x y = some z ∧ Q.n (s.set i (some z)) m := by
  simp only [evS]
  cases e1 : s[i]? with
  | none => simp
  | some o =>
    cases o with
    | none => simp
    | some x =>
      simp only [swp_toS, Option.some.injEq, exists_eq_left']
      constructor
      · intro h
        refine wx_mono h fun y m h => ?_
        cases e : augF op x y with
        | none => simp [e] at h
        | some z => exact ⟨z, rfl, by simpa [e] using h⟩
      · intro h
        refine wx_mono h fun y m h => ?_
        obtain ⟨z, e, h⟩ := h
        simpa [e] using h
theorem v_ite {c : E} {a b : Ss} : (evS C (.ite c a b) s m).wp Q ↔ (evE C c true s m).wpx (fun c fs m => Q.x c fs s m) fun x m => ∃ k, x = .bl k ∧ (k = true → (evSs C a s m).wp Q) ∧ (k = false → (evSs C b s m).wp Q) := by
  simp only [evS, swp_toS]
  constructor
  · intro h
    refine wx_mono h fun x m h => ?_
    cases x with
    | bl k => cases k <;> simpa using h
    | _ => exact h.elim
  · intro h
    refine wx_mono h fun x m h => ?_
    obtain ⟨k, rfl, h1, h2⟩ := h
    cases k with
    | true => exact h1 rfl
    | false => exact h2 rfl
theorem v_fo {tg : Tg} {it : It} {b : Ss} : (evS C (.fo tg it b) s m).wp Q ↔ (evI C it s m).wpx (fun c fs m => Q.x c fs s m) fun xs m => (goF (foB C tg b) xs s m).wp Q := by
  simp only [evS, swp_toS]
  exact Iff.rfl
theorem v_wh {c : E} {b : Ss} : (evS C (.wh c b) s m).wp Q ↔ (goW (fun s m => evE C c true s m) (fun s m => evSs C b s m) wFuel s m).wp Q := by simp only [evS]
theorem v_ret {e : E} : (evS C (.ret e) s m).wp Q ↔ (evE C e false s m).wpx (fun c fs m => Q.x c fs s m) fun d m => Q.r d m := by simp [evS]
theorem v_retN : (evS C .retN s m).wp Q ↔ Q.r .non m := by simp [evS]
theorem v_pass : (evS C .pass s m).wp Q ↔ Q.n s m := by simp [evS]
theorem v_brk : (evS C .brk s m).wp Q ↔ Q.b s m := by simp [evS]
theorem v_cont : (evS C .cont s m).wp Q ↔ Q.c s m := by simp [evS]
theorem v_bad : (evS C .bad s m).wp Q ↔ False := by simp [evS]
theorem v_rz {x : Str} {c : Nat} {es : Es} : (evS C (.rz x c es) s m).wp Q ↔ (evEs C es s m).wpx (fun c fs m => Q.x c fs s m) fun ds m => Q.x c ds.reverse s m := by simp [evS]
theorem v_tr {b : Ss} {h : Hs} : (evS C (.tr b h) s m).wp Q ↔ (evSs C b s m).wp { Q with x := fun c fs s m => (evHs C h c fs s m).wp Q } := by
  simp only [evS, trF]
  cases evSs C b s m <;> exact Iff.rfl
theorem h_nil {c : Nat} {fs : List D} : (evHs C .nil c fs s m).wp Q ↔ Q.x c fs s m := by simp [evHs]
theorem h_cons {y : Str} {cs : List Nat} {i : Option Nat} {b : Ss} {r : Hs} {c : Nat} {fs : List D} : (evHs C (.cons y cs i b r) c fs s m).wp Q ↔ (cs.contains c = true → (evSs C b (putI i (.xo c fs) s) m).wp { n := fun s m => Q.n (dropI i s) m, r := Q.r, b := fun s m => Q.b (dropI i s) m, c := fun s m => Q.c (dropI i s) m }) ∧
    (cs.contains c = false → (evHs C r c fs s m).wp Q) := by
  simp only [evHs]
  cases cs.contains c with
  | true =>
    simp only [if_true, true_implies, Bool.true_eq_false, false_implies, and_true]
    cases evSs C b (putI i (.xo c fs) s) m <;> exact Iff.rfl
  | false => simp
theorem foB_nm {i : Nat} {b : Ss} {x : D} : foB C (.nm i) b x s m = evSs C b (s.set i (some x)) m := rfl
end
theorem goW_wp {c : Sl → Mu → R D} {f : Sl → Mu → RS} {Q : Q4} (I : Nat → Sl → Mu → Prop) (step : ∀ k s m, I k s m → (c s m).wpx (fun c fs m => Q.x c fs s m) fun x m => ∃ b, x = .bl b ∧ (b = false → Q.n s m) ∧ (b = true → (f s m).wp { n := fun s m => ∃ k', k' < k ∧ I k' s m, r := Q.r, b := Q.n, c := fun s m => ∃ k', k' < k ∧ I k' s m, x := Q.x })) :
    ∀ (n k : Nat) (s : Sl) (m : Mu), k < n → I k s m → (goW c f n s m).wp Q
  | 0, k, s, m, h, _ => by omega
  | n + 1, k, s, m, h, hi => by
    have q := step k s m hi
    simp only [goW, swp_toS]
    refine wx_mono q ?_
    rintro x m1 ⟨b, rfl, h1, h2⟩
    cases b with
    | false => exact h1 rfl
    | true =>
      have q2 := h2 rfl
      simp only
      cases e : f s m1 with
      | nx s2 m2 =>
        rw [e] at q2
        obtain ⟨k', hk, hi'⟩ := q2
        exact goW_wp I step n k' s2 m2 (by omega) hi'
      | ct s2 m2 =>
        rw [e] at q2
        obtain ⟨k', hk, hi'⟩ := q2
        exact goW_wp I step n k' s2 m2 (by omega) hi'
      | bk s2 m2 => rw [e] at q2; exact q2
      | rt d m2 => rw [e] at q2; exact q2
      | exc c' fs s2 m2 => rw [e] at q2; exact q2
      | bad => rw [e] at q2; exact q2
theorem ixRef {m : Mu} {j : Nat} {i : Int} : ixF m (.ref j) (.int i) = (match m[j]? with | some (.lst xs) => atI xs i | _ => none) := by
  simp only [ixF, seqD]
  cases m[j]? with
  | none => rfl
  | some o => cases o <;> rfl
theorem ixLst {m : Mu} {i : Int} {xs : List D} : ixF m (.lst xs) (.int i) = atI xs i := by simp [ixF, seqD]
theorem ixTup {m : Mu} {i : Int} {xs : List D} : ixF m (.tup xs) (.int i) = atI xs i := by simp [ixF, seqD]
theorem at_lit {α : Type} {xs : List α} {n : Nat} : atI xs (no_index (OfNat.ofNat n) : Int) = xs[(OfNat.ofNat n : Nat)]? := by
  show atI xs ((n : Nat) : Int) = xs[n]?
  unfold atI ixN
  rw [if_pos (by omega)]
  by_cases h : n < xs.length
  · rw [if_pos (by omega)]; simp
  · rw [if_neg (by omega), List.getElem?_eq_none (by omega)]; rfl
theorem at_nat {α : Type} {xs : List α} {n : Nat} : atI xs (n : Int) = xs[n]? := by
  unfold atI ixN
  rw [if_pos (by omega)]
  by_cases h : n < xs.length
  · rw [if_pos (by omega)]; simp
  · rw [if_neg (by omega), List.getElem?_eq_none (by omega)]; rfl
theorem at_pos {α : Type} {xs : List α} {i : Int} (h : 0 ≤ i) : atI xs i = xs[i.toNat]? := by
  have := at_nat (xs := xs) (n := i.toNat)
  rwa [Int.toNat_of_nonneg h] at this
theorem cmp_lt {m : Mu} {a b : Int} : cmpF m .Lt (.int a) (.int b) = some (decide (a < b)) := rfl
theorem cmp_le {m : Mu} {a b : Int} : cmpF m .LtE (.int a) (.int b) = some (decide (a ≤ b)) := rfl
theorem cmp_gt {m : Mu} {a b : Int} : cmpF m .Gt (.int a) (.int b) = some (decide (b < a)) := rfl
theorem cmp_ge {m : Mu} {a b : Int} : cmpF m .GtE (.int a) (.int b) = some (decide (b ≤ a)) := rfl
theorem eqF_int (m : Mu) (a b : Int) : eqF m (.int a) (.int b) = some (decide (a = b)) := by
  simp [eqF, eqG, pyM, pyD, SeqAt.shaped, PyData.canLay0, PyData.depth, PyData.eqv]
  rfl
theorem cmp_eq {m : Mu} {a b : Int} : cmpF m .Eq (.int a) (.int b) = some (decide (a = b)) := eqF_int m a b
theorem cmp_ne {m : Mu} {a b : Int} : cmpF m .NotEq (.int a) (.int b) = some (!decide (a = b)) := by simp [cmpF, eqF_int]
theorem cmp_eqS {m : Mu} {a b : Str} : cmpF m .Eq (.str a) (.str b) = some (decide (a = b)) := rfl
theorem cmp_neS {m : Mu} {a b : Str} : cmpF m .NotEq (.str a) (.str b) = some (!decide (a = b)) := rfl
theorem cmp_isB {m : Mu} {a b : Bool} : cmpF m .Is (.bl a) (.bl b) = some (a == b) := rfl
theorem cmp_isnB {m : Mu} {a b : Bool} : cmpF m .IsNot (.bl a) (.bl b) = some (!(a == b)) := rfl
theorem bin_add {m : Mu} {a b : Int} : binF m .Add (.int a) (.int b) = some (.int (a + b)) := rfl
theorem bin_sub {m : Mu} {a b : Int} : binF m .Sub (.int a) (.int b) = some (.int (a - b)) := rfl
theorem bin_mod {m : Mu} {a b : Int} (h : 0 < b) : binF m .Mod (.int a) (.int b) = some (.int (a % b)) := by simp [binF, modF, h]
theorem bin_div {m : Mu} {a b : Int} (h : 0 < b) (h2 : b < 1073741824) : binF m .FloorDiv (.int a) (.int b) = some (.int (a / b)) := by simp [binF, fdivF, h, h2]
theorem bin_mulR {m : Mu} {a b : Int} (h : -(2 ^ 64) < b) (h2 : b < 2 ^ 64) : binF m .Mult (.int a) (.int b) = some (.int (a * b)) := by
  have q : mulOk a b = true := by
    simp only [mulOk, Bool.or_eq_true, Bool.and_eq_true, decide_eq_true_eq]
    omega
  simp only [binF, mulF]
  rw [if_pos q]
theorem bin_mulL {m : Mu} {a b : Int} (h : -(2 ^ 64) < a) (h2 : a < 2 ^ 64) : binF m .Mult (.int a) (.int b) = some (.int (a * b)) := by
  have q : mulOk a b = true := by
    simp only [mulOk, Bool.or_eq_true, Bool.and_eq_true, decide_eq_true_eq]
    omega
  simp only [binF, mulF]
  rw [if_pos q]
theorem pow18 {m : Mu} : binF m .Pow (.int 10) (.int 18) = some (.int 1000000000000000000) := by simp [binF, powF]
theorem lenLst {m : Mu} {xs : List D} : biF m .len [.lst xs] = some (.int xs.length) := rfl
theorem lenTup {m : Mu} {xs : List D} : biF m .len [.tup xs] = some (.int xs.length) := rfl
theorem lenRef {m : Mu} {j : Nat} : biF m .len [.ref j] = (match m[j]? with | some (.lst xs) => some (.int xs.length) | _ => none) := by
  simp only [biF, lenF, seqD]
  cases m[j]? with
  | none => rfl
  | some o => cases o <;> rfl
theorem setRef {m : Mu} {j : Nat} {i : Int} {v : D} : setSub m (.ref j) (.int i) v = (match m[j]? with | some (.lst xs) => (ixN xs.length i).map fun k => m.set j (.lst (xs.set k v)) | _ => none) := rfl
theorem appT {m : Mu} {j : Nat} : mtT m .append (.ref j) = (match m[j]? with | some (.lst _) => some () | _ => none) := rfl
theorem appRef {m : Mu} {j : Nat} {x : D} : mtF m .append (.ref j) [x] = (match m[j]? with | some (.lst xs) => if xs.length < sizeLine then some (.non, m.set j (.lst (xs ++ [x]))) else none | _ => none) := rfl
end Ev
namespace Ev
open PySem L2
section
variable {C : Cl} {s : Sl} {m : Mu} {Ex : Xp} {Q : D → Mu → Prop}
theorem w_new {x : Str} {c f : Nat} {es : Es} : (evE C (.new x c f es) false s m).wpx Ex Q ↔ (evEs C es s m).wpx Ex fun ds m => (C f (.ref m.length :: ds) (m ++ [.ins c []])).wpx Ex fun r m' => isNon r = true ∧ Q (.ref m.length) m' := by
  simp only [evE, tst_f, wp_bind, newF]
  constructor
  · intro h
    refine wx_mono h fun ds m h => wx_mono h fun r m' h => ?_
    split at h
    · rename_i e; exact ⟨e, h⟩
    · exact h.elim
  · intro h
    refine wx_mono h fun ds m h => wx_mono h fun r m' h => ?_
    rw [if_pos h.1]
    exact h.2
theorem w_fld {a : E} {f : Str} {cs : List Nat} : (evE C (.fld a f cs) false s m).wpx Ex Q ↔ (evE C a false s m).wpx Ex fun x m => ∃ z, fldF m cs f x = some z ∧ Q z m := by simp [evE]
theorem w_fldT {a : E} {f : Str} {cs : List Nat} : (evE C (.fld a f cs) true s m).wpx Ex Q ↔ (evE C a false s m).wpx Ex fun x m => ∃ z, fldF m cs f x = some z ∧ ∃ k, truthD m z = some k ∧ Q (.bl k) m := by simp [evE]
theorem w_meth {a : E} {x : Str} {tb : List (Nat × Nat)} {es : Es} : (evE C (.meth a x tb es) false s m).wpx Ex Q ↔ (evE C a false s m).wpx Ex fun y m => ∃ f, methF m tb x y = some f ∧ (evEs C es s m).wpx Ex fun ds m => (C f (y :: ds) m).wpx Ex Q := by simp [evE]
theorem w_methT {a : E} {x : Str} {tb : List (Nat × Nat)} {es : Es} : (evE C (.meth a x tb es) true s m).wpx Ex Q ↔ (evE C a false s m).wpx Ex fun y m => ∃ f, methF m tb x y = some f ∧ (evEs C es s m).wpx Ex fun ds m => (C f (y :: ds) m).wpx Ex fun d m => ∃ k, truthD m d = some k ∧ Q (.bl k) m := by simp [evE]
theorem w_enumS {e : E} {Q : List D → Mu → Prop} : (evI C (.enumS e) s m).wpx Ex Q ↔ (evE C e false s m).wpx Ex fun x m => ∃ z, strD x = some z ∧ Q (enumD 0 (strItems z)) m := by simp [evI]
theorem w_orV {a b : E} : (evE C (.orV a b) false s m).wpx Ex Q ↔ (evE C a false s m).wpx Ex fun x m => ∃ k, truthD m x = some k ∧ (k = true → Q x m) ∧ (k = false → (evE C b false s m).wpx Ex Q) := by
  simp only [evE, tst_f, wp_bind, wp_opt]
  constructor
  · intro h
    refine wx_mono h fun x m h => ?_
    obtain ⟨k, e, h⟩ := h
    refine ⟨k, e, ?_⟩
    cases k <;> simpa using h
  · intro h
    refine wx_mono h fun x m h => ?_
    obtain ⟨k, e, h1, h2⟩ := h
    refine ⟨k, e, ?_⟩
    cases k with
    | true => exact h1 rfl
    | false => exact h2 rfl
theorem w_callZ {x : Str} {f : Nat} {es : Es} : (evE C (.callZ x f es) false s m).wpx Ex Q ↔ (evEs C es s m).wpx Ex fun ds m => (zapF C f ds m).wpx Ex Q := by simp [evE]
theorem w_callZT {x : Str} {f : Nat} {es : Es} : (evE C (.callZ x f es) true s m).wpx Ex Q ↔ (evEs C es s m).wpx Ex fun ds m => (zapF C f ds m).wpx Ex fun d m => ∃ k, truthD m d = some k ∧ Q (.bl k) m := by simp [evE]
theorem w_callD {x : Str} {f : Nat} {es : Es} : (evE C (.callD x f es) false s m).wpx Ex Q ↔ (evEs C es s m).wpx Ex fun ds m => (zapTF C f ds m).wpx Ex Q := by simp [evE]
theorem w_callDT {x : Str} {f : Nat} {es : Es} : (evE C (.callD x f es) true s m).wpx Ex Q ↔ (evEs C es s m).wpx Ex fun ds m => (zapTF C f ds m).wpx Ex fun d m => ∃ k, truthD m d = some k ∧ Q (.bl k) m := by simp [evE]
theorem w_slL {a lo hi : E} : (evE C (.slL a lo hi) false s m).wpx Ex Q ↔ (evE C a false s m).wpx Ex fun x m => (evE C lo false s m).wpx Ex fun l m => ∃ l', partD (isAbs lo) l = some l' ∧ (evE C hi false s m).wpx Ex fun h m => ∃ h', partD (isAbs hi) h = some h' ∧ (slLF m x l' h').wpx Ex Q := by simp [evE]
theorem w_binL {op : Operator} {a b : E} : (evE C (.binL op a b) false s m).wpx Ex Q ↔ (evE C a false s m).wpx Ex fun x m => (evE C b false s m).wpx Ex fun y m => ∃ zs, binLF m op x y = some zs ∧ Q (.ref m.length) (m ++ [.lst zs]) := by simp [evE]
end
section
variable {C : Cl} {s : Sl} {m : Mu} {Q : Q4}
theorem v_unpL {is : List Nat} {e : E} : (evS C (.unpL is e) s m).wp Q ↔ (evE C e false s m).wpx (fun c fs m => Q.x c fs s m) fun d m => ∃ s', setL is d s = some s' ∧ Q.n s' m := by
  simp only [evS, swp_toS]
  constructor
  · intro h
    refine wx_mono h fun d m h => ?_
    cases e : setL is d s with
    | none => simp [e] at h
    | some s' => exact ⟨s', rfl, by simpa [e] using h⟩
  · intro h
    refine wx_mono h fun d m h => ?_
    obtain ⟨s', e, h⟩ := h
    simpa [e] using h
theorem v_unpS {is : List Nat} {e : E} : (evS C (.unpS is e) s m).wp Q ↔ (evE C e false s m).wpx (fun c fs m => Q.x c fs s m) fun d m => ∃ s', setS is d s = some s' ∧ Q.n s' m := by
  simp only [evS, swp_toS]
  constructor
  · intro h
    refine wx_mono h fun d m h => ?_
    cases e : setS is d s with
    | none => simp [e] at h
    | some s' => exact ⟨s', rfl, by simpa [e] using h⟩
  · intro h
    refine wx_mono h fun d m h => ?_
    obtain ⟨s', e, h⟩ := h
    simpa [e] using h
theorem v_sls {a lo hi e : E} : (evS C (.sls a lo hi e) s m).wp Q ↔ (evE C e false s m).wpx (fun c fs m => Q.x c fs s m) fun d m => (evE C a false s m).wpx (fun c fs m => Q.x c fs s m) fun x m => (evE C lo false s m).wpx (fun c fs m => Q.x c fs s m) fun l m => ∃ i, intD l = some i ∧
    (evE C hi false s m).wpx (fun c fs m => Q.x c fs s m) fun h m => ∃ j, intD h = some j ∧ ∃ m', slsF m i j x d = some m' ∧ Q.n s m' := by
  simp only [evS, swp_toS, wp_bind, wp_opt]
  constructor
  · intro h
    refine wx_mono h fun d m h => wx_mono h fun x m h => wx_mono h fun l m h => ?_
    obtain ⟨i, e1, h⟩ := h
    refine ⟨i, e1, wx_mono h fun y m h => ?_⟩
    obtain ⟨j, e2, h⟩ := h
    refine ⟨j, e2, ?_⟩
    cases e : slsF m i j x d with
    | none => simp [e] at h
    | some m' => exact ⟨m', rfl, by simpa [e] using h⟩
  · intro h
    refine wx_mono h fun d m h => wx_mono h fun x m h => wx_mono h fun l m h => ?_
    obtain ⟨i, e1, h⟩ := h
    refine ⟨i, e1, wx_mono h fun y m h => ?_⟩
    obtain ⟨j, e2, m', e, h⟩ := h
    exact ⟨j, e2, by simpa [e] using h⟩
theorem v_foR {en : Bool} {tg : Tg} {e : E} {b : Ss} : (evS C (.foR en tg e b) s m).wp Q ↔ (evE C e false s m).wpx (fun c fs m => Q.x c fs s m) fun d m => ∃ i, d = .ref i ∧ (goR en (foB C tg b) i wFuel 0 s m).wp Q := by
  simp only [evS, swp_toS]
  constructor
  · intro h
    refine wx_mono h fun d m h => ?_
    cases d with
    | ref i => exact ⟨i, rfl, h⟩
    | _ => exact h.elim
  · intro h
    refine wx_mono h fun d m h => ?_
    obtain ⟨i, rfl, h⟩ := h
    exact h
theorem v_setA {a e : E} {f : Str} {cs : List Nat} : (evS C (.setA a f cs e) s m).wp Q ↔ (evE C e false s m).wpx (fun c fs m => Q.x c fs s m) fun d m => (evE C a false s m).wpx (fun c fs m => Q.x c fs s m) fun x m => ∃ m', setFld m cs f d x = some m' ∧ Q.n s m' := by
  simp only [evS, swp_toS]
  constructor
  · intro h
    refine wx_mono h fun d m h => wx_mono h fun x m h => ?_
    cases e : setFld m cs f d x with
    | none => simp [e] at h
    | some m' => exact ⟨m', rfl, by simpa [e] using h⟩
  · intro h
    refine wx_mono h fun d m h => wx_mono h fun x m h => ?_
    obtain ⟨m', e, h⟩ := h
    simpa [e] using h
theorem v_augA {a e : E} {f : Str} {cs : List Nat} {op : Operator} : (evS C (.augA a f cs op e) s m).wp Q ↔ (evE C a false s m).wpx (fun c fs m => Q.x c fs s m) fun x m => ∃ v, fldF m cs f x = some v ∧ (evE C e false s m).wpx (fun c fs m => Q.x c fs s m) fun y m1 => ∃ z, augF op v y = some z ∧ ∃ m', setFld m1 (insC m x) f z x = some m' ∧ Q.n s m' := by
  simp only [evS, swp_toS]
  constructor
  · intro h
    refine wx_mono h fun x m h => ?_
    cases e1 : fldF m cs f x with
    | none => simp [e1] at h
    | some v =>
      simp only [e1, swp_toS] at h
      refine ⟨v, rfl, wx_mono h fun y m1 h => ?_⟩
      cases e2 : augF op v y with
      | none => simp [e2] at h
      | some z =>
        refine ⟨z, rfl, ?_⟩
        cases e3 : setFld m1 (insC m x) f z x with
        | none => simp [e2, e3] at h
        | some m' => exact ⟨m', rfl, by simpa [e2, e3] using h⟩
  · intro h
    refine wx_mono h fun x m h => ?_
    obtain ⟨v, e1, h⟩ := h
    simp only [e1, swp_toS]
    refine wx_mono h fun y m1 h => ?_
    obtain ⟨z, e2, m', e3, h⟩ := h
    simpa [e2, e3] using h
end
end Ev
namespace Ev
open PySem L2
structure SmP (w k : Nat) (p : PyData) : Prop where
  can : p.canLay0 = true
  sho : p.showable = true
  ish : p.intsShort 60 = true
  dep : p.depth ≤ k
  wei : p.weight ≤ w
def Sm (w k : Nat) (d : D) : Prop := ∃ p, (∀ m, pyD m d = some p) ∧ SmP w k p
def SmAll (w k : Nat) (ds : List D) : Prop := ∃ ps, (∀ m, pyDs m ds = some ps) ∧ PyData.canLayAll0 ps = true ∧ PyData.showableAll ps = true ∧ PyData.intsShortAll 60 ps = true ∧ PyData.depthAll ps ≤ k ∧ PyData.weightAll ps ≤ w
theorem Sm.mono {w w' k k' : Nat} {d : D} (h : Sm w k d) (h1 : w ≤ w') (h2 : k ≤ k') : Sm w' k' d := by
  obtain ⟨p, e, a, b, c, d, f⟩ := h
  exact ⟨p, e, a, b, c, Nat.le_trans d h2, Nat.le_trans f h1⟩
theorem SmAll.mono {w w' k k' : Nat} {d : List D} (h : SmAll w k d) (h1 : w ≤ w') (h2 : k ≤ k') : SmAll w' k' d := by
  obtain ⟨p, e, a, b, c, d, f⟩ := h
  exact ⟨p, e, a, b, c, Nat.le_trans d h2, Nat.le_trans f h1⟩
theorem Sm.non : Sm 0 0 .non := ⟨.none, fun _ => rfl, rfl, rfl, rfl, Nat.le_refl _, Nat.le_refl _⟩
theorem Sm.bl (b : Bool) : Sm 0 0 (.bl b) := ⟨.bool b, fun _ => rfl, rfl, rfl, rfl, Nat.le_refl _, Nat.le_refl _⟩
theorem Sm.int {i : Int} (h1 : -1000 ≤ i) (h2 : i ≤ 1000) : Sm 11 0 (.int i) := by
  have hn : i.natAbs ≤ 1000 := by omega
  have hl : i.natAbs.log2 < 10 := by
    by_cases h0 : i.natAbs = 0
    · rw [h0]; decide
    · exact (Nat.log2_lt h0).mpr (by omega)
  refine ⟨.int i, fun _ => by simp [pyD], rfl, ?_, ?_, by simp [PyData.depth], ?_⟩
  · simp only [PyData.showable, decide_eq_true_eq]; omega
  · simp only [PyData.intsShort, decide_eq_true_eq]
    exact Nat.le_trans (PyData.shown_int_le2 (by omega) (by omega)) (by decide)
  · simp only [PyData.weight]
    split <;> omega
theorem Sm.str {x : Str} (h : PyData.strOk x = true) : Sm x.length 0 (.str x) := ⟨.str x, fun _ => by simp [pyD], by simpa [PyData.canLay0] using h, rfl, rfl, by simp [PyData.depth], by simp [PyData.weight, Str.length]⟩
theorem SmAll.nil {k : Nat} : SmAll 0 k [] := ⟨[], fun _ => rfl, rfl, rfl, rfl, Nat.zero_le _, Nat.le_refl _⟩
theorem SmAll.cons {w W k : Nat} {d : D} {ds : List D} (h : Sm w k d) (r : SmAll W k ds) : SmAll (w + 1 + W) k (d :: ds) := by
  obtain ⟨p, e, a1, a2, a3, a4, a5⟩ := h
  obtain ⟨ps, es, b1, b2, b3, b4, b5⟩ := r
  refine ⟨p :: ps, fun m => by simp [pyDs, e m, es m], by simp [PyData.canLayAll0, a1, b1], by simp [PyData.showableAll, a2, b2], by simp [PyData.intsShortAll, a3, b3], ?_, ?_⟩
  · simp only [PyData.depthAll]; omega
  · simp only [PyData.weightAll]; omega
theorem SmAll.append {w W k : Nat} : ∀ {as bs : List D}, SmAll w k as → SmAll W k bs → SmAll (w + W) k (as ++ bs)
  | [], bs, h, r => by
    exact r.mono (by omega) (Nat.le_refl _)
  | a :: as, bs, h, r => by
    obtain ⟨ps, e, b1, b2, b3, b4, b5⟩ := h
    have e0 := e []
    simp only [pyDs] at e0
    cases ha : pyD [] a with
    | none => simp [ha] at e0
    | some p =>
      cases hr : pyDs [] as with
      | none => simp [ha, hr] at e0
      | some qs =>
        simp [ha, hr] at e0
        subst e0
        simp only [PyData.canLayAll0, Bool.and_eq_true] at b1
        simp only [PyData.showableAll, Bool.and_eq_true] at b2
        simp only [PyData.intsShortAll, Bool.and_eq_true] at b3
        simp only [PyData.depthAll] at b4
        simp only [PyData.weightAll] at b5
        have each : ∀ m, pyD m a = some p ∧ pyDs m as = some qs := fun m => by
          have q := e m
          simp only [pyDs] at q
          cases h1 : pyD m a with
          | none => simp [h1] at q
          | some p' =>
            cases h2 : pyDs m as with
            | none => simp [h1, h2] at q
            | some qs' =>
              simp [h1, h2] at q
              exact ⟨by rw [q.1], by rw [q.2]⟩
        have ha' : Sm p.weight k a := ⟨p, fun m => (each m).1, b1.1, b2.1, b3.1, by omega, Nat.le_refl _⟩
        have hr' : SmAll (PyData.weightAll qs) k as := ⟨qs, fun m => (each m).2, b1.2, b2.2, b3.2, by omega, Nat.le_refl _⟩
        exact (SmAll.cons ha' (hr'.append r)).mono (by omega) (Nat.le_refl _)
theorem SmAll.of {w k : Nat} : ∀ {ds : List D}, (∀ d ∈ ds, Sm w k d) → SmAll (ds.length * (w + 1)) k ds
  | [], _ => SmAll.nil.mono (by omega) (Nat.le_refl _)
  | d :: r, h => by
    refine (SmAll.cons (h d List.mem_cons_self) (SmAll.of fun x hx => h x (List.mem_cons_of_mem _ hx))).mono ?_ (Nat.le_refl _)
    rw [List.length_cons, Nat.succ_mul]; omega
theorem SmAll.mem {w k : Nat} : ∀ {ds : List D} {d : D}, SmAll w k ds → d ∈ ds → Sm w k d
  | a :: as, d, h, hd => by
    obtain ⟨ps, e, b1, b2, b3, b4, b5⟩ := h
    have e0 := e []
    simp only [pyDs] at e0
    cases ha : pyD [] a with
    | none => simp [ha] at e0
    | some p =>
      cases hr : pyDs [] as with
      | none => simp [ha, hr] at e0
      | some qs =>
        simp [ha, hr] at e0
        subst e0
        simp only [PyData.canLayAll0, Bool.and_eq_true] at b1
        simp only [PyData.showableAll, Bool.and_eq_true] at b2
        simp only [PyData.intsShortAll, Bool.and_eq_true] at b3
        simp only [PyData.depthAll] at b4
        simp only [PyData.weightAll] at b5
        have each : ∀ m, pyD m a = some p ∧ pyDs m as = some qs := fun m => by
          have q := e m
          simp only [pyDs] at q
          cases h1 : pyD m a with
          | none => simp [h1] at q
          | some p' =>
            cases h2 : pyDs m as with
            | none => simp [h1, h2] at q
            | some qs' =>
              simp [h1, h2] at q
              exact ⟨by rw [q.1], by rw [q.2]⟩
        rcases List.mem_cons.mp hd with rfl | hd
        · exact ⟨p, fun m => (each m).1, b1.1, b2.1, b3.1, by omega, by omega⟩
        · exact SmAll.mem ⟨qs, fun m => (each m).2, b1.2, b2.2, b3.2, by omega, by omega⟩ hd
theorem Sm.tup {w k : Nat} {ds : List D} (h : SmAll w k ds) : Sm w (k + 1) (.tup ds) := by
  obtain ⟨ps, e, b1, b2, b3, b4, b5⟩ := h
  exact ⟨.tuple ps, fun m => by simp [pyD, e m], by simpa [PyData.canLay0] using b1, by simpa [PyData.showable] using b2, by simpa [PyData.intsShort] using b3, by simp only [PyData.depth]; omega, by simpa [PyData.weight] using b5⟩
theorem Sm.lst {w k : Nat} {ds : List D} (h : SmAll w k ds) : Sm w (k + 1) (.lst ds) := by
  obtain ⟨ps, e, b1, b2, b3, b4, b5⟩ := h
  exact ⟨.list ps, fun m => by simp [pyD, e m], by simpa [PyData.canLay0] using b1, by simpa [PyData.showable] using b2, by simpa [PyData.intsShort] using b3, by simp only [PyData.depth]; omega, by simpa [PyData.weight] using b5⟩
theorem Sm.items {w k : Nat} {ds : List D} (h : Sm w k (.tup ds)) : SmAll w k ds := by
  obtain ⟨p, e, a1, a2, a3, a4, a5⟩ := h
  have e0 := e []
  simp only [pyD, Option.map_eq_some_iff] at e0
  obtain ⟨ps, h1, rfl⟩ := e0
  refine ⟨ps, fun m => ?_, by simpa [PyData.canLay0] using a1, by simpa [PyData.showable] using a2, by simpa [PyData.intsShort] using a3, ?_, by simpa [PyData.weight] using a5⟩
  · have q := e m
    simp only [pyD, Option.map_eq_some_iff] at q
    obtain ⟨qs, h2, h3⟩ := q
    cases h3
    exact h2
  · simp only [PyData.depth] at a4
    omega
theorem Sm.notref {w k : Nat} {d : D} (h : Sm w k d) (m : Mu) : pyM m d = pyD m d := by
  obtain ⟨p, e, _⟩ := h
  cases d <;> first | rfl | (have := e []; simp [pyD] at this)
theorem Sm.repr {w k : Nat} {d : D} (h : Sm w k d) (hw : w ≤ 260000) (hk : k ≤ 60) : ∃ z, ∀ m, biF m .repr [d] = some (.str z) := by
  have h0 := h
  obtain ⟨p, e, a1, a2, a3, a4, a5⟩ := h
  have q := PyData.shown_le 60 (by decide) p (PyData.leavesShort_of_canLay0 60 p a1 a3)
  have hz : p.shown.length ≤ sizeLine := by
    have : sizeLine = 16777216 := by decide
    have h2 : (60 + 2) * p.weight ≤ 62 * 260000 := Nat.mul_le_mul (by decide) (by omega)
    omega
  have hp : plainP p = true := by
    unfold plainP
    split
    · rfl
    · rw [a1, Bool.true_or]
  refine ⟨p.shown, fun m => ?_⟩
  show reprF m d = _
  unfold reprF
  rw [h0.notref m, e m]
  have : (plainP p && p.showable && decide (p.depth ≤ 60) && decide (p.shown.length ≤ sizeLine)) = true := by
    rw [hp, a2, decide_eq_true hz, decide_eq_true (Nat.le_trans a4 hk)]; rfl
  simp only
  rw [if_pos this]
theorem Sm.dct : ∃ z, ∀ m, biF m .repr [.dct] = some (.str z) := by
  refine ⟨(PyData.dict []).shown, fun m => ?_⟩
  show reprF m .dct = _
  unfold reprF
  simp only [pyM, pyD]
  rw [if_pos (by decide +kernel)]
end Ev
namespace Ev
open PySem L2
def ww := And.intro @w_srtl (And.intro @w_lam (And.intro @w_cst (And.intro @w_cstT (And.intro @w_glob (And.intro @w_var (And.intro @w_varT (And.intro @w_tup (And.intro @w_lst (And.intro @w_lstL (And.intro @w_dct (And.intro @w_dctL (And.intro @w_dget (And.intro @w_din (And.intro @w_dinT (And.intro @w_dg1 (And.intro @w_dls (And.intro @w_dof (And.intro @w_lrg2 (And.intro @w_trg (And.intro @w_srtk (And.intro @w_dig (And.intro @w_dii (And.intro @w_diiT (And.intro @w_disi (And.intro @w_tts (And.intro @w_ttv (And.intro @w_rpl (And.intro @w_dsrt (And.intro @w_dc (And.intro @w_bin (And.intro @w_neg (And.intro @w_not (And.intro @w_cmp (And.intro @w_cmpT (And.intro @w_chain (And.intro @w_and (And.intro @w_or (And.intro @w_and1 (And.intro @w_or1 (And.intro @w_and2 (And.intro @w_or2 (And.intro @w_ite (And.intro @w_ix (And.intro @w_ixT (And.intro @w_sl (And.intro @w_slL (And.intro @w_abs (And.intro @w_rev (And.intro @w_lrg (And.intro @w_call (And.intro @w_callT (And.intro @w_bi (And.intro @w_biT (And.intro @w_mt (And.intro @w_isi (And.intro @w_isiT (And.intro @w_lc (And.intro @w_lcL (And.intro @w_lc2 (And.intro @w_nil (And.intro @w_cons (And.intro @w_of (And.intro @w_rng1 (And.intro @w_rng2 (And.intro @w_rng3 (And.intro @w_enum (And.intro @w_zip (And.intro @w_zipS (And.intro @w_zipM (And.intro @w_bad (And.intro @w_eis (And.intro @w_efl (And.intro @w_callV (And.intro @w_new (And.intro @w_fld (And.intro @w_fldT (And.intro @w_meth (And.intro @w_methT (And.intro @w_binL (And.intro @w_orV (And.intro @w_callZ (And.intro @w_callZT (And.intro @w_callD (And.intro @w_callDT (And.intro @v_unpS (And.intro @v_sls (And.intro @v_foR (And.intro @w_enumS (And.intro @v_unpL (And.intro @v_par (And.intro @v_setA (And.intro @v_augA (And.intro @v_nil (And.intro @v_cons (And.intro @v_ex (And.intro @v_set (And.intro @v_unp (And.intro @v_sub (And.intro @v_dput (And.intro @v_aug (And.intro @v_ite (And.intro @v_fo (And.intro @v_wh (And.intro @v_ret (And.intro @v_retN (And.intro @v_pass (And.intro @v_brk (And.intro @v_cont (And.intro @v_bad (And.intro @v_rz (And.intro @v_tr (And.intro @h_nil (@h_cons)))))))))))))))))))))))))))))))))))))))))))))))))))))))))))))))))))))))))))))))))))))))))))))))))))))))))))))))))
def oo := And.intro @ixLst (And.intro @ixTup (And.intro @ixRef (And.intro @cmp_lt (And.intro @cmp_le (And.intro @cmp_gt (And.intro @cmp_ge (And.intro @cmp_eq (And.intro @cmp_ne (And.intro @cmp_isB (And.intro @cmp_isnB (And.intro @cmp_eqS (And.intro @cmp_neS (And.intro @bin_add (And.intro @bin_sub (And.intro @bin_mod (And.intro @bin_div (And.intro @bin_mulR (And.intro @bin_mulL (And.intro @pow18 (And.intro @lenLst (And.intro @lenTup (And.intro @lenRef (And.intro @setRef (And.intro @appT (And.intro @appRef (@at_lit))))))))))))))))))))))))))
end Ev
namespace K68
open PySem Ev L2
def N0 : List Str := ["tie"]
def ps0 : List Str := ["tie"]
def N1 : List Str := ["left", "item", "right"]
def ps1 : List Str := ["left", "item", "right"]
def N2 : List Str := ["one", "other"]
def ps2 : List Str := ["one", "other"]
def N3 : List Str := ["left", "right"]
def ps3 : List Str := ["left", "right"]
def N4 : List Str := ["items", "middle"]
def ps4 : List Str := ["items"]
def N5 : List Str := ["left", "item", "right", "inner", "other", "outer", "count", "begin", "middle", "end", "many"]
def ps5 : List Str := ["left", "item", "right"]
def N6 : List Str := ["left", "item", "right", "outer", "other", "inner", "count", "begin", "middle", "end", "many"]
def ps6 : List Str := ["left", "item", "right"]
def N7 : List Str := ["left", "item", "right"]
def ps7 : List Str := ["left", "item", "right"]
def N8 : List Str := ["left", "item", "right", "outer", "other", "inner", "count"]
def ps8 : List Str := ["left", "item", "right"]
def N9 : List Str := ["tie", "at", "new", "left", "item", "right", "count"]
def ps9 : List Str := ["tie", "at", "new"]
def N10 : List Str := ["tie", "left", "item", "right", "count", "first", "others"]
def ps10 : List Str := ["tie"]
def N11 : List Str := ["one", "other", "first", "others"]
def ps11 : List Str := ["one", "other"]
def N12 : List Str := ["tie", "at", "left", "item", "right", "count", "first", "others"]
def ps12 : List Str := ["tie", "at"]
def N13 : List Str := ["tie", "at", "left", "item", "right", "count", "begin", "end"]
def ps13 : List Str := ["tie", "at"]
def N14 : List Str := ["thing"]
def ps14 : List Str := ["thing"]
def N15 : List Str := ["thing", "one"]
def ps15 : List Str := ["thing"]
def N16 : List Str := ["thing"]
def ps16 : List Str := ["thing"]
def N17 : List Str := ["thing", "count", "counts", "left", "item", "right", "told"]
def ps17 : List Str := ["thing", "count"]
def N18 : List Str := ["thing"]
def ps18 : List Str := ["thing"]
def N19 : List Str := ["thing"]
def ps19 : List Str := ["thing"]
def N20 : List Str := ["tie", "at", "most"]
def ps20 : List Str := ["tie", "at", "most"]
def N21 : List Str := ["items", "item"]
def ps21 : List Str := ["items"]
def N22 : List Str := ["tie", "at", "item"]
def ps22 : List Str := ["tie", "at", "item"]
def N23 : List Str := ["tie", "at"]
def ps23 : List Str := ["tie", "at"]
def N24 : List Str := ["tie", "at"]
def ps24 : List Str := ["tie", "at"]
def N25 : List Str := ["one", "other"]
def ps25 : List Str := ["one", "other"]
def N26 : List Str := ["many", "found", "left"]
def ps26 : List Str := ["many"]
def N27 : List Str := ["tie", "numbers", "spot", "left", "item", "right", "count"]
def ps27 : List Str := ["tie", "numbers"]
def N28 : List Str := ["tie", "some", "one", "numbers", "elder"]
def ps28 : List Str := ["tie", "some"]
def N29 : List Str := ["_law_state", "_law_below", "_law_cell", "_law_found"]
def ps29 : List Str := ["_law_state", "_law_below"]
def N30 : List Str := ["_law_tie"]
def ps30 : List Str := ["_law_tie"]
def N31 : List Str := ["_law_left", "_law_item", "_law_right"]
def ps31 : List Str := ["_law_left", "_law_item", "_law_right"]
def N32 : List Str := ["_law_state", "_law_items", "_law_many", "_law_least", "_law_middle"]
def ps32 : List Str := ["_law_state", "_law_items"]
def N33 : List Str := ["_law_tie", "_law_numbers", "_law_spot"]
def ps33 : List Str := ["_law_tie", "_law_numbers"]
def N34 : List Str := ["_law_tie"]
def ps34 : List Str := ["_law_tie"]
def N35 : List Str := ["_law_tie", "_law_some", "_law_numbers", "_law_one", "_law_elder"]
def ps35 : List Str := ["_law_tie", "_law_some"]
def N36 : List Str := ["_law_made_here", "_law_some", "_law_count_here", "_law_tie", "_law_new_here", "_law_most", "_law_one"]
def ps36 : List Str := ["_law_made_here", "_law_some"]
def N37 : List Str := ["_law_script", "_law_state", "_law_many", "_law_tie", "_law_turn", "_law_road", "_law_count_here", "_law_at", "_law_both", "_law_made_here"]
def ps37 : List Str := ["_law_script"]
theorem ck0 : chkSs G f0.body ⟨N0, defScope s0, fun _ => true, false, true, true, false⟩ (defBody s0) = true := by decide +kernel
theorem sc0 : FnScope N0 ps0 (defScope s0) := ⟨rfl, rfl, rfl, by decide +kernel, rfl, by decide +kernel, by decide +kernel⟩
theorem ck1 : chkSs G f1.body ⟨N1, defScope s1, fun _ => true, false, true, true, false⟩ (defBody s1) = true := by decide +kernel
theorem sc1 : FnScope N1 ps1 (defScope s1) := ⟨rfl, rfl, rfl, by decide +kernel, rfl, by decide +kernel, by decide +kernel⟩
theorem ck2 : chkSs G f2.body ⟨N2, defScope s2, fun _ => true, false, true, true, false⟩ (defBody s2) = true := by decide +kernel
theorem sc2 : FnScope N2 ps2 (defScope s2) := ⟨rfl, rfl, rfl, by decide +kernel, rfl, by decide +kernel, by decide +kernel⟩
theorem ck3 : chkSs G f3.body ⟨N3, defScope s3, fun _ => true, false, true, true, false⟩ (defBody s3) = true := by decide +kernel
theorem sc3 : FnScope N3 ps3 (defScope s3) := ⟨rfl, rfl, rfl, by decide +kernel, rfl, by decide +kernel, by decide +kernel⟩
theorem ck4 : chkSs G f4.body ⟨N4, defScope s4, fun _ => true, false, true, true, false⟩ (defBody s4) = true := by decide +kernel
theorem sc4 : FnScope N4 ps4 (defScope s4) := ⟨rfl, rfl, rfl, by decide +kernel, rfl, by decide +kernel, by decide +kernel⟩
theorem ck5 : chkSs G f5.body ⟨N5, defScope s5, fun _ => true, false, true, true, false⟩ (defBody s5) = true := by decide +kernel
theorem sc5 : FnScope N5 ps5 (defScope s5) := ⟨rfl, rfl, rfl, by decide +kernel, rfl, by decide +kernel, by decide +kernel⟩
theorem ck6 : chkSs G f6.body ⟨N6, defScope s6, fun _ => true, false, true, true, false⟩ (defBody s6) = true := by decide +kernel
theorem sc6 : FnScope N6 ps6 (defScope s6) := ⟨rfl, rfl, rfl, by decide +kernel, rfl, by decide +kernel, by decide +kernel⟩
theorem ck7 : chkSs G f7.body ⟨N7, defScope s7, fun _ => true, false, true, true, false⟩ (defBody s7) = true := by decide +kernel
theorem sc7 : FnScope N7 ps7 (defScope s7) := ⟨rfl, rfl, rfl, by decide +kernel, rfl, by decide +kernel, by decide +kernel⟩
theorem ck8 : chkSs G f8.body ⟨N8, defScope s8, fun _ => true, false, true, true, false⟩ (defBody s8) = true := by decide +kernel
theorem sc8 : FnScope N8 ps8 (defScope s8) := ⟨rfl, rfl, rfl, by decide +kernel, rfl, by decide +kernel, by decide +kernel⟩
theorem ck9 : chkSs G f9.body ⟨N9, defScope s9, fun _ => true, false, true, true, false⟩ (defBody s9) = true := by decide +kernel
theorem sc9 : FnScope N9 ps9 (defScope s9) := ⟨rfl, rfl, rfl, by decide +kernel, rfl, by decide +kernel, by decide +kernel⟩
theorem ck10 : chkSs G f10.body ⟨N10, defScope s10, fun _ => true, false, true, true, false⟩ (defBody s10) = true := by decide +kernel
theorem sc10 : FnScope N10 ps10 (defScope s10) := ⟨rfl, rfl, rfl, by decide +kernel, rfl, by decide +kernel, by decide +kernel⟩
theorem ck11 : chkSs G f11.body ⟨N11, defScope s11, fun _ => true, false, true, true, false⟩ (defBody s11) = true := by decide +kernel
theorem sc11 : FnScope N11 ps11 (defScope s11) := ⟨rfl, rfl, rfl, by decide +kernel, rfl, by decide +kernel, by decide +kernel⟩
theorem ck12 : chkSs G f12.body ⟨N12, defScope s12, fun _ => true, false, true, true, false⟩ (defBody s12) = true := by decide +kernel
theorem sc12 : FnScope N12 ps12 (defScope s12) := ⟨rfl, rfl, rfl, by decide +kernel, rfl, by decide +kernel, by decide +kernel⟩
theorem ck13 : chkSs G f13.body ⟨N13, defScope s13, fun _ => true, false, true, true, false⟩ (defBody s13) = true := by decide +kernel
theorem sc13 : FnScope N13 ps13 (defScope s13) := ⟨rfl, rfl, rfl, by decide +kernel, rfl, by decide +kernel, by decide +kernel⟩
theorem ck14 : chkSs G f14.body ⟨N14, defScope s14, fun _ => true, false, true, true, false⟩ (defBody s14) = true := by decide +kernel
theorem sc14 : FnScope N14 ps14 (defScope s14) := ⟨rfl, rfl, rfl, by decide +kernel, rfl, by decide +kernel, by decide +kernel⟩
theorem ck15 : chkSs G f15.body ⟨N15, defScope s15, fun _ => true, false, true, true, false⟩ (defBody s15) = true := by decide +kernel
theorem sc15 : FnScope N15 ps15 (defScope s15) := ⟨rfl, rfl, rfl, by decide +kernel, rfl, by decide +kernel, by decide +kernel⟩
theorem ck16 : chkSs G f16.body ⟨N16, defScope s16, fun _ => true, false, true, true, false⟩ (defBody s16) = true := by decide +kernel
theorem sc16 : FnScope N16 ps16 (defScope s16) := ⟨rfl, rfl, rfl, by decide +kernel, rfl, by decide +kernel, by decide +kernel⟩
theorem ck17 : chkSs G f17.body ⟨N17, defScope s17, fun _ => true, false, true, true, false⟩ (defBody s17) = true := by decide +kernel
theorem sc17 : FnScope N17 ps17 (defScope s17) := ⟨rfl, rfl, rfl, by decide +kernel, rfl, by decide +kernel, by decide +kernel⟩
theorem ck18 : chkSs G f18.body ⟨N18, defScope s18, fun _ => true, false, true, true, false⟩ (defBody s18) = true := by decide +kernel
theorem sc18 : FnScope N18 ps18 (defScope s18) := ⟨rfl, rfl, rfl, by decide +kernel, rfl, by decide +kernel, by decide +kernel⟩
theorem ck19 : chkSs G f19.body ⟨N19, defScope s19, fun _ => true, false, true, true, false⟩ (defBody s19) = true := by decide +kernel
theorem sc19 : FnScope N19 ps19 (defScope s19) := ⟨rfl, rfl, rfl, by decide +kernel, rfl, by decide +kernel, by decide +kernel⟩
theorem ck20 : chkSs G f20.body ⟨N20, defScope s20, fun _ => true, false, true, true, false⟩ (defBody s20) = true := by decide +kernel
theorem sc20 : FnScope N20 ps20 (defScope s20) := ⟨rfl, rfl, rfl, by decide +kernel, rfl, by decide +kernel, by decide +kernel⟩
theorem ck21 : chkSs G f21.body ⟨N21, defScope s21, fun _ => true, false, true, true, false⟩ (defBody s21) = true := by decide +kernel
theorem sc21 : FnScope N21 ps21 (defScope s21) := ⟨rfl, rfl, rfl, by decide +kernel, rfl, by decide +kernel, by decide +kernel⟩
theorem ck22 : chkSs G f22.body ⟨N22, defScope s22, fun _ => true, false, true, true, false⟩ (defBody s22) = true := by decide +kernel
theorem sc22 : FnScope N22 ps22 (defScope s22) := ⟨rfl, rfl, rfl, by decide +kernel, rfl, by decide +kernel, by decide +kernel⟩
theorem ck23 : chkSs G f23.body ⟨N23, defScope s23, fun _ => true, false, true, true, false⟩ (defBody s23) = true := by decide +kernel
theorem sc23 : FnScope N23 ps23 (defScope s23) := ⟨rfl, rfl, rfl, by decide +kernel, rfl, by decide +kernel, by decide +kernel⟩
theorem ck24 : chkSs G f24.body ⟨N24, defScope s24, fun _ => true, false, true, true, false⟩ (defBody s24) = true := by decide +kernel
theorem sc24 : FnScope N24 ps24 (defScope s24) := ⟨rfl, rfl, rfl, by decide +kernel, rfl, by decide +kernel, by decide +kernel⟩
theorem ck25 : chkSs G f25.body ⟨N25, defScope s25, fun _ => true, false, true, true, false⟩ (defBody s25) = true := by decide +kernel
theorem sc25 : FnScope N25 ps25 (defScope s25) := ⟨rfl, rfl, rfl, by decide +kernel, rfl, by decide +kernel, by decide +kernel⟩
theorem ck26 : chkSs G f26.body ⟨N26, defScope s26, fun _ => true, false, true, true, false⟩ (defBody s26) = true := by decide +kernel
theorem sc26 : FnScope N26 ps26 (defScope s26) := ⟨rfl, rfl, rfl, by decide +kernel, rfl, by decide +kernel, by decide +kernel⟩
theorem ck27 : chkSs G f27.body ⟨N27, defScope s27, fun _ => true, false, true, true, false⟩ (defBody s27) = true := by decide +kernel
theorem sc27 : FnScope N27 ps27 (defScope s27) := ⟨rfl, rfl, rfl, by decide +kernel, rfl, by decide +kernel, by decide +kernel⟩
theorem ck28 : chkSs G f28.body ⟨N28, defScope s28, fun _ => true, false, true, true, false⟩ (defBody s28) = true := by decide +kernel
theorem sc28 : FnScope N28 ps28 (defScope s28) := ⟨rfl, rfl, rfl, by decide +kernel, rfl, by decide +kernel, by decide +kernel⟩
theorem ck29 : chkSs G f29.body ⟨N29, defScope s29, fun _ => true, false, true, true, false⟩ (defBody s29) = true := by decide +kernel
theorem sc29 : FnScope N29 ps29 (defScope s29) := ⟨rfl, rfl, rfl, by decide +kernel, rfl, by decide +kernel, by decide +kernel⟩
theorem ck30 : chkSs G f30.body ⟨N30, defScope s30, fun _ => true, false, true, true, false⟩ (defBody s30) = true := by decide +kernel
theorem sc30 : FnScope N30 ps30 (defScope s30) := ⟨rfl, rfl, rfl, by decide +kernel, rfl, by decide +kernel, by decide +kernel⟩
theorem ck31 : chkSs G f31.body ⟨N31, defScope s31, fun _ => true, false, true, true, false⟩ (defBody s31) = true := by decide +kernel
theorem sc31 : FnScope N31 ps31 (defScope s31) := ⟨rfl, rfl, rfl, by decide +kernel, rfl, by decide +kernel, by decide +kernel⟩
theorem ck32 : chkSs G f32.body ⟨N32, defScope s32, fun _ => true, false, true, true, false⟩ (defBody s32) = true := by decide +kernel
theorem sc32 : FnScope N32 ps32 (defScope s32) := ⟨rfl, rfl, rfl, by decide +kernel, rfl, by decide +kernel, by decide +kernel⟩
theorem ck33 : chkSs G f33.body ⟨N33, defScope s33, fun _ => true, false, true, true, false⟩ (defBody s33) = true := by decide +kernel
theorem sc33 : FnScope N33 ps33 (defScope s33) := ⟨rfl, rfl, rfl, by decide +kernel, rfl, by decide +kernel, by decide +kernel⟩
theorem ck34 : chkSs G f34.body ⟨N34, defScope s34, fun _ => true, false, true, true, false⟩ (defBody s34) = true := by decide +kernel
theorem sc34 : FnScope N34 ps34 (defScope s34) := ⟨rfl, rfl, rfl, by decide +kernel, rfl, by decide +kernel, by decide +kernel⟩
theorem ck35 : chkSs G f35.body ⟨N35, defScope s35, fun _ => true, false, true, true, false⟩ (defBody s35) = true := by decide +kernel
theorem sc35 : FnScope N35 ps35 (defScope s35) := ⟨rfl, rfl, rfl, by decide +kernel, rfl, by decide +kernel, by decide +kernel⟩
theorem ck36 : chkSs G f36.body ⟨N36, defScope s36, fun _ => true, false, true, true, false⟩ (defBody s36) = true := by decide +kernel
theorem sc36 : FnScope N36 ps36 (defScope s36) := ⟨rfl, rfl, rfl, by decide +kernel, rfl, by decide +kernel, by decide +kernel⟩
theorem ck37 : chkSs G f37.body ⟨N37, defScope s37, fun _ => true, false, true, true, false⟩ (defBody s37) = true := by decide +kernel
theorem sc37 : FnScope N37 ps37 (defScope s37) := ⟨rfl, rfl, rfl, by decide +kernel, rfl, by decide +kernel, by decide +kernel⟩
def ip0 : List Str := ["self", "at"]
theorem ib0 : iniB i0 ip0 ["at"] = true := by decide +kernel
theorem is0 : FnScope ip0 ip0 (defScope i0) := ⟨rfl, rfl, rfl, by decide +kernel, rfl, by decide +kernel, by decide +kernel⟩
end K68
namespace K68
open PySem PySem.Spec PySem.W PySem.Calls PyProof.Rows HandSHeadRun L2 Ev
end K68
namespace Lib
open PySem Ev L2
section
variable {P : List Fn}
def St (m : Mu) (j : Nat) : Prop := ∃ (cs : List Int) (i c s : Int), m[j]? = some (.lst [.lst (cs.map .int), .int i, .int c, .int s]) ∧ cs ≠ []
structure Stp (m m' : Mu) (j : Nat) : Prop where
  st : St m' j
  len : m'.length = m.length
  oth : ∀ i, i ≠ j → m'[i]? = m[i]?
theorem Stp.refl {m : Mu} {j : Nat} (h : St m j) : Stp m m j := ⟨h, rfl, fun _ _ => rfl⟩
theorem Stp.trans {m m' m'' : Mu} {j : Nat} (a : Stp m m' j) (b : Stp m' m'' j) : Stp m m'' j := ⟨b.st, b.len.trans a.len, fun i h => (b.oth i h).trans (a.oth i h)⟩
theorem St.put {m : Mu} {j : Nat} {o : O} (h : m[j]? = some o) {cs : List Int} {i c s : Int} (hc : cs ≠ []) : Stp m (m.set j (.lst [.lst (cs.map .int), .int i, .int c, .int s])) j := by
  have hj : j < m.length := (List.getElem?_eq_some_iff.mp h).1
  refine ⟨⟨cs, i, c, s, ?_, hc⟩, by simp, fun k hk => by rw [List.getElem?_set_ne (Ne.symm hk)]⟩
  rw [List.getElem?_set_self hj]
theorem at_map {cs : List Int} (hc : cs ≠ []) (i : Int) : ∃ v, atI (cs.map D.int) (i % cs.length) = some (.int v) := by
  have hl : 0 < cs.length := List.length_pos_iff.mpr hc
  have h1 : 0 ≤ i % (cs.length : Int) := Int.emod_nonneg _ (by omega)
  have h2 : i % (cs.length : Int) < cs.length := Int.emod_lt_of_pos _ (by omega)
  rw [at_pos h1, List.getElem?_map, List.getElem?_eq_getElem (by omega)]
  exact ⟨_, rfl⟩
theorem eq_wp {r : R D} {x : D} {m : Mu} (h : r.wp fun d' m' => d' = x ∧ m' = m) : r = .ok x m := by
  obtain ⟨d, m', e, rfl, rfl⟩ := wp_eq h
  exact e
theorem finq_eq {m : Mu} {d x : D} (h : d = x) : FinQ false m (fun d' m' => d' = x ∧ m' = m) d m := finq_same rfl ⟨h, rfl⟩
theorem finq_iff {m : Mu} {d x : D} : FinQ false m (fun d' m' => d' = x ∧ m' = m) d m ↔ d = x := by
  simp [FinQ]
theorem Sm.ty {w k : Nat} {d : D} (h : Sm w k d) : ∃ t, ∀ m, tyD m d = some t := by
  obtain ⟨p, e, _⟩ := h
  have := e []
  cases d <;> first | exact ⟨_, fun _ => rfl⟩ | (simp [pyD] at this)
theorem allD_bl : ∀ l : List Bool, allD blD (l.map D.bl) = some l
  | [] => rfl
  | b :: r => by simp [allD, blD, allD_bl r]
theorem all_lst {m : Mu} {α : Type} {l : List α} {p : α → Bool} : biF m .all [.lst (l.map fun x => D.bl (p x))] = some (.bl (l.all p)) := by
  have q := allD_bl (l.map p)
  rw [List.map_map] at q
  have q2 : allD blD (l.map fun x => D.bl (p x)) = some (l.map p) := q
  simp [biF, lsD, seqD, q2]
theorem goL_maps {f : D → Mu → R (Option D)} {m : Mu} {α : Type} {g : α → D} {h : α → D} : ∀ {l : List α}, (∀ x ∈ l, f (g x) m = .ok (some (h x)) m) → goL f (l.map g) m = .ok (l.map h) m
  | [], _ => rfl
  | x :: r, q => by
    rw [List.map_cons]
    simp only [goL]
    rw [q x List.mem_cons_self]
    simp only [bind_k]
    rw [goL_maps fun y hy => q y (List.mem_cons_of_mem _ hy)]
    rfl
theorem sz {n : Nat} (h : n ≤ 200000) : n ≤ sizeLine := Nat.le_trans h (by decide)
def siz : Nat → D → Nat
  | 0, _ => 1
  | f + 1, .tup [_, .tup ks] => 1 + (ks.map (siz f)).sum
  | _ + 1, _ => 1
theorem siz_pos : ∀ f d, 1 ≤ siz f d
  | 0, _ => Nat.le_refl _
  | f + 1, d => by
    unfold siz
    split <;> omega
theorem nt_ty {m : Mu} {d : D} {p : PyData} (hp : pyD m d = some p) (hd : ∀ xs, d ≠ .tup xs) : ∃ u, tyD m d = some u ∧ isiT u ["tuple"] = false := by
  cases d <;> first | exact ⟨_, rfl, by decide⟩ | (exact absurd rfl (hd _)) | (simp [pyD] at hp)
structure Her (H : D → Prop) : Prop where
  py : ∀ d, H d → ∃ p, ∀ m, pyD m d = some p
  tag : ∀ t k2, H (.tup [t, k2]) → ∃ w k, Sm w k t ∧ w ≤ 200000
  py2 : ∀ t k2, H (.tup [t, k2]) → ∃ p, ∀ m, pyD m k2 = some p
  kid : ∀ t ks, H (.tup [t, .tup ks]) → ∀ x ∈ ks, H x
end
end Lib
namespace Lib
open PySem Ev L2
section
variable {P : List Fn}
theorem goL_all {f : D → Mu → R (Option D)} {m : Mu} {h : D → D} : ∀ {l : List D}, (∀ x ∈ l, f x m = .ok (some (h x)) m) → goL f l m = .ok (l.map h) m := fun {l} q => by
  have := goL_maps (g := id) (l := l) (h := h) (f := f) (m := m) (by simpa using q)
  simpa using this
theorem rng_nil {lo : Int} : rngD lo 0 = [] := rfl
theorem rng_cons {lo : Int} {n : Nat} : rngD lo (n + 1) = .int lo :: rngD (lo + 1) n := by
  unfold rngD
  rw [List.range_succ_eq_map, List.map_cons, List.map_map]
  congr 1
  · simp
  · apply List.map_congr_left
    intro i _
    simp only [Function.comp]
    congr 1
    push_cast
    omega
theorem down_nil {i j : Int} (h : i ≤ j) : rngDown i j = [] := by
  unfold rngDown
  rw [show (i - j).toNat = 0 by omega]
  rfl
theorem down_cons {i j : Int} (h : j < i) : rngDown i j = .int i :: rngDown (i - 1) j := by
  unfold rngDown
  rw [show (i - j).toNat = (i - 1 - j).toNat + 1 by omega, List.range_succ_eq_map, List.map_cons, List.map_map]
  congr 1
  · simp
  · apply List.map_congr_left
    intro t _
    simp only [Function.comp]
    congr 1
    push_cast
    omega
def tagIn (t : Str) : Prop := t = "a" ∨ t = "b" ∨ t = "ab" ∨ t = "zz" ∨ t = "abcdefgh" ∨ t = "z"
def TrD : Nat → D → Prop
  | 0, _ => False
  | h + 1, d => ∃ t ks, d = .tup [.str t, .tup ks] ∧ tagIn t ∧ ∀ k ∈ ks, TrD h k
theorem TrD.mono : ∀ {h h' : Nat} {d : D}, TrD h d → h ≤ h' → TrD h' d
  | 0, _, _, z, _ => z.elim
  | h + 1, 0, _, _, z => by omega
  | h + 1, h' + 1, d, ⟨t, ks, e, ht, hk⟩, z => ⟨t, ks, e, ht, fun k hx => TrD.mono (hk k hx) (by omega)⟩
theorem TrD.siz : ∀ {h h' : Nat} {d : D}, TrD h d → h ≤ h' → siz h' d = siz h d
  | 0, _, _, z, _ => z.elim
  | h + 1, 0, _, _, z => by omega
  | h + 1, h' + 1, d, ⟨t, ks, e, ht, hk⟩, z => by
    subst e
    simp only [Lib.siz]
    congr 2
    apply List.map_congr_left
    intro k hx
    exact TrD.siz (hk k hx) (by omega)
def Tn (n : Nat) (d : D) : Prop := TrD n d ∧ Lib.siz n d ≤ n
inductive TL : Nat → List D → Prop
  | nil : TL 0 []
  | cons {n S : Nat} {x : D} {xs : List D} : Tn n x → TL S xs → TL (n + S) (x :: xs)
theorem TL.snoc : ∀ {S n : Nat} {xs : List D} {x : D}, TL S xs → Tn n x → TL (S + n) (xs ++ [x])
  | _, n, _, _, .nil, h => by
    have := TL.cons h .nil
    simpa using this
  | _, n, _, _, .cons (n := a) (S := b) h r, hx => by
    have := TL.cons h (TL.snoc r hx)
    rw [← Nat.add_assoc] at this
    exact this
theorem TL.reverse : ∀ {S : Nat} {xs : List D}, TL S xs → TL S xs.reverse
  | _, _, .nil => .nil
  | _, _, .cons (n := a) (S := b) h r => by
    rw [List.reverse_cons]
    have := (TL.reverse r).snoc h
    rwa [Nat.add_comm] at this
theorem TL.all {S : Nat} {xs : List D} (h : TL S xs) : (∀ x ∈ xs, TrD S x) ∧ (xs.map (Lib.siz S)).sum ≤ S := by
  induction h with
  | nil => exact ⟨fun x hx => by simp at hx, by simp⟩
  | cons hx r ih =>
    rename_i n S x xs
    refine ⟨fun y hy => ?_, ?_⟩
    · rcases List.mem_cons.mp hy with rfl | hy
      · exact hx.1.mono (by omega)
      · exact (ih.1 y hy).mono (by omega)
    · rw [List.map_cons, List.sum_cons, hx.1.siz (by omega)]
      have : xs.map (Lib.siz (n + S)) = xs.map (Lib.siz S) := by
        apply List.map_congr_left
        intro y hy
        exact (ih.1 y hy).siz (by omega)
      rw [this]
      have := hx.2
      have := ih.2
      omega
mutual
theorem closD_py {n : Nat} {m : Mu} : ∀ {d : D} {p : PyData}, pyD m d = some p → closD n d = true
  | .non, _, _ => rfl
  | .bl _, _, _ => rfl
  | .int _, _, _ => rfl
  | .str _, _, _ => rfl
  | .scr _, _, _ => rfl
  | .dct, _, _ => rfl
  | .fn _, _, _ => rfl
  | .cls _, _, _ => rfl
  | .ty _, _, _ => rfl
  | .ref _, _, h => by simp [pyD] at h
  | .xo _ _, _, h => by simp [pyD] at h
  | .dks _ _, _, h => by simp [pyD] at h
  | .tup xs, _, h => by
    simp only [pyD, Option.map_eq_some_iff] at h
    obtain ⟨ps, h, _⟩ := h
    simp only [closD]
    exact closDs_py h
  | .lst xs, _, h => by
    simp only [pyD, Option.map_eq_some_iff] at h
    obtain ⟨ps, h, _⟩ := h
    simp only [closD]
    exact closDs_py h
theorem closDs_py {n : Nat} {m : Mu} : ∀ {ds : List D} {ps : List PyData}, pyDs m ds = some ps → closDs n ds = true
  | [], _, _ => rfl
  | d :: r, ps, h => by
    simp only [pyDs] at h
    cases h1 : pyD m d with
    | none => simp [h1] at h
    | some a =>
      cases h2 : pyDs m r with
      | none => simp [h1, h2] at h
      | some b => simp only [closDs, closD_py h1, closDs_py h2]; rfl
end
structure Sq (m m' : Mu) (j : Nat) : Prop where
  st : St m' j
  len : m.length ≤ m'.length
  oth : ∀ i, i < m.length → i ≠ j → m'[i]? = m[i]?
theorem Sq.stp {m m' m'' : Mu} {j : Nat} (a : Sq m m' j) (b : Stp m' m'' j) : Sq m m'' j :=
  ⟨b.st, by rw [b.len]; exact a.len, fun i h1 h2 => (b.oth i h2).trans (a.oth i h1 h2)⟩
theorem closInts {n : Nat} : ∀ cs : List Int, closDs n (cs.map D.int) = true
  | [] => rfl
  | c :: r => by simp [closDs, closD, closInts r]
theorem St.clos {n : Nat} {m : Mu} {j : Nat} {o : O} (h : St m j) (e : m[j]? = some o) : closO n o = true := by
  obtain ⟨cs, i, c, s, h, _⟩ := h
  rw [h] at e
  cases e
  simp [closO, closDs, closD, closInts]
theorem Sq.fin {m m' : Mu} {j : Nat} {d : D} {p : PyData} {Q : D → Mu → Prop} (h : Sq m m' j) (hj : j < m.length) (hp : pyD m' d = some p) (q : ∀ m2, Stp m m2 j → Q d m2) : FinQ false m Q d m' := by
  by_cases hl : m'.length = m.length
  · refine finq_same hl (q m' ⟨h.st, hl, fun i hi => ?_⟩)
    by_cases hi2 : i < m.length
    · exact h.oth i hi2 hi
    · rw [List.getElem?_eq_none (by omega), List.getElem?_eq_none (by omega)]
  · refine .inr ⟨by simp [hl], d, ?_, ?_, q _ ⟨?_, ?_, fun i hi => ?_⟩⟩
    · cases d <;> first | (simp [pyD] at hp; done) | (simp only [fzD]; rw [if_pos (closD_py hp)])
    · intro i o hi e
      by_cases hij : i = j
      · subst hij
        exact .inr (h.st.clos e)
      · exact .inl (by rw [← h.oth i hi hij]; exact e)
    · obtain ⟨cs, i, c, s, e, hc⟩ := h.st
      exact ⟨cs, i, c, s, by rw [List.getElem?_take_of_lt hj]; exact e, hc⟩
    · rw [List.length_take]; have := h.len; omega
    · by_cases hi2 : i < m.length
      · rw [List.getElem?_take_of_lt hi2]; exact h.oth i hi2 hi
      · rw [List.getElem?_eq_none (by rw [List.length_take]; omega), List.getElem?_eq_none (by omega)]
end
end Lib
namespace Lib
open PySem Ev L2
section
variable {P : List Fn}
theorem St.lt {m : Mu} {j : Nat} (h : St m j) : j < m.length := by
  obtain ⟨cs, i, c, s, e, _⟩ := h
  exact (List.getElem?_eq_some_iff.mp e).1
theorem Sq.app {m m' os : Mu} {j : Nat} (h : Sq m m' j) : Sq m (m' ++ os) j := by
  have hj := h.st.lt
  refine ⟨?_, by rw [List.length_append]; have := h.len; omega, fun i h1 h2 => ?_⟩
  · obtain ⟨cs, i, c, s, e, hc⟩ := h.st
    exact ⟨cs, i, c, s, by rw [List.getElem?_append_left hj]; exact e, hc⟩
  · have := h.len
    rw [List.getElem?_append_left (by omega)]
    exact h.oth i h1 h2
theorem Sq.put {m m' : Mu} {j p : Nat} {o : O} (h : Sq m m' j) (hj : j < m.length) (hp : m.length ≤ p) : Sq m (m'.set p o) j := by
  refine ⟨?_, by rw [List.length_set]; exact h.len, fun i h1 h2 => ?_⟩
  · obtain ⟨cs, i, c, s, e, hc⟩ := h.st
    exact ⟨cs, i, c, s, by rw [List.getElem?_set_ne (by omega)]; exact e, hc⟩
  · rw [List.getElem?_set_ne (by omega)]
    exact h.oth i h1 h2
theorem at_ints {ls : List Int} {e : Int} (h0 : 0 ≤ e) (h1 : e < ls.length) : ∃ v, ls[e.toNat]? = some v ∧ atI (ls.map D.int) e = some (.int v) := by
  refine ⟨ls[e.toNat]'(by omega), List.getElem?_eq_getElem (by omega), ?_⟩
  rw [at_pos h0, List.getElem?_map, List.getElem?_eq_getElem (by omega)]
  rfl
theorem max2_int {m : Mu} {a b : Int} : biF m .max2 [.int a, .int b] = some (.int (if b > a then b else a)) := rfl
def tagsD : D := D.lst [D.str (Str.ofString "a"), D.str (Str.ofString "b"), D.str (Str.ofString "ab"), D.str (Str.ofString "zz"), D.str (Str.ofString "abcdefgh")]
def I1 (m : Mu) (j N : Nat) (most sl : Int) (rest : List D) (s : Sl) (m' : Mu) : Prop := ∃ (k : Nat) (es ls : List Int) (o7 o9 : Option D), 1 ≤ k ∧ k ≤ N ∧ rest = rngD k (N - k) ∧
  s = [some (.ref j), some (.int most), some tagsD, some (.int N), some (.int sl), some (.ref m.length), some (.ref (m.length + 1)), o7, none, o9] ∧ Sq m m' j ∧ m'.length = m.length + 2 ∧
  m'[m.length]? = some (.lst (es.map .int)) ∧ m'[m.length + 1]? = some (.lst (ls.map .int)) ∧ es.length = k ∧ ls.length = k ∧ ∀ (i : Nat) (e : Int), 1 ≤ i → es[i]? = some e → 0 ≤ e ∧ e < i
theorem small_ok {i : Int} (h1 : -1000 ≤ i) (h2 : i ≤ 1000) : small62 i = true := by
  simp only [small62, Bool.and_eq_true, decide_eq_true_eq]
  omega
theorem goL_new {C : Cl} {t : Nat} {s : Sl} : ∀ {xs : List D} {m : Mu}, goL (lcB C (.nm t) (.cst (.bl true)) (.lstL .nil) s) xs m = .ok ((List.range xs.length).map fun i => .ref (m.length + i)) (m ++ List.replicate xs.length (.lst []))
  | [], m => by simp [goL]
  | x :: r, m => by
    have e : lcB C (.nm t) (.cst (.bl true)) (.lstL .nil) s x m = .ok (some (.ref m.length)) (m ++ [.lst []]) := by
      simp [lcB, setT, evE, evEs, truthD]
    simp only [goL]
    rw [e]
    simp only [bind_k]
    rw [goL_new (xs := r)]
    simp only [bind_k, List.length_append, List.length_singleton, List.length_cons]
    congr 1
    · rw [List.range_succ_eq_map, List.map_cons, List.map_map]
      simp only [Option.toList, List.singleton_append, Nat.add_zero, List.cons.injEq, true_and]
      apply List.map_congr_left
      intro i _
      simp only [Function.comp, List.length_nil]
      congr 1
      omega
    · rw [List.append_assoc]
      rfl
def kidsD (m : Mu) (N : Nat) : List D := (List.range N).map fun i => .ref (m.length + 2 + i)
theorem kidsE {m : Mu} {N : Nat} {m' : Mu} {i : Int} : ixF m' (.lst (kidsD m N)) (.int i) = atI (kidsD m N) i := ixLst
theorem kids_at {m : Mu} {k : Nat} {e : Int} (h0 : 0 ≤ e) (h1 : e < k) : atI (kidsD m k) e = some (.ref (m.length + 2 + e.toNat)) := by
  rw [at_pos h0]
  unfold kidsD
  rw [List.getElem?_map, List.getElem?_range (by omega)]
  rfl
theorem Tn.mono {n n' : Nat} {d : D} (h : Tn n d) (hn : n ≤ n') : Tn n' d := ⟨h.1.mono hn, by rw [h.1.siz hn]; have := h.2; omega⟩
theorem Tn.pos {n : Nat} {d : D} (h : Tn n d) : 1 ≤ n := Nat.le_trans (siz_pos n d) h.2
theorem TL.len {S : Nat} {xs : List D} (h : TL S xs) : xs.length ≤ S := by
  induction h with
  | nil => exact Nat.le_refl _
  | cons hx r ih => have := hx.pos; simp only [List.length_cons]; omega
theorem le_sum {S : Nat → Nat} : ∀ {n i : Nat}, i < n → S i ≤ ((List.range n).map S).sum
  | n + 1, i, h => by
    rw [List.range_succ, List.map_append, List.sum_append]
    simp
    by_cases hi : i = n
    · subst hi; omega
    · have := le_sum (S := S) (n := n) (i := i) (by omega)
      omega
theorem sum_same {S : Nat → Nat} {c e : Nat} : ∀ {q : Nat}, q ≤ e → ((List.range q).map fun i => if i = e then S i + c else S i).sum = ((List.range q).map S).sum
  | 0, _ => rfl
  | q + 1, h => by
    rw [List.range_succ, List.map_append, List.sum_append, List.map_append, List.sum_append, sum_same (by omega)]
    simp
    omega
theorem sum_upd {S : Nat → Nat} {c e : Nat} : ∀ {q : Nat}, e < q → ((List.range q).map fun i => if i = e then S i + c else S i).sum = ((List.range q).map S).sum + c
  | q + 1, h => by
    rw [List.range_succ, List.map_append, List.sum_append, List.map_append, List.sum_append]
    by_cases he : e = q
    · subst he
      rw [sum_same (Nat.le_refl _)]
      simp
      omega
    · rw [sum_upd (by omega)]
      simp
      rw [if_neg (by omega)]
      omega
def I2 (m : Mu) (j N : Nat) (es : List Int) (most sl : Int) (rest : List D) (s : Sl) (m' : Mu) : Prop := ∃ (k : Nat) (S : Nat → Nat) (o7 o9 : Option D), k < N ∧ rest = rngDown k 0 ∧
  s = [some (.ref j), some (.int most), some tagsD, some (.int N), some (.int sl), some (.ref m.length), some (.ref (m.length + 1)), o7, some (.lst (kidsD m N)), o9] ∧ Sq m m' j ∧ m'.length = m.length + 2 + N ∧
  m'[m.length]? = some (.lst (es.map .int)) ∧ (∀ i, i < N → ∃ xs, m'[m.length + 2 + i]? = some (.lst xs) ∧ (i ≤ k → TL (S i) xs)) ∧ ((List.range (k + 1)).map S).sum + k + 1 ≤ N
end
end Lib
namespace Lib
open PySem Ev L2
section
variable {P : List Fn}
theorem addLst {m : Mu} {a b : List D} (h : a.length + b.length ≤ 200000) : binF m .Add (.lst a) (.lst b) = some (.lst (a ++ b)) := by
  simp only [binF, addF, lstD]
  rw [if_pos (sz h)]
inductive At : D → List Nat → D → Prop
  | nil {t : D} : At t [] t
  | cons {g k u : D} {ks : List D} {i : Nat} {r : List Nat} : ks[i]? = some k → At k r u → At (.tup [g, .tup ks]) (i :: r) u
def pI (r : List Nat) : List D := r.map fun (i : Nat) => .int (i : Int)
def pD (p : List D) (ps : List (List Nat)) : D := .lst (ps.map fun r => .tup (p ++ pI r))
def Good (h : Nat) (t : D) (r : List Nat) : Prop := r.length ≤ h ∧ (∀ i ∈ r, i ≤ 1000) ∧ ∃ u, At t r u
def I5 (h : Nat) (t : D) (ks : List D) (p : List D) (m : Mu) (rest : List D) (s : Sl) (m' : Mu) : Prop := m' = m ∧ ∃ (i : Nat) (ps : List (List Nat)) (o3 o4 : Option D), i ≤ ks.length ∧ rest = enumD i (ks.drop i) ∧
  s = [some t, some (.tup p), some (pD p ps), o3, o4] ∧ ps.length + ((ks.drop i).map (siz h)).sum = 1 + (ks.map (siz h)).sum ∧ ∀ r ∈ ps, Good (h + 1) t r
def I6 (m : Mu) (p u : D) (rest : List D) (s : Sl) (m' : Mu) : Prop := m' = m ∧ ∃ (t : D) (r : List Nat) (o2 : Option D), rest = pI r ∧ s = [some t, some p, o2] ∧ At t r u
theorem cut_take {xs : List D} {n : Nat} : cutL xs none (some (n : Int)) = xs.take n := by
  unfold cutL
  rw [HT.sIx_none, HT.sIx_nat, List.drop_zero, Nat.sub_zero]
  by_cases h : n ≤ xs.length
  · rw [Nat.min_eq_left h]
  · rw [Nat.min_eq_right (by omega), List.take_length, List.take_of_length_le (by omega)]
theorem cut_drop {xs : List D} {n : Nat} : cutL xs (some (n : Int)) none = xs.drop n := by
  unfold cutL
  rw [HT.sIx_none, HT.sIx_nat]
  by_cases h : n ≤ xs.length
  · rw [Nat.min_eq_left h, List.take_of_length_le (by simp)]
  · rw [Nat.min_eq_right (by omega), Nat.sub_self, List.take_zero, List.drop_of_length_le (by omega)]
theorem at_mem {α : Type} {xs : List α} {t : Int} (h0 : 0 ≤ t) (h1 : t < xs.length) : ∃ y, y ∈ xs ∧ atI xs t = some y := by
  rw [at_pos h0, List.getElem?_eq_getElem (by omega)]
  exact ⟨_, List.getElem_mem _, rfl⟩
theorem mem_sum {f : Nat} {x : D} : ∀ {ks : List D}, x ∈ ks → siz f x ≤ (ks.map (siz f)).sum
  | k :: r, h => by
    rw [List.map_cons, List.sum_cons]
    rcases List.mem_cons.mp h with rfl | h
    · omega
    · have := mem_sum (f := f) h
      omega
theorem At.tr : ∀ {h : Nat} {t u : D} {r : List Nat}, TrD h t → At t r u → ∃ h', h' + r.length ≤ h ∧ TrD h' u ∧ siz h' u ≤ siz h t
  | h, _, _, _, hT, .nil => ⟨h, by simp, hT, Nat.le_refl _⟩
  | 0, _, _, _, hT, .cons _ _ => hT.elim
  | h + 1, _, _, _, ⟨tg, ks, e, ht, hk⟩, .cons hki hat => by
    cases e
    have hkm := List.mem_of_getElem? hki
    obtain ⟨h', q1, q2, q3⟩ := At.tr (hk _ hkm) hat
    refine ⟨h', by simp; omega, q2, Nat.le_trans q3 ?_⟩
    simp only [siz]
    have := mem_sum (f := h) hkm
    omega
theorem listTup {m : Mu} {xs : List D} : biF m .list [.tup xs] = some (.lst xs) := rfl
end
end Lib
namespace Lib
open PySem Ev L2
section
variable {P : List Fn}
theorem eqNil {m : Mu} {x : D} {xs : List D} (h : lsD m x = some xs) (h0 : xs = [] → x = .lst [] ∨ x = .scr [] ∨ ∃ i, x = .ref i) : eqF m x (.lst []) = some xs.isEmpty := by
  have hx : eqF m x (.lst []) = eqG m x (.lst []) := by cases x <;> rfl
  rw [hx]
  unfold eqG
  have e2 : pyM m (.lst []) = some (.list []) := rfl
  have ee : xs ≠ [] → eqE m x (.lst []) = some false := fun hne => by
    have : lsD m (.lst []) = some [] := rfl
    simp only [eqE, eqL, h, this]
    rw [if_neg]
    simpa using hne
  by_cases hn : xs = []
  · subst hn
    rcases h0 rfl with rfl | rfl | ⟨i, rfl⟩
    · rfl
    · rfl
    · simp only [lsD, seqD] at h
      split at h
      · rename_i ys hm
        cases h
        have e1 : pyM m (.ref i) = some (.list []) := by simp [pyM, hm, pyDs]
        rw [e1, e2]
        rfl
      · cases h
  · have hf : xs.isEmpty = false := by simpa using hn
    rw [hf, e2]
    cases e1 : pyM m x with
    | none => exact ee hn
    | some a =>
      dsimp only
      split
      · have : ∃ b bs, a = .list (b :: bs) := by
          cases x with
          | lst ys =>
            simp [lsD, seqD] at h
            subst h
            cases ys with
            | nil => exact absurd rfl hn
            | cons y r =>
              simp only [pyM, pyD, pyDs, Option.map_eq_some_iff] at e1
              obtain ⟨ps, e3, rfl⟩ := e1
              revert e3
              cases pyD m y with
              | none => intro e3; cases e3
              | some b =>
                cases pyDs m r with
                | none => intro e3; cases e3
                | some bs => intro e3; cases e3; exact ⟨b, bs, rfl⟩
          | scr ns =>
            simp [lsD, seqD] at h
            subst h
            cases ns with
            | nil => exact absurd rfl hn
            | cons y r =>
              simp [pyM, pyD] at e1
              subst e1
              exact ⟨_, _, rfl⟩
          | ref i =>
            simp only [lsD, seqD] at h
            split at h
            · rename_i ys hm
              cases h
              simp only [pyM, hm, Option.map_eq_some_iff] at e1
              obtain ⟨ps, e3, rfl⟩ := e1
              cases xs with
              | nil => exact absurd rfl hn
              | cons y r =>
                simp only [pyDs] at e3
                revert e3
                cases pyD m y with
                | none => intro e3; cases e3
                | some b =>
                  cases pyDs m r with
                  | none => intro e3; cases e3
                  | some bs => intro e3; cases e3; exact ⟨b, bs, rfl⟩
            · cases h
          | _ => simp [lsD, seqD] at h
        obtain ⟨b, bs, rfl⟩ := this
        simp [PyData.eqv, PyData.eqvAll]
      · exact ee hn
theorem eqL {m : Mu} {xs : List D} : cmpF m .Eq (.lst xs) (.lst []) = some xs.isEmpty := by
  show eqF m (.lst xs) (.lst []) = _
  exact eqNil (xs := xs) rfl fun z => .inl (by rw [z])
theorem neScr {m : Mu} {ns : List Int} : cmpF m .NotEq (.scr ns) (.lst []) = some (!ns.isEmpty) := by
  have : eqF m (.scr ns) (.lst []) = some (ns.map D.int).isEmpty := eqNil rfl fun z => .inr (.inl (by simp at z; rw [z]))
  simp [cmpF, this]
theorem neRef {m : Mu} {i : Nat} {xs : List D} (h : m[i]? = some (.lst xs)) : cmpF m .NotEq (.ref i) (.lst []) = some (!xs.isEmpty) := by
  have : eqF m (.ref i) (.lst []) = some xs.isEmpty := eqNil (by simp [lsD, seqD, h]) fun _ => .inr (.inr ⟨i, rfl⟩)
  simp [cmpF, this]
theorem lenScr {m : Mu} {ns : List Int} : biF m .len [.scr ns] = some (.int ns.length) := by simp [biF, lenF, seqD]
theorem ixScr {m : Mu} {ns : List Int} {i : Int} : ixF m (.scr ns) (.int i) = atI (ns.map D.int) i := by simp [ixF, seqD]
theorem fin_gone {m m' : Mu} {d : D} {Q : D → Mu → Prop} (hl : m.length ≤ m'.length) (hs : ∀ i, i < m.length → m'[i]? = m[i]?) (hc : ∀ n, closD n d = true) (hr : ∀ i, d ≠ .ref i) (q : Q d m) : FinQ false m Q d m' := by
  by_cases he : m'.length = m.length
  · have : m' = m := by
      apply List.ext_getElem?
      intro i
      by_cases hi : i < m.length
      · exact hs i hi
      · rw [List.getElem?_eq_none (by omega), List.getElem?_eq_none (by omega)]
    rw [this]
    exact finq_same rfl q
  · refine .inr ⟨by simp [he], d, ?_, fun i o hi e => .inl (by rw [← hs i hi]; exact e), ?_⟩
    · cases d <;> first | exact absurd rfl (hr _) | (simp only [fzD]; rw [if_pos (hc _)])
    · have : m'.take m.length = m := by
        apply List.ext_getElem?
        intro i
        by_cases hi : i < m.length
        · rw [List.getElem?_take_of_lt hi]; exact hs i hi
        · rw [List.getElem?_eq_none (by rw [List.length_take]; omega), List.getElem?_eq_none (by omega)]
      rw [this]
      exact q
theorem goF_cons {f : D → Sl → Mu → RS} {x : D} {xs : List D} {s : Sl} {m : Mu} {Q : Q4} : (goF f (x :: xs) s m).wp Q ↔ (f x s m).wp { n := fun s m => (goF f xs s m).wp Q, r := Q.r, b := Q.n, c := fun s m => (goF f xs s m).wp Q, x := Q.x } := by
  simp only [goF]
  cases f x s m <;> exact Iff.rfl
end
end Lib
namespace Lib
open PySem Ev L2
section
variable {P : List Fn}
end
end Lib
namespace Tk
open PySem Ev L2
open Lib (at_map closD_py small_ok rng_nil rng_cons down_nil down_cons at_ints max2_int goL_new kidsD kidsE kids_at Tn TrD TL tagIn le_sum sum_upd sz)
def takeF : Fn := ⟨"_law_take", 2, 4, (.cons (.ite (.cmp .Gt (.ix (.var 0) (.cst (.int 2))) (.cst (.int 0)))
    (.cons (.set 3 (.bin .Mod (.ix (.var 0) (.cst (.int 2))) (.var 1))) (.cons (.sub (.var 0) (.cst (.int 2)) (.bin .FloorDiv (.ix (.var 0) (.cst (.int 2))) (.var 1))) (.cons (.ret (.var 3)) .nil)))
    .nil) (.cons (.set 2 (.ix (.var 0) (.cst (.int 1)))) (.cons (.ite (.cmp .NotEq (.ix (.var 0) (.cst (.int 0))) (.lst .nil))
    (.cons (.set 2 (.ix (.ix (.var 0) (.cst (.int 0))) (.bin .Mod (.ix (.var 0) (.cst (.int 1))) (.bi "len" .len (.cons (.ix (.var 0) (.cst (.int 0))) .nil))))) .nil)
    .nil) (.cons (.sub (.var 0) (.cst (.int 1)) (.bin .Add (.ix (.var 0) (.cst (.int 1))) (.cst (.int 1)))) (.cons (.ite (.and (.cons (.cmp .GtE (.var 2) (.bin .Pow (.cst (.int 10)) (.cst (.int 18)))) (.cons (.cmp .LtE (.ix (.var 0) (.cst (.int 1))) (.bi "len" .len (.cons (.ix (.var 0) (.cst (.int 0))) .nil))) .nil)))
    (.cons (.sub (.var 0) (.cst (.int 2)) (.bin .FloorDiv (.var 2) (.var 1))) (.cons (.ret (.bin .Mod (.var 2) (.var 1))) .nil))
    .nil) (.cons (.set 2 (.bin .Mod (.var 2) (.cst (.int 2305843009213693951)))) (.cons (.sub (.var 0) (.cst (.int 3)) (.bin .Mod (.bin .Add (.bin .Add (.bin .Mult (.ix (.var 0) (.cst (.int 3))) (.cst (.int 48271))) (.bin .Mult (.var 2) (.cst (.int 69621)))) (.ix (.var 0) (.cst (.int 1)))) (.cst (.int 2305843009213693951)))) (.cons (.ret (.bin .Mod (.bin .FloorDiv (.bin .Mod (.bin .Mult (.ix (.var 0) (.cst (.int 3))) (.ix (.var 0) (.cst (.int 3)))) (.cst (.int 2147483629))) (.cst (.int 8))) (.var 1))) .nil)))))))), false, none⟩
section
variable {P : List Fn}
def St (m : Mu) (j : Nat) : Prop := ∃ (ns : List Int) (i c s : Int), m[j]? = some (.lst [.scr ns, .int i, .int c, .int s]) ∧ 0 ≤ s ∧ s < 2305843009213693951
structure Stp (m m' : Mu) (j : Nat) : Prop where
  st : St m' j
  len : m'.length = m.length
  oth : ∀ i, i ≠ j → m'[i]? = m[i]?
theorem Stp.refl {m : Mu} {j : Nat} (h : St m j) : Stp m m j := ⟨h, rfl, fun _ _ => rfl⟩
theorem Stp.trans {m m' m'' : Mu} {j : Nat} (a : Stp m m' j) (b : Stp m' m'' j) : Stp m m'' j := ⟨b.st, b.len.trans a.len, fun i h => (b.oth i h).trans (a.oth i h)⟩
theorem St.put {m : Mu} {j : Nat} {o : O} (h : m[j]? = some o) {ns : List Int} {i c s : Int} (h0 : 0 ≤ s) (h1 : s < 2305843009213693951) : Stp m (m.set j (.lst [.scr ns, .int i, .int c, .int s])) j := by
  have hj : j < m.length := (List.getElem?_eq_some_iff.mp h).1
  refine ⟨⟨ns, i, c, s, ?_, h0, h1⟩, by simp, fun k hk => by rw [List.getElem?_set_ne (Ne.symm hk)]⟩
  rw [List.getElem?_set_self hj]
theorem take_ok {iK n j : Nat} {b : Int} {m : Mu} (hK : P[iK]? = some takeF) (h : St m j) (hb : 0 < b) (hb2 : b < 1073741824) : (callF P (n + 1) iK [.ref j, .int b] m).wp fun d m' => ∃ r, d = .int r ∧ 0 ≤ r ∧ r < b ∧ Stp m m' j := by
  obtain ⟨ns, i, c, s, hm, hs0, hs1⟩ := h
  refine call_wp hK rfl ?_
  simp only [takeF, ww, putI, dropI]
  have fin : ∀ (r x y z : Int), 0 ≤ r → r < b → 0 ≤ z → z < 2305843009213693951 → FinQ false m (fun d m' => ∃ r, d = D.int r ∧ 0 ≤ r ∧ r < b ∧ Stp m m' j) (D.int r) (List.set m j (O.lst [D.scr ns, D.int x, D.int y, D.int z])) :=
    fun r x y z h1 h2 h3 h4 => finq_same (by simp) ⟨r, rfl, h1, h2, St.put hm h3 h4⟩
  have e1 : ∀ z : Int, 0 ≤ z % b := fun z => Int.emod_nonneg _ (by omega)
  have e2 : ∀ z : Int, z % b < b := fun z => Int.emod_lt_of_pos _ hb
  have e3 : ∀ z : Int, 0 ≤ z % 2305843009213693951 := fun z => Int.emod_nonneg _ (by omega)
  have e4 : ∀ z : Int, z % 2305843009213693951 < 2305843009213693951 := fun z => Int.emod_lt_of_pos _ (by omega)
  have mul : ∀ (m : Mu) (z : Int), binF m .Mult (.int (z % 2305843009213693951)) (.int (z % 2305843009213693951)) = some (.int (z % 2305843009213693951 * (z % 2305843009213693951))) := fun m z => bin_mulL (by have := e3 z; omega) (by have := e4 z; omega)
  by_cases hns : ns = []
  · subst hns
    simp [oo, ixN, isAbs, partD, -Bool.exists_bool, -Prod.exists, -Bool.not_eq_eq_eq_not, hm, hb, hb2, List.getElem?_set_self', Lib.neScr, Lib.lenScr, mul]
    exact ⟨fun _ => fin _ _ _ _ (e1 _) (e2 _) hs0 hs1, fun _ => ⟨fun _ => ⟨fun _ => fin _ _ _ _ (e1 _) (e2 _) hs0 hs1, fun _ => fin _ _ _ _ (e1 _) (e2 _) (e3 _) (e4 _)⟩, fun _ => fin _ _ _ _ (e1 _) (e2 _) (e3 _) (e4 _)⟩⟩
  · have hl : 0 < ns.length := List.length_pos_iff.mpr hns
    obtain ⟨v, hv⟩ := at_map hns i
    have hne : ns.isEmpty = false := by simpa using hns
    simp [oo, ixN, isAbs, partD, -Bool.exists_bool, -Prod.exists, -Bool.not_eq_eq_eq_not, hm, hb, hb2, hv, hl, List.getElem?_set_self', Lib.neScr, Lib.lenScr, Lib.ixScr, hne, mul]
    exact ⟨fun _ => fin _ _ _ _ (e1 _) (e2 _) hs0 hs1, fun _ => ⟨fun _ => ⟨fun _ => fin _ _ _ _ (e1 _) (e2 _) hs0 hs1, fun _ => fin _ _ _ _ (e1 _) (e2 _) (e3 _) (e4 _)⟩, fun _ => fin _ _ _ _ (e1 _) (e2 _) (e3 _) (e4 _)⟩⟩
structure Sq (m m' : Mu) (j : Nat) : Prop where
  st : St m' j
  len : m.length ≤ m'.length
  oth : ∀ i, i < m.length → i ≠ j → m'[i]? = m[i]?
theorem Sq.stp {m m' m'' : Mu} {j : Nat} (a : Sq m m' j) (b : Stp m' m'' j) : Sq m m'' j :=
  ⟨b.st, by rw [b.len]; exact a.len, fun i h1 h2 => (b.oth i h2).trans (a.oth i h1 h2)⟩
theorem St.clos {n : Nat} {m : Mu} {j : Nat} {o : O} (h : St m j) (e : m[j]? = some o) : closO n o = true := by
  obtain ⟨cs, i, c, s, h, _⟩ := h
  rw [h] at e
  cases e
  simp [closO, closDs, closD]
theorem Sq.fin {m m' : Mu} {j : Nat} {d : D} {p : PyData} {Q : D → Mu → Prop} (h : Sq m m' j) (hj : j < m.length) (hp : pyD m' d = some p) (q : ∀ m2, Stp m m2 j → Q d m2) : FinQ false m Q d m' := by
  by_cases hl : m'.length = m.length
  · refine finq_same hl (q m' ⟨h.st, hl, fun i hi => ?_⟩)
    by_cases hi2 : i < m.length
    · exact h.oth i hi2 hi
    · rw [List.getElem?_eq_none (by omega), List.getElem?_eq_none (by omega)]
  · refine .inr ⟨by simp [hl], d, ?_, ?_, q _ ⟨?_, ?_, fun i hi => ?_⟩⟩
    · cases d <;> first | (simp [pyD] at hp; done) | (simp only [fzD]; rw [if_pos (closD_py hp)])
    · intro i o hi e
      by_cases hij : i = j
      · subst hij
        exact .inr (h.st.clos e)
      · exact .inl (by rw [← h.oth i hi hij]; exact e)
    · obtain ⟨cs, i, c, s, e, hc⟩ := h.st
      exact ⟨cs, i, c, s, by rw [List.getElem?_take_of_lt hj]; exact e, hc⟩
    · rw [List.length_take]; have := h.len; omega
    · by_cases hi2 : i < m.length
      · rw [List.getElem?_take_of_lt hi2]; exact h.oth i hi2 hi
      · rw [List.getElem?_eq_none (by rw [List.length_take]; omega), List.getElem?_eq_none (by omega)]
theorem St.lt {m : Mu} {j : Nat} (h : St m j) : j < m.length := by
  obtain ⟨cs, i, c, s, e, _⟩ := h
  exact (List.getElem?_eq_some_iff.mp e).1
theorem Sq.app {m m' os : Mu} {j : Nat} (h : Sq m m' j) : Sq m (m' ++ os) j := by
  have hj := h.st.lt
  refine ⟨?_, by rw [List.length_append]; have := h.len; omega, fun i h1 h2 => ?_⟩
  · obtain ⟨cs, i, c, s, e, hc⟩ := h.st
    exact ⟨cs, i, c, s, by rw [List.getElem?_append_left hj]; exact e, hc⟩
  · have := h.len
    rw [List.getElem?_append_left (by omega)]
    exact h.oth i h1 h2
theorem Sq.put {m m' : Mu} {j p : Nat} {o : O} (h : Sq m m' j) (hj : j < m.length) (hp : m.length ≤ p) : Sq m (m'.set p o) j := by
  refine ⟨?_, by rw [List.length_set]; exact h.len, fun i h1 h2 => ?_⟩
  · obtain ⟨cs, i, c, s, e, hc⟩ := h.st
    exact ⟨cs, i, c, s, by rw [List.getElem?_set_ne (by omega)]; exact e, hc⟩
  · rw [List.getElem?_set_ne (by omega)]
    exact h.oth i h1 h2
def tagsD : D := D.lst [D.str (Str.ofString "a"), D.str (Str.ofString "b"), D.str (Str.ofString "ab"), D.str (Str.ofString "zz")]
end
end Tk
namespace Lib
open PySem Ev L2
section
variable {P : List Fn}
theorem goL_by {f : D → Mu → R (Option D)} (I : Mu → Mu → Prop) (hr : ∀ m, I m m) (ht : ∀ a b c, I a b → I b c → I a c) {J : Mu → Prop} (hJ : ∀ a b, J a → I a b → J b) {Pr : D → Prop} (hf : ∀ x m, J m → (f x m).wp fun o m' => ∃ y, o = some y ∧ Pr y ∧ I m m') :
    ∀ (xs : List D) (m : Mu), J m → (goL f xs m).wp fun ys m' => I m m' ∧ ys.length = xs.length ∧ ∀ y ∈ ys, Pr y
  | [], m, _ => ⟨hr m, rfl, fun y hy => by simp at hy⟩
  | x :: xs, m, h => by
    simp only [goL, wp_bind, wp_ok]
    refine wp_mono (hf x m h) ?_
    rintro _ m1 ⟨y, rfl, hy, h1⟩
    refine wp_mono (goL_by I hr ht hJ hf xs m1 (hJ _ _ h h1)) ?_
    rintro ys m2 ⟨h2, hl, hys⟩
    refine ⟨ht _ _ _ h1 h2, by simp [hl], fun z hz => ?_⟩
    simp only [Option.toList, List.singleton_append, List.mem_cons] at hz
    rcases hz with rfl | hz
    · exact hy
    · exact hys z hz
def Pl (d : D) : Prop := ∃ p, ∀ m, pyD m d = some p
theorem Pl.mem {xs : List D} (h : Pl (.tup xs)) : ∀ x ∈ xs, Pl x := by
  obtain ⟨p, hp⟩ := h
  have key : ∀ (l : List D) (ps : List PyData), (∀ m, pyDs m l = some ps) → ∀ x ∈ l, Pl x := by
    intro l
    induction l with
    | nil => intro ps _ x hx; simp at hx
    | cons y r ih =>
      intro ps hps x hx
      have each : ∀ m, ∃ a b, pyD m y = some a ∧ pyDs m r = some b ∧ ps = a :: b := fun m => by
        have := hps m
        simp only [pyDs] at this
        split at this
        · rename_i a b e1 e2
          cases this
          exact ⟨a, b, e1, e2, rfl⟩
        · cases this
      obtain ⟨a, b, _, _, e⟩ := each []
      rcases List.mem_cons.mp hx with rfl | hx
      · refine ⟨a, fun m => ?_⟩
        obtain ⟨a', b', h1, _, h3⟩ := each m
        rw [e] at h3
        cases h3
        exact h1
      · refine ih b (fun m => ?_) x hx
        obtain ⟨a', b', _, h2, h3⟩ := each m
        rw [e] at h3
        cases h3
        exact h2
  have e0 := hp []
  simp only [pyD, Option.map_eq_some_iff] at e0
  obtain ⟨ps, _, rfl⟩ := e0
  refine key xs ps fun m => ?_
  have := hp m
  simp only [pyD, Option.map_eq_some_iff] at this
  obtain ⟨qs, h2, h3⟩ := this
  cases h3
  exact h2
theorem Pl.row : ∀ {xs : List D}, (∀ x ∈ xs, Pl x) → ∃ ps, ∀ m, pyDs m xs = some ps
  | [], _ => ⟨[], fun _ => rfl⟩
  | x :: r, h => by
    obtain ⟨a, ha⟩ := h x (by simp)
    obtain ⟨b, hb⟩ := Pl.row (xs := r) fun y hy => h y (by simp [hy])
    exact ⟨a :: b, fun m => by simp [pyDs, ha m, hb m]⟩
theorem Pl.tup {xs : List D} (h : ∀ x ∈ xs, Pl x) : Pl (.tup xs) := by
  obtain ⟨ps, hp⟩ := Pl.row h
  exact ⟨.tuple ps, fun m => by simp [pyD, hp m]⟩
theorem Pl.lst {xs : List D} (h : ∀ x ∈ xs, Pl x) : Pl (.lst xs) := by
  obtain ⟨ps, hp⟩ := Pl.row h
  exact ⟨.list ps, fun m => by simp [pyD, hp m]⟩
theorem Pl.int (i : Int) : Pl (.int i) := ⟨_, fun _ => rfl⟩
theorem Sm.pl {w k : Nat} {d : D} (h : Sm w k d) : Pl d := by
  obtain ⟨p, hp, _⟩ := h
  exact ⟨p, hp⟩
theorem Pl.clos {d : D} (h : Pl d) (n : Nat) : closD n d = true := by
  obtain ⟨p, hp⟩ := h
  exact closD_py (hp [])
theorem Pl.notref {d : D} (h : Pl d) (i : Nat) : d ≠ .ref i := by
  rintro rfl
  obtain ⟨p, hp⟩ := h
  have := hp []
  simp [pyD] at this
end
end Lib
namespace Tk
open PySem Ev L2
theorem goL_st {f : D → Mu → R (Option D)} {j : Nat} {Pr : D → Prop} (hf : ∀ x m, St m j → (f x m).wp fun o m' => ∃ y, o = some y ∧ Pr y ∧ Stp m m' j) {xs : List D} {m : Mu} (h : St m j) : (goL f xs m).wp fun ys m' => Stp m m' j ∧ ys.length = xs.length ∧ ∀ y ∈ ys, Pr y := by
  refine wp_mono (Lib.goL_by (J := fun m => St m j) (fun a b => St a j → Stp a b j) (fun m h => .refl h) (fun a b c h1 h2 h => (h1 h).trans (h2 (h1 h).st)) (fun a b h1 h2 => (h2 h1).st) (Pr := Pr) (fun x m h => wp_mono (hf x m h) ?_) xs m h) ?_
  · rintro o m' ⟨y, e, hy, hs⟩
    exact ⟨y, e, hy, fun _ => hs⟩
  · rintro ys m' ⟨h1, h2, h3⟩
    exact ⟨h1 h, h2, h3⟩
end Tk
namespace Lib
open PySem Ev L2
def mkS (l : List Nat) : Str := ⟨l.toArray⟩
@[simp] theorem cps_mk (l : List Nat) : (mkS l).cps.toList = l := rfl
@[simp] theorem len_mk (l : List Nat) : (mkS l).length = l.length := by simp [mkS, Str.length]
def jn (s : List Nat) : List (List Nat) → List Nat
  | [] => []
  | [x] => x
  | x :: y :: r => x ++ s ++ jn s (y :: r)
section
variable {P : List Fn}
end
end Lib
namespace Lib
open PySem Ev L2
end Lib
namespace Lib
open PySem Ev L2
section
variable {C : Cl} {s : Sl} {m m' : Mu} {Q : Q4} {r : Ss}
theorem st_ite0 {c : E} {a : Ss} (h : evE C c true s m = .ok (.bl false) m') (q : (evSs C r s m').wp Q) : (evSs C (.cons (.ite c a .nil) r) s m).wp Q := by simpa [evSs, evS, h] using q
theorem st_ite1 {c : E} {a b : Ss} (h : evE C c true s m = .ok (.bl true) m') (q : (evSs C a s m').wp { Q with n := fun s m => (evSs C r s m).wp Q }) : (evSs C (.cons (.ite c a b) r) s m).wp Q := by simpa [evSs, evS, h] using q
theorem st_ex {e : E} {d : D} (h : evE C e false s m = .ok d m') (q : (evSs C r s m').wp Q) : (evSs C (.cons (.ex e) r) s m).wp Q := by simpa [evSs, evS, h] using q
theorem st_set {i : Nat} {e : E} {d : D} (h : evE C e false s m = .ok d m') (q : (evSs C r (s.set i (some d)) m').wp Q) : (evSs C (.cons (.set i e) r) s m).wp Q := by simpa [evSs, evS, h] using q
theorem st_ret {e : E} {d : D} (h : evE C e false s m = .ok d m') (q : Q.r d m') : (evSs C (.cons (.ret e) r) s m).wp Q := by simpa [evSs, evS, h] using q
theorem st_nil (q : Q.n s m) : (evSs C .nil s m).wp Q := by simpa [evSs] using q
theorem st_unp {is : List Nat} {e : E} {xs : List D} (h : evE C e false s m = .ok (.tup xs) m') (hl : xs.length = is.length) (q : (evSs C r ((is.zip xs).foldl (fun s p => s.set p.1 (some p.2)) s) m').wp Q) : (evSs C (.cons (.unp is e) r) s m).wp Q := by simpa [evSs, evS, h, unpF, setT, hl] using q
theorem st_fo {t : Tg} {it : Ev.It} {b : Ss} {xs : List D} (h : evI C it s m = .ok xs m') (q : (goF (foB C t b) xs s m').wp { Q with n := fun s m => (evSs C r s m).wp Q }) : (evSs C (.cons (.fo t it b) r) s m).wp Q := by
  simp only [evSs, evS, h, toS_k, swp_thn]
  exact q
end
end Lib
namespace K68
open PySem Ev L2
open Lib hiding St Stp Sq
inductive Ti where
  | nil
  | nd (l : Ti) (x : D) (r : Ti)
def its : Ti → List D
  | .nil => []
  | .nd l x r => its l ++ x :: its r
def szT : Ti → Nat
  | .nil => 0
  | .nd l _ r => szT l + 1 + szT r
theorem szT_len : ∀ t : Ti, (its t).length = szT t
  | .nil => rfl
  | .nd l x r => by simp [its, szT, szT_len l, szT_len r]; omega
def toD : Ti → D
  | .nil => .non
  | .nd l x r => .tup [toD l, x, toD r, .int ((szT l : Int) + 1 + (szT r : Int))]
abbrev wt (t : Ti) : Nat := szT t + 1
def ev (a b : Nat) : Prop := a ≤ 3 * b ∧ b ≤ 3 * a
def Bal : Ti → Prop
  | .nil => True
  | .nd l _ r => ev (wt l) (wt r) ∧ Bal l ∧ Bal r
def dp : Ti → Nat
  | .nil => 0
  | .nd l _ r => max (dp l) (dp r) + 1
theorem sz_nd {l r : Ti} {x : D} : szT (.nd l x r) = szT l + 1 + szT r := rfl
theorem wt_nd {l r : Ti} {x : D} : wt (.nd l x r) = wt l + wt r := by simp only [wt, szT]; omega
theorem dp_pow : ∀ t : Ti, Bal t → 4 ^ dp t ≤ 3 ^ dp t * wt t
  | .nil, _ => by simp [dp, wt, szT]
  | .nd l x r, ⟨⟨h1, h2⟩, hl, hr⟩ => by
    have il := dp_pow l hl
    have ir := dp_pow r hr
    have hw : wt (.nd l x r) = wt l + wt r := wt_nd
    rw [hw]
    simp only [dp]
    by_cases h : dp r ≤ dp l
    · rw [Nat.max_eq_left h, Nat.pow_succ, Nat.pow_succ]
      have : 4 * wt l ≤ 3 * (wt l + wt r) := by omega
      calc 4 ^ dp l * 4 ≤ 3 ^ dp l * wt l * 4 := Nat.mul_le_mul_right 4 il
        _ = 3 ^ dp l * (4 * wt l) := by rw [Nat.mul_assoc, Nat.mul_comm (wt l) 4]
        _ ≤ 3 ^ dp l * (3 * (wt l + wt r)) := Nat.mul_le_mul_left _ this
        _ = 3 ^ dp l * 3 * (wt l + wt r) := by rw [Nat.mul_assoc]
    · rw [Nat.max_eq_right (by omega), Nat.pow_succ, Nat.pow_succ]
      have : 4 * wt r ≤ 3 * (wt l + wt r) := by omega
      calc 4 ^ dp r * 4 ≤ 3 ^ dp r * wt r * 4 := Nat.mul_le_mul_right 4 ir
        _ = 3 ^ dp r * (4 * wt r) := by rw [Nat.mul_assoc, Nat.mul_comm (wt r) 4]
        _ ≤ 3 ^ dp r * (3 * (wt l + wt r)) := Nat.mul_le_mul_left _ this
        _ = 3 ^ dp r * 3 * (wt l + wt r) := by rw [Nat.mul_assoc]
theorem pow_gap : ∀ k : Nat, 3 ^ (25 + k) * 1001 < 4 ^ (25 + k)
  | 0 => by decide
  | k + 1 => by
    have := pow_gap k
    rw [show 25 + (k + 1) = (25 + k) + 1 by omega, Nat.pow_succ, Nat.pow_succ]
    omega
theorem dp_le {t : Ti} (h : Bal t) (hs : szT t ≤ 1000) : dp t ≤ 24 := by
  by_cases hd : dp t ≤ 24
  · exact hd
  · exfalso
    have h1 := dp_pow t h
    obtain ⟨k, hk⟩ : ∃ k, dp t = 25 + k := ⟨dp t - 25, by omega⟩
    rw [hk] at h1
    have h2 := pow_gap k
    have h3 : 3 ^ (25 + k) * wt t ≤ 3 ^ (25 + k) * 1001 := Nat.mul_le_mul_left _ (by simp only [wt]; omega)
    omega
section
variable {n : Nat} {m : Mu}
theorem isN0 : cmpF m .Is .non .non = some true := rfl
theorem isN1 {xs : List D} : cmpF m .Is (.tup xs) .non = some false := rfl
theorem count_ok {t : Ti} : callF P (n + 1) 0 [toD t] m = .ok (.int (szT t : Nat)) m := by
  refine eq_wp (call_wp rfl rfl ?_)
  simp only [f0, b0, ww, putI, dropI]
  cases t with
  | nil => simp [oo, ixN, isAbs, partD, -Bool.exists_bool, -Prod.exists, -Bool.not_eq_eq_eq_not, toD, isN0, finq_iff, szT]
  | nd l x r => simp [oo, ixN, isAbs, partD, -Bool.exists_bool, -Prod.exists, -Bool.not_eq_eq_eq_not, toD, isN1, finq_iff, szT]
theorem over_ok {l r : Ti} {x : D} : callF P (n + 2) 1 [toD l, x, toD r] m = .ok (toD (.nd l x r)) m := by
  refine eq_wp (call_wp rfl rfl ?_)
  simp only [f1, b1, ww, putI, dropI]
  simp [oo, ixN, isAbs, partD, -Bool.exists_bool, -Prod.exists, -Bool.not_eq_eq_eq_not, count_ok, finq_iff, toD]
def evB (a b : Nat) : Bool := decide (a + 1 ≤ 3 * (b + 1)) && decide (b + 1 ≤ 3 * (a + 1))
theorem even_ok {a b : Nat} : callF P (n + 1) 2 [.int (a : Int), .int (b : Int)] m = .ok (.bl (evB a b)) m := by
  refine eq_wp (call_wp rfl rfl ?_)
  simp only [f2, b2, ww, putI, dropI]
  have e1 : ∀ k : Int, binF m .Mult (.int 3) (.int k) = some (.int (3 * k)) := fun k => bin_mulL (by omega) (by omega)
  by_cases h : a + 1 ≤ 3 * (b + 1)
  · have hi : (a : Int) + 1 ≤ 3 * ((b : Int) + 1) := by omega
    by_cases h2 : b + 1 ≤ 3 * (a + 1)
    · have hi2 : (b : Int) + 1 ≤ 3 * ((a : Int) + 1) := by omega
      simp [oo, ixN, isAbs, partD, -Bool.exists_bool, -Prod.exists, -Bool.not_eq_eq_eq_not, e1, finq_iff, evB, h, hi, h2, hi2]
    · have hi2 : ¬ (b : Int) + 1 ≤ 3 * ((a : Int) + 1) := by omega
      simp [oo, ixN, isAbs, partD, -Bool.exists_bool, -Prod.exists, -Bool.not_eq_eq_eq_not, e1, finq_iff, evB, h, hi, h2, hi2]
  · have hi : ¬ (a : Int) + 1 ≤ 3 * ((b : Int) + 1) := by omega
    simp [oo, ixN, isAbs, partD, -Bool.exists_bool, -Prod.exists, -Bool.not_eq_eq_eq_not, e1, finq_iff, evB, h, hi]
theorem evB_iff {l r : Ti} : evB (szT l) (szT r) = true ↔ ev (wt l) (wt r) := by
  simp only [evB, Bool.and_eq_true, decide_eq_true_eq, ev]
theorem top_ok {l r : Ti} : callF P (n + 2) 3 [toD l, toD r] m = .ok (.bl (evB (szT l) (szT r))) m := by
  refine eq_wp (call_wp rfl rfl ?_)
  simp only [f3, b3, ww, putI, dropI]
  simp [oo, ixN, isAbs, partD, -Bool.exists_bool, -Prod.exists, -Bool.not_eq_eq_eq_not, count_ok, even_ok, finq_iff]
theorem rot2 {p q1 q2 b : Nat} (h1 : 1 ≤ p) (h2 : 1 ≤ q1) (h3 : 1 ≤ q2) (h4 : 1 ≤ b) (e1 : ev p (q1 + q2)) (e2 : ev q1 q2) (ha : 3 * b < p + (q1 + q2)) (hb : p + (q1 + q2) ≤ 5 * b + 1)
    (hn : ¬ (ev b (q1 + q2) ∧ ev (b + (q1 + q2)) p)) : ev p q1 ∧ ev q2 b ∧ ev (p + q1) (q2 + b) := by
  unfold ev at *
  omega
theorem rot1 {p b : Nat} (h1 : 1 ≤ p) (h4 : 1 ≤ b) (e1 : ev p 1) (ha : 3 * b < p + 1) : ev b 1 ∧ ev (b + 1) p := by
  unfold ev at *
  omega
theorem ev_comm {a b : Nat} (h : ev a b) : ev b a := ⟨h.2, h.1⟩
theorem setT4 {a b c d : Nat} {x y z w : D} {s : Sl} : setT (.tp [a, b, c, d]) (.tup [x, y, z, w]) m s = some ((((s.set a (some x)).set b (some y)).set c (some z)).set d (some w)) := by
  simp [setT]
theorem setT2 {a b : Nat} {x y : D} {s : Sl} : setT (.tp [a, b]) (.tup [x, y]) m s = some ((s.set a (some x)).set b (some y)) := by
  simp [setT]
def Cl (S : Ti → Prop) : Prop := S .nil ∧ ∀ l x r, S (.nd l x r) → S l ∧ S r
open Classical in
noncomputable def newc (S : Ti → Prop) : Ti → Nat
  | .nil => 0
  | .nd l x r => if S (.nd l x r) then 0 else newc S l + newc S r + 1
theorem newc_S {S : Ti → Prop} {t : Ti} (hS : Cl S) (h : S t) : newc S t = 0 := by
  cases t with
  | nil => rfl
  | nd l x r => rw [newc, if_pos h]
theorem newc_le (S : Ti → Prop) (l r : Ti) (x : D) : newc S (.nd l x r) ≤ newc S l + newc S r + 1 := by
  rw [newc]; split <;> omega
theorem newc_ge {S : Ti → Prop} (hS : Cl S) (l r : Ti) (x : D) : newc S l + newc S r ≤ newc S (.nd l x r) := by
  rw [newc]
  split
  · rename_i h
    have h1 := newc_S hS (hS.2 _ _ _ h).1
    have h2 := newc_S hS (hS.2 _ _ _ h).2
    omega
  · omega
def NB (t : Ti) (ls : List Ti) (c : Nat) : Prop := ∀ S : Ti → Prop, Cl S → newc S t ≤ (ls.map (newc S)).sum + c
def NS (t t' : Ti) (c : Nat) : Prop := ∀ S : Ti → Prop, Cl S → S t → newc S t' ≤ c
theorem NB.mono {t : Ti} {ls : List Ti} {c c' : Nat} (h : NB t ls c) (h2 : c ≤ c') : NB t ls c' := fun S hS => Nat.le_trans (h S hS) (by omega)
theorem nb0 {l r : Ti} {x : D} : NB (.nd l x r) [l, r] 1 := fun S hS => by
  have := newc_le S l r x
  simp; omega
theorem nb1 {l i o : Ti} {x y : D} : NB (.nd (.nd l x i) y o) [l, .nd i y o] 3 := fun S hS => by
  have h1 := newc_le S (.nd l x i) o y
  have h2 := newc_le S l i x
  have h3 := newc_ge hS i o y
  simp; omega
theorem nb2 {l b e o : Ti} {x z y : D} : NB (.nd (.nd l x b) z (.nd e y o)) [l, .nd (.nd b z e) y o] 3 := fun S hS => by
  have h1 := newc_le S (.nd l x b) (.nd e y o) z
  have h2 := newc_le S l b x
  have h3 := newc_le S e o y
  have h4 := newc_ge hS (.nd b z e) o y
  have h5 := newc_ge hS b e z
  simp; omega
theorem nb3 {o i r : Ti} {x y : D} : NB (.nd o y (.nd i x r)) [.nd o y i, r] 3 := fun S hS => by
  have h1 := newc_le S o (.nd i x r) y
  have h2 := newc_le S i r x
  have h3 := newc_ge hS o i y
  simp; omega
theorem nb4 {o b e r : Ti} {x z y : D} : NB (.nd (.nd o y b) z (.nd e x r)) [.nd o y (.nd b z e), r] 3 := fun S hS => by
  have h1 := newc_le S (.nd o y b) (.nd e x r) z
  have h2 := newc_le S o b y
  have h3 := newc_le S e r x
  have h4 := newc_ge hS o (.nd b z e) y
  have h5 := newc_ge hS b e z
  simp; omega
def stp (w : Nat) : Nat := if h : w < 2 then 0 else stp (w * 3 / 4) + 1
  termination_by w
  decreasing_by omega
theorem stp_lt {w : Nat} (h : w < 2) : stp w = 0 := by rw [stp, dif_pos h]
theorem stp_ge {w : Nat} (h : ¬ w < 2) : stp w = stp (w * 3 / 4) + 1 := by rw [stp, dif_neg h]
theorem stp_mono : ∀ {a b : Nat}, a ≤ b → stp a ≤ stp b := by
  intro a
  induction a using Nat.strongRecOn with
  | _ a ih =>
    intro b h
    by_cases ha : a < 2
    · rw [stp_lt ha]; omega
    · rw [stp_ge ha, stp_ge (show ¬ b < 2 by omega)]
      have := ih (a * 3 / 4) (by omega) (b := b * 3 / 4) (Nat.div_le_div_right (Nat.mul_le_mul_right 3 h))
      omega
theorem stp_step {a b : Nat} (h : 4 * b ≤ 3 * a) (ha : 2 ≤ a) : stp b + 1 ≤ stp a := by
  rw [stp_ge (w := a) (by omega)]
  have : stp b ≤ stp (a * 3 / 4) := stp_mono (by omega)
  omega
open Classical in
noncomputable def LB (a b : Nat) : Nat := if ev a b then 0 else 3 * (stp b - stp a) + 3 * (stp a - stp b)
theorem LB_max (a b : Nat) : LB a b ≤ 3 * max (stp a) (stp b) := by
  unfold LB; split <;> omega
theorem lb_right {a i o : Nat} (hi : 1 ≤ i) (ho : 1 ≤ o) (he : ev i o) (h : ¬ ev a (i + o)) (hlt : a < i + o) : LB a i + 3 ≤ LB a (i + o) := by
  unfold ev at *
  have h3 : 3 * a < i + o := by omega
  have q1 : stp a + 1 ≤ stp (i + o) := stp_step (by omega) (by omega)
  have q2 : stp i + 1 ≤ stp (i + o) := stp_step (by omega) (by omega)
  unfold LB
  rw [if_neg (show ¬ ev a (i + o) from h)]
  by_cases g : ev a i
  · rw [if_pos g]; omega
  · rw [if_neg g]
    unfold ev at g
    have q3 : stp a ≤ stp i := stp_mono (by omega)
    omega
theorem lb_left {b i o : Nat} (hi : 1 ≤ i) (ho : 1 ≤ o) (he : ev o i) (h : ¬ ev (o + i) b) (hlt : b ≤ o + i) : LB i b + 3 ≤ LB (o + i) b := by
  unfold ev at *
  have h3 : 3 * b < o + i := by omega
  have q1 : stp b + 1 ≤ stp (o + i) := stp_step (by omega) (by omega)
  have q2 : stp i + 1 ≤ stp (o + i) := stp_step (by omega) (by omega)
  unfold LB
  rw [if_neg (show ¬ ev (o + i) b from h)]
  by_cases g : ev i b
  · rw [if_pos g]; omega
  · rw [if_neg g]
    unfold ev at g
    have q3 : stp b ≤ stp i := stp_mono (by omega)
    omega
theorem nbR {l i o t1 t : Ti} {y : D} {c d : Nat} (h1 : NB t1 [l, i] (1 + c)) (h2 : NB t [t1, o] 3) (h : c + 3 ≤ d) : NB t [l, .nd i y o] (1 + d) := fun S hS => by
  have a1 := h1 S hS
  have a2 := h2 S hS
  have a3 := newc_ge hS i o y
  simp at a1 a2 ⊢; omega
theorem nbL {o i r t1 t : Ti} {y : D} {c d : Nat} (h1 : NB t1 [i, r] (1 + c)) (h2 : NB t [o, t1] 3) (h : c + 3 ≤ d) : NB t [.nd o y i, r] (1 + d) := fun S hS => by
  have a1 := h1 S hS
  have a2 := h2 S hS
  have a3 := newc_ge hS o i y
  simp at a1 a2 ⊢; omega
theorem nsNil {x : D} : NS .nil (.nd .nil x .nil) (1 + 3 * dp .nil) := fun S hS _ => by
  have := newc_le S .nil .nil x
  simp only [newc] at this ⊢
  omega
theorem nsLf {l r t1 t : Ti} {y : D} {c d : Nat} (h1 : NS l t1 c) (h2 : NB t [t1, r] 3) (h : c + 3 ≤ d) : NS (.nd l y r) t d := fun S hS hs => by
  have a1 := h1 S hS (hS.2 _ _ _ hs).1
  have a2 := h2 S hS
  have a3 := newc_S hS (hS.2 _ _ _ hs).2
  simp at a2; omega
theorem nsR {l r t1 t : Ti} {y : D} {c d : Nat} (h1 : NS r t1 c) (h2 : NB t [l, t1] 3) (h : c + 3 ≤ d) : NS (.nd l y r) t d := fun S hS hs => by
  have a1 := h1 S hS (hS.2 _ _ _ hs).2
  have a2 := h2 S hS
  have a3 := newc_S hS (hS.2 _ _ _ hs).1
  simp at a2; omega
theorem nsCutR {l r e t : Ti} {y : D} {c d : Nat} (h1 : NS l e (c + 3 * stp (wt e))) (h2 : NB t [e, r] (1 + LB (wt e) (wt r))) (hw : wt t = wt e + wt r) (h : c + 1 ≤ d) (h3 : wt e ≤ 3 * wt r) : NS (.nd l y r) t (d + 3 * stp (wt t)) := fun S hS hs => by
  have a1 := h1 S hS (hS.2 _ _ _ hs).1
  have a2 := h2 S hS
  have a3 := newc_S hS (hS.2 _ _ _ hs).2
  have q1 : stp (wt e) ≤ stp (wt t) := stp_mono (by omega)
  have q2 : stp (wt r) ≤ stp (wt t) := stp_mono (by omega)
  have q3 : LB (wt e) (wt r) ≤ 3 * (stp (wt r) - stp (wt e)) := by
    unfold LB
    split
    · omega
    · rename_i g
      unfold ev at g
      have : stp (wt e) ≤ stp (wt r) := stp_mono (by omega)
      omega
  simp at a2; omega
theorem nsCutL {l r b t : Ti} {y : D} {c d : Nat} (h1 : NS r b (c + 3 * stp (wt b))) (h2 : NB t [l, b] (1 + LB (wt l) (wt b))) (hw : wt t = wt l + wt b) (h : c + 1 ≤ d) (h3 : wt b ≤ 3 * wt l) : NS (.nd l y r) t (d + 3 * stp (wt t)) := fun S hS hs => by
  have a1 := h1 S hS (hS.2 _ _ _ hs).2
  have a2 := h2 S hS
  have a3 := newc_S hS (hS.2 _ _ _ hs).1
  have q1 : stp (wt b) ≤ stp (wt t) := stp_mono (by omega)
  have q2 : stp (wt l) ≤ stp (wt t) := stp_mono (by omega)
  have q3 : LB (wt l) (wt b) ≤ 3 * (stp (wt l) - stp (wt b)) := by
    unfold LB
    split
    · omega
    · rename_i g
      unfold ev at g
      have : stp (wt b) ≤ stp (wt l) := stp_mono (by omega)
      omega
  simp at a2; omega
theorem dp_stp : ∀ t : Ti, Bal t → dp t ≤ stp (wt t)
  | .nil, _ => by simp [dp]
  | .nd l x r, ⟨⟨h1, h2⟩, hl, hr⟩ => by
    have il := dp_stp l hl
    have ir := dp_stp r hr
    have hw : wt (.nd l x r) = wt l + wt r := wt_nd
    have q1 : stp (wt l) + 1 ≤ stp (wt (.nd l x r)) := stp_step (by omega) (by simp only [wt] at *; omega)
    have q2 : stp (wt r) + 1 ≤ stp (wt (.nd l x r)) := stp_step (by omega) (by simp only [wt] at *; omega)
    simp only [dp]
    omega
theorem left_ok {l i o : Ti} {x y : D} (hi : Bal i) (ho : Bal o) (hl : Bal l) (he : ev (wt i) (wt o)) (ha : 3 * wt l < wt i + wt o) (hb : wt i + wt o ≤ 5 * wt l + 1) :
    ∃ t, callF P (n + 4) 5 [toD l, x, toD (.nd i y o)] m = .ok (toD t) m ∧ Bal t ∧ its t = its l ++ x :: its (.nd i y o) ∧ NB t [l, .nd i y o] 3 := by
  by_cases h : ev (wt l) (wt i) ∧ ev (wt l + wt i) (wt o)
  · refine ⟨.nd (.nd l x i) y o, ?_, ⟨by rw [wt_nd]; exact h.2, ⟨h.1, hl, hi⟩, ho⟩, by simp [its], nb1⟩
    have e1 : evB (szT l) (szT i) = true := evB_iff.mpr h.1
    have e2 : callF P (n + 3) 2 [.int ((szT l : Int) + 1 + (szT i : Int)), .int (szT o : Int)] m = .ok (.bl true) m := by
      have := even_ok (n := n + 2) (m := m) (a := szT l + 1 + szT i) (b := szT o)
      push_cast at this
      rw [this]
      congr 2
      have h2 := h.2
      simp only [evB, Bool.and_eq_true, decide_eq_true_eq]
      unfold ev at h2
      simp only [wt] at h2
      omega
    refine eq_wp (call_wp rfl rfl ?_)
    simp only [f5, b5, ww, putI, dropI]
    have hD : toD (.nd i y o) = .tup [toD i, y, toD o, .int ((szT i : Int) + 1 + (szT o : Int))] := rfl
    rw [hD]
    simp [oo, ixN, isAbs, partD, -Bool.exists_bool, -Prod.exists, -Bool.not_eq_eq_eq_not, setT4, count_ok, even_ok, e1, e2, over_ok, finq_iff]
  · have hwi := rot1 (p := wt o) (b := wt l) (by simp) (by simp)
    cases i with
    | nil =>
      exfalso
      have q : ev (wt o) 1 := by
        have := ev_comm he
        simpa [wt, szT] using this
      obtain ⟨q1, q2⟩ := rot1 (p := wt o) (b := wt l) (by simp) (by simp) q (by simp [wt, szT] at ha ⊢; omega)
      exact h ⟨by simpa [wt, szT] using q1, by simpa [wt, szT] using q2⟩
    | nd b z e =>
      obtain ⟨hbe, hbb, hbe2⟩ := hi
      rw [wt_nd] at h he ha hb
      obtain ⟨q1, q2, q3⟩ := rot2 (p := wt o) (q1 := wt e) (q2 := wt b) (b := wt l) (by simp) (by simp) (by simp) (by simp) (by have := ev_comm he; rwa [Nat.add_comm] at this) (ev_comm hbe) (by omega) (by omega) (by rw [Nat.add_comm (wt e)]; exact h)
      refine ⟨.nd (.nd l x b) z (.nd e y o), ?_, ⟨by rw [wt_nd, wt_nd]; have := ev_comm q3; rwa [Nat.add_comm (wt b), Nat.add_comm (wt o)] at this, ⟨ev_comm q2, hl, hbb⟩, ⟨ev_comm q1, hbe2, ho⟩⟩, by simp [its], nb2⟩
      have hD : toD (.nd (.nd b z e) y o) = .tup [.tup [toD b, z, toD e, .int ((szT b : Int) + 1 + (szT e : Int))], y, toD o, .int ((szT (.nd b z e) : Int) + 1 + (szT o : Int))] := rfl
      have hc : callF P (n + 3) 0 [.tup [toD b, z, toD e, .int ((szT b : Int) + 1 + (szT e : Int))]] m = .ok (.int (szT (.nd b z e) : Nat)) m := count_ok (t := .nd b z e)
      have hf : evB (szT l) (szT (.nd b z e)) = true → callF P (n + 3) 2 [.int ((szT l : Int) + 1 + (szT (.nd b z e) : Int)), .int (szT o : Int)] m = .ok (.bl false) m := fun h1 => by
        have := even_ok (n := n + 2) (m := m) (a := szT l + 1 + szT (.nd b z e)) (b := szT o)
        push_cast at this
        rw [this]
        congr 2
        have h1' := evB_iff.mp h1
        rw [wt_nd] at h1'
        have : ¬ ev (wt l + (wt b + wt e)) (wt o) := fun z => h ⟨h1', z⟩
        rw [← Bool.not_eq_true]
        intro hz
        apply this
        simp only [evB, Bool.and_eq_true, decide_eq_true_eq] at hz
        have hs : szT (.nd b z e) = szT b + 1 + szT e := sz_nd
        rw [hs] at hz
        unfold ev
        simp only [wt]
        omega
      refine eq_wp (call_wp rfl rfl ?_)
      simp only [f5, b5, ww, putI, dropI]
      rw [hD]
      cases h1 : evB (szT l) (szT (.nd b z e)) with
      | true => simp [oo, ixN, isAbs, partD, -Bool.exists_bool, -Prod.exists, -Bool.not_eq_eq_eq_not, setT4, count_ok, hc, even_ok, h1, hf h1, over_ok, finq_iff]
      | false => simp [oo, ixN, isAbs, partD, -Bool.exists_bool, -Prod.exists, -Bool.not_eq_eq_eq_not, setT4, count_ok, hc, even_ok, h1, over_ok, finq_iff]
end
section
variable {n : Nat} {m : Mu}
theorem right_ok {o i r : Ti} {x y : D} (hi : Bal i) (ho : Bal o) (hr : Bal r) (he : ev (wt o) (wt i)) (ha : 3 * wt r < wt o + wt i) (hb : wt o + wt i ≤ 5 * wt r + 1) :
    ∃ t, callF P (n + 4) 6 [toD (.nd o y i), x, toD r] m = .ok (toD t) m ∧ Bal t ∧ its t = its (.nd o y i) ++ x :: its r ∧ NB t [.nd o y i, r] 3 := by
  by_cases h : ev (wt r) (wt i) ∧ ev (wt r + wt i) (wt o)
  · refine ⟨.nd o y (.nd i x r), ?_, ⟨by rw [wt_nd]; have := ev_comm h.2; rwa [Nat.add_comm (wt r)] at this, ho, ⟨ev_comm h.1, hi, hr⟩⟩, by simp [its], nb3⟩
    have e1 : evB (szT r) (szT i) = true := evB_iff.mpr h.1
    have e2 : callF P (n + 3) 2 [.int ((szT r : Int) + 1 + (szT i : Int)), .int (szT o : Int)] m = .ok (.bl true) m := by
      have := even_ok (n := n + 2) (m := m) (a := szT r + 1 + szT i) (b := szT o)
      push_cast at this
      rw [this]
      congr 2
      have h2 := h.2
      simp only [evB, Bool.and_eq_true, decide_eq_true_eq]
      unfold ev at h2
      simp only [wt] at h2
      omega
    refine eq_wp (call_wp rfl rfl ?_)
    simp only [f6, b6, ww, putI, dropI]
    have hD : toD (.nd o y i) = .tup [toD o, y, toD i, .int ((szT o : Int) + 1 + (szT i : Int))] := rfl
    rw [hD]
    simp [oo, ixN, isAbs, partD, -Bool.exists_bool, -Prod.exists, -Bool.not_eq_eq_eq_not, setT4, count_ok, even_ok, e1, e2, over_ok, finq_iff]
  · cases i with
    | nil =>
      exfalso
      have q : ev (wt o) 1 := by simpa [wt, szT] using he
      obtain ⟨q1, q2⟩ := rot1 (p := wt o) (b := wt r) (by simp) (by simp) q (by simp [wt, szT] at ha ⊢; omega)
      exact h ⟨by simpa [wt, szT] using q1, by simpa [wt, szT] using q2⟩
    | nd b z e =>
      obtain ⟨hbe, hbb, hbe2⟩ := hi
      rw [wt_nd] at h he ha hb
      obtain ⟨q1, q2, q3⟩ := rot2 (p := wt o) (q1 := wt b) (q2 := wt e) (b := wt r) (by simp) (by simp) (by simp) (by simp) he hbe (by omega) (by omega) h
      refine ⟨.nd (.nd o y b) z (.nd e x r), ?_, ⟨by rw [wt_nd, wt_nd]; exact q3, ⟨q1, ho, hbb⟩, ⟨q2, hbe2, hr⟩⟩, by simp [its], nb4⟩
      have hD : toD (.nd o y (.nd b z e)) = .tup [toD o, y, .tup [toD b, z, toD e, .int ((szT b : Int) + 1 + (szT e : Int))], .int ((szT o : Int) + 1 + (szT (.nd b z e) : Int))] := rfl
      have hc : callF P (n + 3) 0 [.tup [toD b, z, toD e, .int ((szT b : Int) + 1 + (szT e : Int))]] m = .ok (.int (szT (.nd b z e) : Nat)) m := count_ok (t := .nd b z e)
      have hf : evB (szT r) (szT (.nd b z e)) = true → callF P (n + 3) 2 [.int ((szT r : Int) + 1 + (szT (.nd b z e) : Int)), .int (szT o : Int)] m = .ok (.bl false) m := fun h1 => by
        have := even_ok (n := n + 2) (m := m) (a := szT r + 1 + szT (.nd b z e)) (b := szT o)
        push_cast at this
        rw [this]
        congr 2
        have h1' := evB_iff.mp h1
        rw [wt_nd] at h1'
        have : ¬ ev (wt r + (wt b + wt e)) (wt o) := fun z => h ⟨h1', z⟩
        rw [← Bool.not_eq_true]
        intro hz
        apply this
        simp only [evB, Bool.and_eq_true, decide_eq_true_eq] at hz
        have hs : szT (.nd b z e) = szT b + 1 + szT e := sz_nd
        rw [hs] at hz
        unfold ev
        simp only [wt]
        omega
      refine eq_wp (call_wp rfl rfl ?_)
      simp only [f6, b6, ww, putI, dropI]
      rw [hD]
      cases h1 : evB (szT r) (szT (.nd b z e)) with
      | true => simp [oo, ixN, isAbs, partD, -Bool.exists_bool, -Prod.exists, -Bool.not_eq_eq_eq_not, setT4, count_ok, hc, even_ok, h1, hf h1, over_ok, finq_iff]
      | false => simp [oo, ixN, isAbs, partD, -Bool.exists_bool, -Prod.exists, -Bool.not_eq_eq_eq_not, setT4, count_ok, hc, even_ok, h1, over_ok, finq_iff]
def Near (a b : Nat) : Prop := a ≤ 5 * b + 1 ∧ b ≤ 5 * a + 1
theorem evened_ok {l r : Ti} {x : D} (hl : Bal l) (hr : Bal r) (hn : Near (wt l) (wt r)) : ∃ t, callF P (n + 5) 7 [toD l, x, toD r] m = .ok (toD t) m ∧ Bal t ∧ its t = its l ++ x :: its r ∧ NB t [l, r] 3 := by
  by_cases h : ev (wt l) (wt r)
  · refine ⟨.nd l x r, ?_, ⟨h, hl, hr⟩, rfl, nb0.mono (by omega)⟩
    refine eq_wp (call_wp rfl rfl ?_)
    simp only [f7, b7, ww, putI, dropI]
    simp [oo, ixN, isAbs, partD, -Bool.exists_bool, -Prod.exists, -Bool.not_eq_eq_eq_not, top_ok, evB_iff.mpr h, over_ok, finq_iff]
  · have hb : evB (szT l) (szT r) = false := by
      rw [← Bool.not_eq_true]
      exact fun z => h (evB_iff.mp z)
    by_cases hlt : szT l < szT r
    · cases r with
      | nil => simp [szT] at hlt
      | nd i y o =>
        obtain ⟨he, hi, ho⟩ := hr
        have hw : wt (.nd i y o) = wt i + wt o := wt_nd
        rw [hw] at h hn
        have h3 : 3 * wt l < wt i + wt o := by
          have : szT (.nd i y o) = szT i + 1 + szT o := sz_nd
          rw [this] at hlt
          unfold ev at h
          simp only [wt] at h ⊢
          omega
        obtain ⟨t, e, hb2, hi2, hn2⟩ := left_ok (n := n) (m := m) (x := x) (y := y) hi ho hl he h3 (by have := hn.2; omega)
        refine ⟨t, ?_, hb2, hi2, hn2⟩
        have hlti : (szT l : Int) < (szT (.nd i y o) : Int) := by omega
        refine eq_wp (call_wp rfl rfl ?_)
        simp only [f7, b7, ww, putI, dropI]
        simp [oo, ixN, isAbs, partD, -Bool.exists_bool, -Prod.exists, -Bool.not_eq_eq_eq_not, top_ok, hb, count_ok, hlti, e, finq_iff]
    · cases l with
      | nil =>
        exfalso
        have : szT r = 0 := by simp [szT] at hlt ⊢; exact hlt
        apply h
        unfold ev
        simp only [wt, szT] at this ⊢
        simp at this ⊢
        simp [this]
      | nd o y i =>
        obtain ⟨he, ho, hi⟩ := hl
        have hw : wt (.nd o y i) = wt o + wt i := wt_nd
        rw [hw] at h hn
        have h3 : 3 * wt r < wt o + wt i := by
          have : szT (.nd o y i) = szT o + 1 + szT i := sz_nd
          rw [this] at hlt
          unfold ev at h
          simp only [wt] at h ⊢
          omega
        obtain ⟨t, e, hb2, hi2, hn2⟩ := right_ok (n := n) (m := m) (x := x) (y := y) hi ho hr he h3 (by have := hn.1; omega)
        refine ⟨t, ?_, hb2, hi2, hn2⟩
        have hlti : ¬ (szT (.nd o y i) : Int) < (szT r : Int) := by omega
        refine eq_wp (call_wp rfl rfl ?_)
        simp only [f7, b7, ww, putI, dropI]
        simp [oo, ixN, isAbs, partD, -Bool.exists_bool, -Prod.exists, -Bool.not_eq_eq_eq_not, top_ok, hb, count_ok, hlti, e, finq_iff]
theorem wt_its {t : Ti} {l r : Ti} {x : D} (h : its t = its l ++ x :: its r) : wt t = wt l + wt r := by
  have := congrArg List.length h
  simp only [List.length_append, List.length_cons, szT_len] at this
  simp only [wt]
  omega
theorem linked_ok : ∀ (k n : Nat) {l r : Ti} {x : D} {m : Mu}, dp l + dp r ≤ k → k + 6 ≤ n → Bal l → Bal r → ∃ t, callF P n 8 [toD l, x, toD r] m = .ok (toD t) m ∧ Bal t ∧ its t = its l ++ x :: its r ∧ NB t [l, r] (1 + LB (wt l) (wt r))
  | k, n, l, r, x, m, hk, hn, hl, hr => by
    obtain ⟨n, rfl⟩ : ∃ n', n = n' + 1 := ⟨n - 1, by omega⟩
    by_cases h : ev (wt l) (wt r)
    · refine ⟨.nd l x r, ?_, ⟨h, hl, hr⟩, rfl, nb0.mono (by omega)⟩
      obtain ⟨n, rfl⟩ : ∃ n', n = n' + 2 := ⟨n - 2, by omega⟩
      refine eq_wp (call_wp rfl rfl ?_)
      simp only [f8, b8, ww, putI, dropI]
      simp [oo, ixN, isAbs, partD, -Bool.exists_bool, -Prod.exists, -Bool.not_eq_eq_eq_not, top_ok, evB_iff.mpr h, over_ok, finq_iff]
    · have hb : evB (szT l) (szT r) = false := by
        rw [← Bool.not_eq_true]
        exact fun z => h (evB_iff.mp z)
      by_cases hlt : szT l < szT r
      · cases r with
        | nil => simp [szT] at hlt
        | nd i y o =>
          obtain ⟨he, hi, ho⟩ := hr
          have hw : wt (.nd i y o) = wt i + wt o := wt_nd
          rw [hw] at h
          have hs : szT (.nd i y o) = szT i + 1 + szT o := sz_nd
          simp only [dp] at hk
          obtain ⟨k, rfl⟩ : ∃ k', k = k' + 1 := ⟨k - 1, by omega⟩
          obtain ⟨t1, e1, hb1, hi1, hc1⟩ := linked_ok k n (l := l) (r := i) (x := x) (m := m) (by omega) (by omega) hl hi
          have hw1 := wt_its hi1
          have hnear : Near (wt t1) (wt o) := by
            unfold Near ev at *
            rw [hs] at hlt
            simp only [wt] at *
            omega
          obtain ⟨n, rfl⟩ : ∃ n', n = n' + 5 := ⟨n - 5, by omega⟩
          obtain ⟨t, e, hb2, hi2, hc2⟩ := evened_ok (n := n) (m := m) (x := y) hb1 ho hnear
          refine ⟨t, ?_, hb2, by rw [hi2, hi1]; simp [its], nbR hc1 hc2 (by rw [wt_nd]; exact lb_right (by simp) (by simp) he h (by rw [hs] at hlt; simp only [wt]; omega))⟩
          have hlti : (szT l : Int) < (szT (.nd i y o) : Int) := by omega
          have hD : toD (.nd i y o) = .tup [toD i, y, toD o, .int ((szT i : Int) + 1 + (szT o : Int))] := rfl
          have ht : callF P (n + 5) 3 [toD l, toD (.nd i y o)] m = .ok (.bl false) m := by rw [top_ok, hb]
          have hc : callF P (n + 5) 0 [toD (.nd i y o)] m = .ok (.int (szT (.nd i y o) : Nat)) m := count_ok
          rw [hD] at ht hc
          refine eq_wp (call_wp rfl rfl ?_)
          simp only [f8, b8, ww, putI, dropI]
          rw [hD]
          simp [oo, ixN, isAbs, partD, -Bool.exists_bool, -Prod.exists, -Bool.not_eq_eq_eq_not, ht, hc, count_ok, hlti, setT4, e1, e, finq_iff]
      · cases l with
        | nil =>
          exfalso
          have : szT r = 0 := by simp [szT] at hlt ⊢; exact hlt
          apply h
          unfold ev
          simp only [wt, szT] at this ⊢
          simp at this ⊢
          simp [this]
        | nd o y i =>
          obtain ⟨he, ho, hi⟩ := hl
          have hw : wt (.nd o y i) = wt o + wt i := wt_nd
          rw [hw] at h
          have hs : szT (.nd o y i) = szT o + 1 + szT i := sz_nd
          simp only [dp] at hk
          obtain ⟨k, rfl⟩ : ∃ k', k = k' + 1 := ⟨k - 1, by omega⟩
          obtain ⟨t1, e1, hb1, hi1, hc1⟩ := linked_ok k n (l := i) (r := r) (x := x) (m := m) (by omega) (by omega) hi hr
          have hw1 := wt_its hi1
          have hnear : Near (wt o) (wt t1) := by
            unfold Near ev at *
            rw [hs] at hlt
            simp only [wt] at *
            omega
          obtain ⟨n, rfl⟩ : ∃ n', n = n' + 5 := ⟨n - 5, by omega⟩
          obtain ⟨t, e, hb2, hi2, hc2⟩ := evened_ok (n := n) (m := m) (x := y) ho hb1 hnear
          refine ⟨t, ?_, hb2, by rw [hi2, hi1]; simp [its], nbL hc1 hc2 (by rw [wt_nd]; exact lb_left (by simp) (by simp) he h (by rw [hs] at hlt; simp only [wt]; omega))⟩
          have hlti : ¬ (szT (.nd o y i) : Int) < (szT r : Int) := by omega
          have hD : toD (.nd o y i) = .tup [toD o, y, toD i, .int ((szT o : Int) + 1 + (szT i : Int))] := rfl
          have ht : callF P (n + 5) 3 [toD (.nd o y i), toD r] m = .ok (.bl false) m := by rw [top_ok, hb]
          have hc : callF P (n + 5) 0 [toD (.nd o y i)] m = .ok (.int (szT (.nd o y i) : Nat)) m := count_ok
          rw [hD] at ht hc
          refine eq_wp (call_wp rfl rfl ?_)
          simp only [f8, b8, ww, putI, dropI]
          rw [hD]
          simp [oo, ixN, isAbs, partD, -Bool.exists_bool, -Prod.exists, -Bool.not_eq_eq_eq_not, ht, hc, count_ok, hlti, setT4, e1, e, finq_iff]
theorem tk_app {A B : List D} {n b : Nat} {y : D} (h : A.length = n) : (A ++ y :: B).take (n + (b + 1)) = A ++ y :: B.take b := by
  subst h
  rw [List.take_append]
  simp [List.take_of_length_le]
theorem dr_app {A B : List D} {n b : Nat} {y : D} (h : A.length = n) : (A ++ y :: B).drop (n + (b + 1)) = B.drop b := by
  subst h
  rw [List.drop_append]
  simp [List.drop_of_length_le]
theorem more_ok : ∀ (t : Ti) {n : Nat} {a : Nat} {x : D} {m : Mu}, Bal t → a ≤ szT t → dp t + 6 ≤ n → ∃ t', callF P n 9 [toD t, .int (a : Int), x] m = .ok (toD t') m ∧ Bal t' ∧ its t' = (its t).take a ++ x :: (its t).drop a ∧ NS t t' (1 + 3 * dp t)
  | .nil, n, a, x, m, _, ha, hn => by
    obtain ⟨n, rfl⟩ : ∃ n', n = n' + 3 := ⟨n - 3, by omega⟩
    refine ⟨.nd .nil x .nil, ?_, ⟨by simp [ev, wt, szT], trivial, trivial⟩, by simp [its], nsNil⟩
    have e : callF P (n + 2) 1 [.non, x, .non] m = .ok (toD (.nd .nil x .nil)) m := over_ok (n := n) (l := .nil) (r := .nil)
    refine eq_wp (call_wp rfl rfl ?_)
    simp only [f9, b9, ww, putI, dropI]
    simp [oo, ixN, isAbs, partD, -Bool.exists_bool, -Prod.exists, -Bool.not_eq_eq_eq_not, toD, isN0, finq_iff]
    rw [e]
    simp [finq_iff, toD]
  | .nd l y r, n, a, x, m, ⟨hev, hl, hr⟩, ha, hn => by
    simp only [dp] at hn
    obtain ⟨n, rfl⟩ : ∃ n', n = n' + 6 := ⟨n - 6, by omega⟩
    have hD : toD (.nd l y r) = .tup [toD l, y, toD r, .int ((szT l : Int) + 1 + (szT r : Int))] := rfl
    have hs : szT (.nd l y r) = szT l + 1 + szT r := sz_nd
    by_cases h1 : a ≤ szT l
    · obtain ⟨t1, e1, hb1, hi1, hc1⟩ := more_ok l (n := n + 5) (a := a) (x := x) (m := m) hl h1 (by omega)
      have hw1 : wt t1 = wt l + 1 := by
        have := congrArg List.length hi1
        simp only [List.length_append, List.length_cons, List.length_take, List.length_drop] at this
        simp only [wt, szT_len] at *
        omega
      obtain ⟨t, e, hb, hi, hc⟩ := evened_ok (n := n) (m := m) (x := y) hb1 hr (by unfold Near ev at *; simp only [wt] at *; omega)
      refine ⟨t, ?_, hb, ?_, nsLf hc1 hc (by simp only [dp]; omega)⟩
      · have hii : (a : Int) ≤ (szT l : Int) := by omega
        refine eq_wp (call_wp rfl rfl ?_)
        simp only [f9, b9, ww, putI, dropI]
        rw [hD]
        simp [oo, ixN, isAbs, partD, -Bool.exists_bool, -Prod.exists, -Bool.not_eq_eq_eq_not, isN1, setT4, count_ok, hii, e1, e, finq_iff]
      · rw [hi, hi1]
        simp only [its]
        rw [List.take_append_of_le_length (by rw [szT_len]; exact h1), List.drop_append_of_le_length (by rw [szT_len]; exact h1)]
        simp
    · have hii : ¬ (a : Int) ≤ (szT l : Int) := by omega
      obtain ⟨t1, e1, hb1, hi1, hc1⟩ := more_ok r (n := n + 5) (a := a - szT l - 1) (x := x) (m := m) hr (by omega) (by omega)
      have ea : ((a - szT l - 1 : Nat) : Int) = (a : Int) - (szT l : Int) - 1 := by omega
      rw [ea] at e1
      have hw1 : wt t1 = wt r + 1 := by
        have := congrArg List.length hi1
        simp only [List.length_append, List.length_cons, List.length_take, List.length_drop] at this
        simp only [wt, szT_len] at *
        omega
      obtain ⟨t, e, hb, hi, hc⟩ := evened_ok (n := n) (m := m) (x := y) hl hb1 (by unfold Near ev at *; simp only [wt] at *; omega)
      refine ⟨t, ?_, hb, ?_, nsR hc1 hc (by simp only [dp]; omega)⟩
      · refine eq_wp (call_wp rfl rfl ?_)
        simp only [f9, b9, ww, putI, dropI]
        rw [hD]
        simp [oo, ixN, isAbs, partD, -Bool.exists_bool, -Prod.exists, -Bool.not_eq_eq_eq_not, isN1, setT4, count_ok, hii, e1, e, finq_iff]
      · rw [hi, hi1]
        simp only [its]
        have e3 : a = szT l + ((a - szT l - 1) + 1) := by omega
        generalize a - szT l - 1 = b at *
        subst e3
        rw [tk_app (szT_len l), dr_app (szT_len l)]
        simp
end
theorem first_ok : ∀ (l : Ti) {n : Nat} {y : D} {r : Ti} {m : Mu}, Bal (.nd l y r) → dp (.nd l y r) + 6 ≤ n → ∃ x t', callF P n 10 [toD (.nd l y r)] m = .ok (.tup [x, toD t']) m ∧ Bal t' ∧ its (.nd l y r) = x :: its t' ∧ NS (.nd l y r) t' (3 * dp (.nd l y r))
  | .nil, n, y, r, m, ⟨hev, hl, hr⟩, hn => by
    obtain ⟨n, rfl⟩ : ∃ n', n = n' + 1 := ⟨n - 1, by omega⟩
    refine ⟨y, r, ?_, hr, by simp [its], fun S hS h => by rw [newc_S hS (hS.2 _ _ _ h).2]; omega⟩
    have hD : toD (.nd .nil y r) = .tup [.non, y, toD r, .int ((szT Ti.nil : Int) + 1 + (szT r : Int))] := rfl
    refine eq_wp (call_wp rfl rfl ?_)
    simp only [f10, b10, ww, putI, dropI]
    rw [hD]
    simp [oo, ixN, isAbs, partD, -Bool.exists_bool, -Prod.exists, -Bool.not_eq_eq_eq_not, setT4, isN0, finq_iff]
  | .nd a z b, n, y, r, m, ⟨hev, hl, hr⟩, hn => by
    simp only [dp] at hn
    obtain ⟨n, rfl⟩ : ∃ n', n = n' + 6 := ⟨n - 6, by omega⟩
    obtain ⟨x, t1, e1, hb1, hi1, hc1⟩ := first_ok a (n := n + 5) (y := z) (r := b) (m := m) hl (by simp only [dp]; omega)
    have hw1 : wt t1 + 1 = wt (.nd a z b) := by simp only [wt]; rw [← szT_len, ← szT_len (.nd _ _ _), hi1, List.length_cons]
    obtain ⟨t, e, hb, hi, hc⟩ := evened_ok (n := n) (m := m) (x := y) hb1 hr (by unfold Near ev at *; have : 1 ≤ wt t1 := Nat.le_add_left ..; omega)
    refine ⟨x, t, ?_, hb, by rw [hi]; simp only [its] at hi1 ⊢; rw [hi1]; rfl, nsLf hc1 hc (by simp only [dp]; omega)⟩
    have hD : toD (.nd (.nd a z b) y r) = .tup [toD (.nd a z b), y, toD r, .int ((szT (.nd a z b) : Int) + 1 + (szT r : Int))] := rfl
    have hN : cmpF m .Is (toD (.nd a z b)) .non = some false := rfl
    refine eq_wp (call_wp rfl rfl ?_)
    simp only [f10, b10, ww, putI, dropI]
    rw [hD]
    simp [oo, ixN, isAbs, partD, -Bool.exists_bool, -Prod.exists, -Bool.not_eq_eq_eq_not, setT4, setT2, hN, e1, e, finq_iff]
theorem behind_ok {n : Nat} {a b : Ti} {m : Mu} (ha : Bal a) (hb : Bal b) (hs : szT a + szT b ≤ 1000) (hn : 60 ≤ n) : ∃ t, callF P n 11 [toD a, toD b] m = .ok (toD t) m ∧ Bal t ∧ its t = its a ++ its b ∧ ∀ S, Cl S → S a → S b → newc S t ≤ 3 * dp b + 1 + 3 * max (stp (wt a)) (stp (wt b)) := by
  obtain ⟨n, rfl⟩ : ∃ n', n = n' + 1 := ⟨n - 1, by omega⟩
  cases b with
  | nil =>
    refine ⟨a, ?_, ha, by simp [its], fun S hS h _ => by rw [newc_S hS h]; omega⟩
    refine eq_wp (call_wp rfl rfl ?_)
    simp only [f11, b11, ww, putI, dropI]
    simp [oo, ixN, isAbs, partD, -Bool.exists_bool, -Prod.exists, -Bool.not_eq_eq_eq_not, toD, isN0, finq_iff]
  | nd l y r =>
    have hd := dp_le hb (by omega)
    obtain ⟨x, t1, e1, hb1, hi1, hc1⟩ := first_ok l (n := n) (m := m) hb (by omega)
    have hs1 : szT (.nd l y r) = szT t1 + 1 := by rw [← szT_len, hi1, List.length_cons, szT_len]
    have hd1 := dp_le hb1 (by omega)
    have hda := dp_le ha (by omega)
    obtain ⟨t, e, hb2, hi2, hc2⟩ := linked_ok 48 n (x := x) (m := m) (show dp a + dp t1 ≤ 48 by omega) (by omega) ha hb1
    refine ⟨t, ?_, hb2, by rw [hi2, hi1], fun S hS h1 h2 => by
      have z1 := hc2 S hS
      have z2 := hc1 S hS h2
      have z3 := newc_S hS h1
      have z4 := LB_max (wt a) (wt t1)
      have z5 : stp (wt t1) ≤ stp (wt (.nd l y r)) := stp_mono (by simp only [wt]; omega)
      simp only [List.map_cons, List.map_nil, List.sum_cons, List.sum_nil] at z1
      omega⟩
    have hN : cmpF m .Is (toD (.nd l y r)) .non = some false := rfl
    refine eq_wp (call_wp rfl rfl ?_)
    simp only [f11, b11, ww, putI, dropI]
    simp [oo, ixN, isAbs, partD, -Bool.exists_bool, -Prod.exists, -Bool.not_eq_eq_eq_not, hN, e1, setT2, e, finq_iff]
theorem out_ok : ∀ (t : Ti) {n : Nat} {a : Nat} {m : Mu}, Bal t → a < szT t → dp t + 7 ≤ n → ∃ t', callF P n 12 [toD t, .int (a : Int)] m = .ok (toD t') m ∧ Bal t' ∧ its t' = (its t).take a ++ (its t).drop (a + 1) ∧ NS t t' (3 * dp t)
  | .nil, n, a, m, _, ha, hn => by simp [szT] at ha
  | .nd l y r, n, a, m, ⟨hev, hl, hr⟩, ha, hn => by
    simp only [dp] at hn
    obtain ⟨n, rfl⟩ : ∃ n', n = n' + 6 := ⟨n - 6, by omega⟩
    have hD : toD (.nd l y r) = .tup [toD l, y, toD r, .int ((szT l : Int) + 1 + (szT r : Int))] := rfl
    have hs : szT (.nd l y r) = szT l + 1 + szT r := sz_nd
    by_cases h1 : a < szT l
    · obtain ⟨t1, e1, hb1, hi1, hc1⟩ := out_ok l (n := n + 5) (a := a) (m := m) hl h1 (by omega)
      have hw1 : wt t1 + 1 = wt l := by
        have := congrArg List.length hi1
        simp only [List.length_append, List.length_take, List.length_drop] at this
        simp only [wt, szT_len] at *
        omega
      obtain ⟨t, e, hb, hi, hc⟩ := evened_ok (n := n) (m := m) (x := y) hb1 hr (by unfold Near ev at *; have : 1 ≤ wt t1 := Nat.le_add_left ..; omega)
      refine ⟨t, ?_, hb, ?_, nsLf hc1 hc (by simp only [dp]; omega)⟩
      · have hii : (a : Int) < (szT l : Int) := by omega
        refine eq_wp (call_wp rfl rfl ?_)
        simp only [f12, b12, ww, putI, dropI]
        rw [hD]
        simp [oo, ixN, isAbs, partD, -Bool.exists_bool, -Prod.exists, -Bool.not_eq_eq_eq_not, setT4, count_ok, hii, e1, e, finq_iff]
      · rw [hi, hi1]
        simp only [its]
        rw [List.take_append_of_le_length (by rw [szT_len]; omega), List.drop_append_of_le_length (by rw [szT_len]; omega)]
        simp
    · have hii : ¬ (a : Int) < (szT l : Int) := by omega
      by_cases h2 : szT l < a
      · have hii2 : (szT l : Int) < (a : Int) := by omega
        obtain ⟨t1, e1, hb1, hi1, hc1⟩ := out_ok r (n := n + 5) (a := a - szT l - 1) (m := m) hr (by omega) (by omega)
        have ea : ((a - szT l - 1 : Nat) : Int) = (a : Int) - (szT l : Int) - 1 := by omega
        rw [ea] at e1
        have hw1 : wt t1 + 1 = wt r := by
          have := congrArg List.length hi1
          simp only [List.length_append, List.length_take, List.length_drop] at this
          simp only [wt, szT_len] at *
          omega
        obtain ⟨t, e, hb, hi, hc⟩ := evened_ok (n := n) (m := m) (x := y) hl hb1 (by unfold Near ev at *; have : 1 ≤ wt t1 := Nat.le_add_left ..; omega)
        refine ⟨t, ?_, hb, ?_, nsR hc1 hc (by simp only [dp]; omega)⟩
        · refine eq_wp (call_wp rfl rfl ?_)
          simp only [f12, b12, ww, putI, dropI]
          rw [hD]
          simp [oo, ixN, isAbs, partD, -Bool.exists_bool, -Prod.exists, -Bool.not_eq_eq_eq_not, setT4, count_ok, hii, hii2, e1, e, finq_iff]
        · rw [hi, hi1]
          simp only [its]
          have e3 : a = szT l + ((a - szT l - 1) + 1) := by omega
          generalize a - szT l - 1 = b at *
          subst e3
          rw [show szT l + (b + 1) + 1 = szT l + ((b + 1) + 1) by omega, tk_app (szT_len l), dr_app (szT_len l)]
          simp
      · have hii2 : ¬ (szT l : Int) < (a : Int) := by omega
        have h3 : a = szT l := by omega
        have hti : (its (.nd l y r)).take a ++ (its (.nd l y r)).drop (a + 1) = its l ++ its r := by
          rw [h3]
          simp only [its]
          have := dr_app (A := its l) (B := its r) (b := 0) (y := y) (szT_len l)
          rw [List.take_append_of_le_length (by rw [szT_len]; omega), this, List.take_of_length_le (by rw [szT_len]; omega)]
          simp
        cases l with
        | nil =>
          refine ⟨r, ?_, hr, by rw [hti]; simp [its], fun S hS h => by rw [newc_S hS (hS.2 _ _ _ h).2]; omega⟩
          have hc : callF P (n + 5) 0 [.non] m = .ok (.int 0) m := count_ok (t := .nil)
          have hsz : (a : Int) = 0 := by rw [h3]; simp [szT]
          have hD : toD (.nd .nil y r) = .tup [.non, y, toD r, .int ((szT Ti.nil : Int) + 1 + (szT r : Int))] := rfl
          refine eq_wp (call_wp rfl rfl ?_)
          simp only [f12, b12, ww, putI, dropI]
          rw [hD]
          simp [oo, ixN, isAbs, partD, -Bool.exists_bool, -Prod.exists, -Bool.not_eq_eq_eq_not, setT4, hc, hsz, isN0, truthD, finq_iff]
        | nd a1 z1 b1 =>
          have hN : ∀ m, cmpF m .Is (toD (.nd a1 z1 b1)) .non = some false := fun _ => rfl
          cases r with
          | nil =>
            refine ⟨.nd a1 z1 b1, ?_, hl, by rw [hti]; simp [its], fun S hS h => by rw [newc_S hS (hS.2 _ _ _ h).1]; omega⟩
            have hD : toD (.nd (.nd a1 z1 b1) y .nil) = .tup [toD (.nd a1 z1 b1), y, .non, .int ((szT (.nd a1 z1 b1) : Int) + 1 + (szT Ti.nil : Int))] := rfl
            have hT : truthD m (toD (.nd a1 z1 b1)) = some true := rfl
            refine eq_wp (call_wp rfl rfl ?_)
            simp only [f12, b12, ww, putI, dropI]
            rw [hD]
            simp [oo, ixN, isAbs, partD, -Bool.exists_bool, -Prod.exists, -Bool.not_eq_eq_eq_not, setT4, count_ok, h3, hN, isN0, hT, finq_iff]
          | nd a2 z2 b2 =>
            have hN2 : ∀ m, cmpF m .Is (toD (.nd a2 z2 b2)) .non = some false := fun _ => rfl
            obtain ⟨x, t1, e1, hb1, hi1, hc1⟩ := first_ok a2 (n := n + 5) (y := z2) (r := b2) (m := m) hr (by omega)
            have hw1 : wt t1 + 1 = wt (.nd a2 z2 b2) := by simp only [wt]; rw [← szT_len, ← szT_len (.nd _ _ _), hi1, List.length_cons]
            obtain ⟨t, e, hb, hi, hc⟩ := evened_ok (n := n) (m := m) (x := x) hl hb1 (by unfold Near ev at *; have : 1 ≤ wt t1 := Nat.le_add_left ..; omega)
            refine ⟨t, ?_, hb, by rw [hti, hi, hi1], nsR hc1 hc (by simp only [dp]; omega)⟩
            refine eq_wp (call_wp rfl rfl ?_)
            simp only [f12, b12, ww, putI, dropI]
            rw [hD]
            simp [oo, ixN, isAbs, partD, -Bool.exists_bool, -Prod.exists, -Bool.not_eq_eq_eq_not, setT4, setT2, count_ok, h3, hN, hN2, e1, e, finq_iff]
theorem cut_ok : ∀ (t : Ti) {n : Nat} {a : Nat} {m : Mu}, Bal t → a ≤ szT t → szT t ≤ 1000 → dp t + 56 ≤ n → ∃ b e, callF P n 13 [toD t, .int (a : Int)] m = .ok (.tup [toD b, toD e]) m ∧ Bal b ∧ Bal e ∧ its b = (its t).take a ∧ its e = (its t).drop a ∧ NS t b (dp t + 3 * stp (wt b)) ∧ NS t e (dp t + 3 * stp (wt e))
  | .nil, n, a, m, _, ha, _, hn => by
    obtain ⟨n, rfl⟩ : ∃ n', n = n' + 1 := ⟨n - 1, by omega⟩
    refine ⟨.nil, .nil, ?_, trivial, trivial, by simp [its], by simp [its], fun S hS h => by rw [newc_S hS h]; omega, fun S hS h => by rw [newc_S hS h]; omega⟩
    refine eq_wp (call_wp rfl rfl ?_)
    simp only [f13, b13, ww, putI, dropI]
    simp [oo, ixN, isAbs, partD, -Bool.exists_bool, -Prod.exists, -Bool.not_eq_eq_eq_not, toD, isN0, finq_iff]
  | .nd l y r, n, a, m, ⟨hev, hl, hr⟩, ha, h1000, hn => by
    have hdt := dp_le (t := .nd l y r) ⟨hev, hl, hr⟩ h1000
    simp only [dp] at hn hdt
    obtain ⟨n, rfl⟩ : ∃ n', n = n' + 1 := ⟨n - 1, by omega⟩
    have hD : toD (.nd l y r) = .tup [toD l, y, toD r, .int ((szT l : Int) + 1 + (szT r : Int))] := rfl
    have hs : szT (.nd l y r) = szT l + 1 + szT r := sz_nd
    have hc : ∀ t : Ti, callF P n 0 [toD t] m = .ok (.int (szT t : Nat)) m := fun t => by
      obtain ⟨k, rfl⟩ : ∃ k, n = k + 1 := ⟨n - 1, by omega⟩
      exact count_ok
    by_cases h1 : a ≤ szT l
    · have hii : (a : Int) ≤ (szT l : Int) := by omega
      obtain ⟨b, e, e1, hb, he, hib, hie, hcb, hce⟩ := cut_ok l (n := n) (a := a) (m := m) hl h1 (by omega) (by omega)
      have hse : szT e ≤ 1000 := by
        have := congrArg List.length hie
        simp only [List.length_drop] at this
        simp only [szT_len] at *
        omega
      have hde := dp_le he hse
      obtain ⟨t, e2, hbt, hit, hct⟩ := linked_ok 48 n (x := y) (m := m) (show dp e + dp r ≤ 48 by omega) (by omega) he hr
      refine ⟨b, t, ?_, hb, hbt, ?_, ?_, fun S hS h => Nat.le_trans (hcb S hS (hS.2 _ _ _ h).1) (by simp only [dp]; omega), nsCutR hce hct (wt_its hit) (by simp only [dp]; omega) (by have := congrArg List.length hie; simp only [List.length_drop] at this; simp only [szT_len] at this; unfold ev at hev; simp only [wt] at hev ⊢; omega)⟩
      · refine eq_wp (call_wp rfl rfl ?_)
        simp only [f13, b13, ww, putI, dropI]
        rw [hD]
        simp [oo, ixN, isAbs, partD, -Bool.exists_bool, -Prod.exists, -Bool.not_eq_eq_eq_not, isN1, setT4, setT2, hc, hii, e1, e2, finq_iff]
      · rw [hib]
        simp only [its]
        rw [List.take_append_of_le_length (by rw [szT_len]; exact h1)]
      · rw [hit, hie]
        simp only [its]
        rw [List.drop_append_of_le_length (by rw [szT_len]; exact h1)]
    · have hii : ¬ (a : Int) ≤ (szT l : Int) := by omega
      obtain ⟨b, e, e1, hb, he, hib, hie, hcb, hce⟩ := cut_ok r (n := n) (a := a - szT l - 1) (m := m) hr (by omega) (by omega) (by omega)
      have ea : ((a - szT l - 1 : Nat) : Int) = (a : Int) - (szT l : Int) - 1 := by omega
      rw [ea] at e1
      have hse : szT b ≤ 1000 := by
        have := congrArg List.length hib
        simp only [List.length_take] at this
        simp only [szT_len] at *
        omega
      have hde := dp_le hb hse
      obtain ⟨t, e2, hbt, hit, hct⟩ := linked_ok 48 n (x := y) (m := m) (show dp l + dp b ≤ 48 by omega) (by omega) hl hb
      have e3 : a = szT l + ((a - szT l - 1) + 1) := by omega
      refine ⟨t, e, ?_, hbt, he, ?_, ?_, nsCutL hcb hct (wt_its hit) (by simp only [dp]; omega) (by have := congrArg List.length hib; simp only [List.length_take] at this; simp only [szT_len] at this; unfold ev at hev; simp only [wt] at hev ⊢; omega), fun S hS h => Nat.le_trans (hce S hS (hS.2 _ _ _ h).2) (by simp only [dp]; omega)⟩
      · refine eq_wp (call_wp rfl rfl ?_)
        simp only [f13, b13, ww, putI, dropI]
        rw [hD]
        simp [oo, ixN, isAbs, partD, -Bool.exists_bool, -Prod.exists, -Bool.not_eq_eq_eq_not, isN1, setT4, setT2, hc, hii, e1, e2, finq_iff]
      · rw [hit, hib]
        simp only [its]
        generalize a - szT l - 1 = c at *
        subst e3
        rw [tk_app (szT_len l)]
      · rw [hie]
        simp only [its]
        generalize a - szT l - 1 = c at *
        subst e3
        rw [dr_app (szT_len l)]
theorem slT {m : Mu} {xs : List D} {a : Nat} : slF m (.lst xs) none (some (a : Int)) = some (.lst (xs.take a)) := by
  simp [slF, seqD, cut_take]
theorem slD {m : Mu} {xs : List D} {a : Nat} : slF m (.lst xs) (some (a : Int)) none = some (.lst (xs.drop a)) := by
  simp [slF, seqD, cut_drop]
theorem halves_ok : ∀ (k n : Nat) {xs : List D} {m : Mu}, xs.length < 2 ^ k → k + 3 ≤ n → ∃ t, callF P n 4 [.lst xs] m = .ok (toD t) m ∧ Bal t ∧ its t = xs
  | k, n, [], m, _, hn => by
    obtain ⟨n, rfl⟩ : ∃ n', n = n' + 1 := ⟨n - 1, by omega⟩
    refine ⟨.nil, ?_, trivial, rfl⟩
    have e0 : cmpF m .Eq (.lst []) (.lst []) = some true := Lib.eqL
    refine eq_wp (call_wp rfl rfl ?_)
    simp only [f4, b4, ww, putI, dropI]
    simp [oo, ixN, isAbs, partD, -Bool.exists_bool, -Prod.exists, -Bool.not_eq_eq_eq_not, e0, finq_iff, toD]
  | 0, n, x :: r, m, h, _ => by simp at h
  | k + 1, n, x :: r, m, h, hn => by
    obtain ⟨n, rfl⟩ : ∃ n', n = n' + 3 := ⟨n - 3, by omega⟩
    generalize hxs : x :: r = xs at *
    have hne : xs.isEmpty = false := by rw [← hxs]; rfl
    have hpos : 0 < xs.length := by rw [← hxs]; simp
    rw [Nat.pow_succ] at h
    have hlt : xs.length / 2 < xs.length := Nat.div_lt_self hpos (by omega)
    obtain ⟨t1, e1, hb1, hi1⟩ := halves_ok k (n + 2) (xs := xs.take (xs.length / 2)) (m := m) (by rw [List.length_take]; omega) (by omega)
    obtain ⟨t2, e2, hb2, hi2⟩ := halves_ok k (n + 2) (xs := xs.drop (xs.length / 2 + 1)) (m := m) (by rw [List.length_drop]; omega) (by omega)
    have l1 := congrArg List.length hi1
    have l2 := congrArg List.length hi2
    rw [List.length_take, szT_len] at l1
    rw [List.length_drop, szT_len] at l2
    refine ⟨.nd t1 xs[xs.length / 2] t2, ?_, ⟨by unfold ev; simp only [wt]; omega, hb1, hb2⟩, ?_⟩
    · have e0 : cmpF m .Eq (.lst xs) (.lst []) = some false := by rw [Lib.eqL, hne]
      have ed : binF m .FloorDiv (.int (xs.length : Int)) (.int 2) = some (.int ((xs.length / 2 : Nat) : Int)) := by
        simp only [binF, fdivF]
        rw [if_pos (by omega)]
        congr 1
      have ex : atI xs ((xs.length / 2 : Nat) : Int) = some xs[xs.length / 2] := by
        rw [at_pos (by omega), Int.toNat_natCast, List.getElem?_eq_getElem hlt]
      have es := slD (m := m) (xs := xs) (a := xs.length / 2 + 1)
      push_cast at es ed ex
      have et := slT (m := m) (xs := xs) (a := xs.length / 2)
      push_cast at et
      refine eq_wp (call_wp rfl rfl ?_)
      simp only [f4, b4, ww, putI, dropI]
      simp [oo, ixN, isAbs, partD, -Bool.exists_bool, -Prod.exists, -Bool.not_eq_eq_eq_not, e0, ed, ex, es, et, e1, e2, over_ok, finq_iff]
    · simp only [its, hi1, hi2]
      rw [List.getElem_cons_drop, List.take_append_drop]
end K68
namespace Rp
open PySem
def ch (s : Str) : List Nat := s.cps.toList
theorem ch_of (s : String) : ch (Str.ofString s) = s.toList.map Char.toNat := by simp [ch, Str.ofString_eq_toList]
theorem ch_app (a b : Str) : ch (a ++ b) = ch a ++ ch b := by
  show (a.cps ++ b.cps).toList = _
  simp [ch]
def dg (n : Nat) : List Nat := (Nat.toDigits 10 n).map Char.toNat
theorem dg_dig {n c : Nat} (h : c ∈ dg n) : 48 ≤ c ∧ c ≤ 57 := by
  obtain ⟨x, hx, rfl⟩ := List.mem_map.mp h
  have := Nat.isDigit_of_mem_toDigits (by decide) (by decide) hx
  simp only [Char.isDigit, Bool.and_eq_true, decide_eq_true_eq] at this
  exact ⟨this.1, this.2⟩
theorem dg_inj {a b : Nat} (h : dg a = dg b) : a = b := by
  have h2 : Nat.toDigits 10 a = Nat.toDigits 10 b := (List.map_inj_right fun x y e => Char.toNat_inj.mp e) |>.mp h
  have h3 := congrArg (fun l => Nat.ofDigitChars 10 l 0) h2
  simpa using h3
theorem dg_ne (n : Nat) : dg n ≠ [] := by simp [dg]
def dl (s : List Nat) : Prop := ∀ c r, s = c :: r → c = 44 ∨ c = 41 ∨ c = 93
theorem dig_cut : ∀ {a b s t : List Nat}, (∀ c ∈ a, 48 ≤ c ∧ c ≤ 57) → (∀ c ∈ b, 48 ≤ c ∧ c ≤ 57) → dl s → dl t → a ++ s = b ++ t → a = b ∧ s = t
  | [], [], _, _, _, _, _, _, h => ⟨rfl, h⟩
  | [], c :: b, s, t, _, hb, hs, _, h => by
    have h1 := hb c (List.mem_cons_self ..)
    have h2 := hs c (b ++ t) h
    omega
  | c :: a, [], s, t, ha, _, _, ht, h => by
    have h1 := ha c (List.mem_cons_self ..)
    have h2 := ht c (a ++ s) h.symm
    omega
  | c :: a, d :: b, s, t, ha, hb, hs, ht, h => by
    simp only [List.cons_append, List.cons.injEq] at h
    obtain ⟨h1, h2⟩ := dig_cut (fun x hx => ha x (List.mem_cons_of_mem _ hx)) (fun x hx => hb x (List.mem_cons_of_mem _ hx)) hs ht h.2
    exact ⟨by rw [h.1, h1], h2⟩
def ti : Int → List Nat
  | .ofNat n => dg n
  | .negSucc n => 45 :: dg (n + 1)
theorem ti_ch (i : Int) : ch (Str.ofString (toString i)) = ti i := by
  rw [ch_of]
  cases i with
  | ofNat n => show (Nat.repr n).toList.map Char.toNat = _; simp [ti, dg]
  | negSucc n => show ("-" ++ Nat.repr (n + 1)).toList.map Char.toNat = _; simp [ti, dg]
theorem ti_inj {i j : Int} {s t : List Nat} (hs : dl s) (ht : dl t) (h : ti i ++ s = ti j ++ t) : i = j ∧ s = t := by
  have neg : ∀ {n m : Nat} {s t : List Nat}, dl s → dg n ++ s = (45 :: dg m) ++ t → False := fun {n m s t} hs h => by
    cases hn : dg n with
    | nil => exact dg_ne n hn
    | cons c r =>
      rw [hn] at h
      simp only [List.cons_append, List.cons.injEq] at h
      have := dg_dig (n := n) (c := c) (by rw [hn]; exact List.mem_cons_self ..)
      omega
  cases i with
  | ofNat n =>
    cases j with
    | ofNat m =>
      obtain ⟨h1, h2⟩ := dig_cut (fun c hc => dg_dig hc) (fun c hc => dg_dig hc) hs ht h
      exact ⟨by rw [dg_inj h1], h2⟩
    | negSucc m => exact (neg hs h).elim
  | negSucc n =>
    cases j with
    | ofNat m => exact (neg ht h.symm).elim
    | negSucc m =>
      simp only [ti, List.cons_append, List.cons.injEq, true_and] at h
      obtain ⟨h1, h2⟩ := dig_cut (fun c hc => dg_dig hc) (fun c hc => dg_dig hc) hs ht h
      have := dg_inj h1
      exact ⟨by rw [show n = m by omega], h2⟩
mutual
def cls : PyData → Bool
  | .none => true
  | .bool _ => true
  | .int _ => true
  | .str x => decide (x = ("" : Str))
  | .list xs => clss xs
  | .tuple xs => clss xs
  | .dict kvs => kvs.isEmpty
def clss : List PyData → Bool
  | [] => true
  | p :: r => cls p && clss r
end
mutual
def tx : PyData → List Nat
  | .none => [78, 111, 110, 101]
  | .bool b => if b then [84, 114, 117, 101] else [70, 97, 108, 115, 101]
  | .int i => ti i
  | .str _ => [39, 39]
  | .list xs => 91 :: (txs xs ++ [93])
  | .tuple xs => 40 :: (txs xs ++ (if xs.length = 1 then [44, 41] else [41]))
  | .dict _ => [123, 125]
def txs : List PyData → List Nat
  | [] => []
  | p :: r => tx p ++ txr r
def txr : List PyData → List Nat
  | [] => []
  | p :: r => 44 :: 32 :: (tx p ++ txr r)
end
theorem tx_hd : ∀ p : PyData, ∃ c r, tx p = c :: r ∧ c ≠ 41 ∧ c ≠ 93 ∧ c ≠ 44
  | .none => ⟨_, _, rfl, by decide, by decide, by decide⟩
  | .bool true => ⟨84, [114, 117, 101], by simp [tx], by decide, by decide, by decide⟩
  | .bool false => ⟨70, [97, 108, 115, 101], by simp [tx], by decide, by decide, by decide⟩
  | .int (.ofNat n) => by
    cases hn : dg n with
    | nil => exact (dg_ne n hn).elim
    | cons c r =>
      have := dg_dig (n := n) (c := c) (by rw [hn]; exact List.mem_cons_self ..)
      exact ⟨c, r, by simp [tx, ti, hn], by omega, by omega, by omega⟩
  | .int (.negSucc n) => ⟨45, dg (n + 1), by simp [tx, ti], by decide, by decide, by decide⟩
  | .str _ => ⟨39, [39], by simp [tx], by decide, by decide, by decide⟩
  | .list xs => ⟨91, _, by rw [tx], by decide, by decide, by decide⟩
  | .tuple xs => ⟨40, _, by rw [tx], by decide, by decide, by decide⟩
  | .dict _ => ⟨123, [125], by simp [tx], by decide, by decide, by decide⟩
def tl (u : List Nat) : Prop := (∃ r, u = 93 :: r) ∨ (∃ r, u = 41 :: r) ∨ ∃ r, u = 44 :: 41 :: r
theorem tl_dl {u : List Nat} (h : tl u) : dl u := by
  rintro c r rfl
  rcases h with ⟨r, e⟩ | ⟨r, e⟩ | ⟨r, e⟩ <;> · simp only [List.cons.injEq] at e; omega
theorem txr_dl {xs : List PyData} {u : List Nat} (h : tl u) : dl (txr xs ++ u) := by
  cases xs with
  | nil => simpa [txr] using tl_dl h
  | cons p r =>
    rintro c s e
    simp only [txr, List.cons_append, List.cons.injEq] at e
    omega
theorem tl_ne {u : List Nat} (h : tl u) {r : List Nat} : u ≠ 44 :: 32 :: r := by
  rintro rfl
  rcases h with ⟨r, e⟩ | ⟨r, e⟩ | ⟨r, e⟩ <;> simp at e
theorem ti_hd (i : Int) : ∃ c r, ti i = c :: r ∧ (c = 45 ∨ (48 ≤ c ∧ c ≤ 57)) := by
  cases i with
  | ofNat n =>
    cases hn : dg n with
    | nil => exact (dg_ne n hn).elim
    | cons c r => exact ⟨c, r, hn, .inr (dg_dig (n := n) (by rw [hn]; exact List.mem_cons_self ..))⟩
  | negSucc n => exact ⟨45, _, rfl, .inl rfl⟩
def k1 : PyData → Nat → Prop
  | .none, c => c = 78
  | .bool b, c => c = if b then 84 else 70
  | .int _, c => c = 45 ∨ (48 ≤ c ∧ c ≤ 57)
  | .str _, c => c = 39
  | .list _, c => c = 91
  | .tuple _, c => c = 40
  | .dict _, c => c = 123
theorem tx_k1 : ∀ p : PyData, ∃ c r, tx p = c :: r ∧ k1 p c
  | .none => ⟨_, _, rfl, rfl⟩
  | .bool true => ⟨84, [114, 117, 101], by simp [tx], rfl⟩
  | .bool false => ⟨70, [97, 108, 115, 101], by simp [tx], rfl⟩
  | .int i => by
    obtain ⟨c, r, h1, h2⟩ := ti_hd i
    exact ⟨c, r, by rw [tx, h1], h2⟩
  | .str _ => ⟨39, [39], by simp [tx], rfl⟩
  | .list xs => ⟨91, _, by rw [tx], rfl⟩
  | .tuple xs => ⟨40, _, by rw [tx], rfl⟩
  | .dict _ => ⟨123, [125], by simp [tx], rfl⟩
theorem tu_tl (n : Nat) (s : List Nat) : tl ((if n = 1 then [44, 41] else [41]) ++ s) := by
  by_cases h : n = 1
  · rw [if_pos h]; exact .inr (.inr ⟨s, rfl⟩)
  · rw [if_neg h]; exact .inr (.inl ⟨s, rfl⟩)
mutual
theorem tx_inj : ∀ (p q : PyData) (s t : List Nat), cls p = true → cls q = true → dl s → dl t → tx p ++ s = tx q ++ t → p = q ∧ s = t
  | p, q, s, t, hp, hq, hs, ht, h => by
    obtain ⟨c, r, e1, c1⟩ := tx_k1 p
    obtain ⟨d, r', e2, d1⟩ := tx_k1 q
    have hcd : c = d := by
      rw [e1, e2] at h
      simp only [List.cons_append, List.cons.injEq] at h
      exact h.1
    subst hcd
    match p, q, hp, hq, h, c1, d1 with
    | .none, .none, _, _, h, _, _ => exact ⟨rfl, List.append_cancel_left h⟩
    | .bool true, .bool true, _, _, h, _, _ => exact ⟨rfl, List.append_cancel_left h⟩
    | .bool false, .bool false, _, _, h, _, _ => exact ⟨rfl, List.append_cancel_left h⟩
    | .int i, .int j, _, _, h, _, _ =>
      rw [tx, tx] at h
      obtain ⟨h1, h2⟩ := ti_inj hs ht h
      exact ⟨by rw [h1], h2⟩
    | .str x, .str y, hp, hq, h, _, _ =>
      simp only [cls, decide_eq_true_eq] at hp hq
      exact ⟨by rw [hp, hq], List.append_cancel_left h⟩
    | .dict a, .dict b, hp, hq, h, _, _ =>
      simp only [cls, List.isEmpty_iff] at hp hq
      exact ⟨by rw [hp, hq], List.append_cancel_left h⟩
    | .list xs, .list ys, hp, hq, h, _, _ =>
      simp only [cls] at hp hq
      simp only [tx, List.cons_append, List.append_assoc, List.cons.injEq, true_and, List.nil_append] at h
      obtain ⟨h1, h2⟩ := txs_inj xs ys _ _ hp hq (.inl ⟨s, rfl⟩) (.inl ⟨t, rfl⟩) h
      simp only [List.cons.injEq, true_and] at h2
      exact ⟨by rw [h1], h2⟩
    | .tuple xs, .tuple ys, hp, hq, h, _, _ =>
      simp only [cls] at hp hq
      simp only [tx, List.cons_append, List.append_assoc, List.cons.injEq, true_and] at h
      obtain ⟨h1, h2⟩ := txs_inj xs ys _ _ hp hq (tu_tl _ s) (tu_tl _ t) h
      subst h1
      exact ⟨rfl, List.append_cancel_left h2⟩
    | .bool true, .bool false, _, _, _, c1, d1 => simp [k1] at c1 d1; omega
    | .bool false, .bool true, _, _, _, c1, d1 => simp [k1] at c1 d1; omega
    | .none, .bool true, _, _, _, c1, d1 => simp [k1] at c1 d1; omega
    | .none, .bool false, _, _, _, c1, d1 => simp [k1] at c1 d1; omega
    | .none, .int _, _, _, _, c1, d1 => simp [k1] at c1 d1; omega
    | .none, .str _, _, _, _, c1, d1 => simp [k1] at c1 d1; omega
    | .none, .list _, _, _, _, c1, d1 => simp [k1] at c1 d1; omega
    | .none, .tuple _, _, _, _, c1, d1 => simp [k1] at c1 d1; omega
    | .none, .dict _, _, _, _, c1, d1 => simp [k1] at c1 d1; omega
    | .bool b, .none, _, _, _, c1, d1 => cases b <;> simp [k1] at c1 d1 <;> omega
    | .bool b, .int _, _, _, _, c1, d1 => cases b <;> simp [k1] at c1 d1 <;> omega
    | .bool b, .str _, _, _, _, c1, d1 => cases b <;> simp [k1] at c1 d1 <;> omega
    | .bool b, .list _, _, _, _, c1, d1 => cases b <;> simp [k1] at c1 d1 <;> omega
    | .bool b, .tuple _, _, _, _, c1, d1 => cases b <;> simp [k1] at c1 d1 <;> omega
    | .bool b, .dict _, _, _, _, c1, d1 => cases b <;> simp [k1] at c1 d1 <;> omega
    | .int _, .none, _, _, _, c1, d1 => simp [k1] at c1 d1; omega
    | .int _, .bool b, _, _, _, c1, d1 => cases b <;> simp [k1] at c1 d1 <;> omega
    | .int _, .str _, _, _, _, c1, d1 => simp [k1] at c1 d1; omega
    | .int _, .list _, _, _, _, c1, d1 => simp [k1] at c1 d1; omega
    | .int _, .tuple _, _, _, _, c1, d1 => simp [k1] at c1 d1; omega
    | .int _, .dict _, _, _, _, c1, d1 => simp [k1] at c1 d1; omega
    | .str _, .none, _, _, _, c1, d1 => simp [k1] at c1 d1; omega
    | .str _, .bool b, _, _, _, c1, d1 => cases b <;> simp [k1] at c1 d1 <;> omega
    | .str _, .int _, _, _, _, c1, d1 => simp [k1] at c1 d1; omega
    | .str _, .list _, _, _, _, c1, d1 => simp [k1] at c1 d1; omega
    | .str _, .tuple _, _, _, _, c1, d1 => simp [k1] at c1 d1; omega
    | .str _, .dict _, _, _, _, c1, d1 => simp [k1] at c1 d1; omega
    | .list _, .none, _, _, _, c1, d1 => simp [k1] at c1 d1; omega
    | .list _, .bool b, _, _, _, c1, d1 => cases b <;> simp [k1] at c1 d1 <;> omega
    | .list _, .int _, _, _, _, c1, d1 => simp [k1] at c1 d1; omega
    | .list _, .str _, _, _, _, c1, d1 => simp [k1] at c1 d1; omega
    | .list _, .tuple _, _, _, _, c1, d1 => simp [k1] at c1 d1; omega
    | .list _, .dict _, _, _, _, c1, d1 => simp [k1] at c1 d1; omega
    | .tuple _, .none, _, _, _, c1, d1 => simp [k1] at c1 d1; omega
    | .tuple _, .bool b, _, _, _, c1, d1 => cases b <;> simp [k1] at c1 d1 <;> omega
    | .tuple _, .int _, _, _, _, c1, d1 => simp [k1] at c1 d1; omega
    | .tuple _, .str _, _, _, _, c1, d1 => simp [k1] at c1 d1; omega
    | .tuple _, .list _, _, _, _, c1, d1 => simp [k1] at c1 d1; omega
    | .tuple _, .dict _, _, _, _, c1, d1 => simp [k1] at c1 d1; omega
    | .dict _, .none, _, _, _, c1, d1 => simp [k1] at c1 d1; omega
    | .dict _, .bool b, _, _, _, c1, d1 => cases b <;> simp [k1] at c1 d1 <;> omega
    | .dict _, .int _, _, _, _, c1, d1 => simp [k1] at c1 d1; omega
    | .dict _, .str _, _, _, _, c1, d1 => simp [k1] at c1 d1; omega
    | .dict _, .list _, _, _, _, c1, d1 => simp [k1] at c1 d1; omega
    | .dict _, .tuple _, _, _, _, c1, d1 => simp [k1] at c1 d1; omega
theorem txs_inj : ∀ (xs ys : List PyData) (u v : List Nat), clss xs = true → clss ys = true → tl u → tl v → txs xs ++ u = txs ys ++ v → xs = ys ∧ u = v
  | [], [], _, _, _, _, _, _, h => ⟨rfl, by simpa [txs] using h⟩
  | [], y :: ys, u, v, _, _, hu, _, h => by
    obtain ⟨c, r, e, h1, h2, h3⟩ := tx_hd y
    simp only [txs, List.nil_append, e, List.cons_append] at h
    rcases hu with ⟨r', e'⟩ | ⟨r', e'⟩ | ⟨r', e'⟩ <;> · rw [e'] at h; simp only [List.cons.injEq] at h; omega
  | x :: xs, [], u, v, _, _, _, hv, h => by
    obtain ⟨c, r, e, h1, h2, h3⟩ := tx_hd x
    simp only [txs, List.nil_append, e, List.cons_append] at h
    rcases hv with ⟨r', e'⟩ | ⟨r', e'⟩ | ⟨r', e'⟩ <;> · rw [e'] at h; simp only [List.cons.injEq] at h; omega
  | x :: xs, y :: ys, u, v, hx, hy, hu, hv, h => by
    simp only [clss, Bool.and_eq_true] at hx hy
    simp only [txs, List.append_assoc] at h
    obtain ⟨h1, h2⟩ := tx_inj x y _ _ hx.1 hy.1 (txr_dl hu) (txr_dl hv) h
    obtain ⟨h3, h4⟩ := txr_inj xs ys u v hx.2 hy.2 hu hv h2
    exact ⟨by rw [h1, h3], h4⟩
theorem txr_inj : ∀ (xs ys : List PyData) (u v : List Nat), clss xs = true → clss ys = true → tl u → tl v → txr xs ++ u = txr ys ++ v → xs = ys ∧ u = v
  | [], [], _, _, _, _, _, _, h => ⟨rfl, by simpa [txr] using h⟩
  | [], y :: ys, u, v, _, _, hu, _, h => by
    simp only [txr, List.nil_append, List.cons_append] at h
    exact (tl_ne hu h).elim
  | x :: xs, [], u, v, _, _, _, hv, h => by
    simp only [txr, List.nil_append, List.cons_append] at h
    exact (tl_ne hv h.symm).elim
  | x :: xs, y :: ys, u, v, hx, hy, hu, hv, h => by
    simp only [clss, Bool.and_eq_true] at hx hy
    simp only [txr, List.cons_append, List.append_assoc, List.cons.injEq, true_and] at h
    obtain ⟨h1, h2⟩ := tx_inj x y _ _ hx.1 hy.1 (txr_dl hu) (txr_dl hv) h
    obtain ⟨h3, h4⟩ := txr_inj xs ys u v hx.2 hy.2 hu hv h2
    exact ⟨by rw [h1, h3], h4⟩
end
def mid (ts : List Str) : List Nat := (ts.map fun t => 44 :: 32 :: ch t).flatten
theorem ch_lit (s : String) (l : List Nat) (h : s.toList.map Char.toNat = l) : ch (Str.ofString s) = l := by rw [ch_of, h]
theorem tf_pos : ∀ (ts : List Str) (k : Nat) (acc : Str), 0 < k → ch (textFrom k acc ts) = ch acc ++ mid ts
  | [], k, acc, _ => by simp [textFrom, mid]
  | t :: ts, k, acc, hk => by
    have e : ch (Str.ofString (if k > 0 then ", " else "")) = [44, 32] := by rw [if_pos hk]; exact ch_lit _ _ (by decide)
    rw [textFrom, tf_pos ts (k + 1) _ (by omega), ch_app, ch_app, e]
    simp [mid]
theorem tf_zero : ∀ (ts : List Str) (acc : Str), ch (textFrom 0 acc ts) = ch acc ++ (match ts with | [] => [] | t :: r => ch t ++ mid r)
  | [], acc => by simp [textFrom]
  | t :: ts, acc => by
    have e : ch (Str.ofString (if 0 > 0 then ", " else "")) = [] := ch_lit _ _ (by decide)
    rw [textFrom, tf_pos ts 1 _ (by omega), ch_app, ch_app, e]
    simp
theorem jn : ∀ ts : List Str, ch (Str.join (Str.ofString ", ") ts) = (match ts with | [] => [] | t :: r => ch t ++ mid r)
  | [] => by simp [Str.join, Str.empty, ch]
  | [x] => by simp [Str.join, mid]
  | x :: y :: r => by
    have ih := jn (y :: r)
    have e : ch (Str.ofString ", ") = [44, 32] := ch_lit _ _ (by decide)
    rw [Str.join, ch_app, ch_app, ih, e]
    simp [mid]
    simp
theorem shownAll_len : ∀ xs : List PyData, (PyData.shownAll xs).length = xs.length
  | [] => rfl
  | x :: xs => by rw [PyData.shownAll, List.length_cons, shownAll_len xs, List.length_cons]
mutual
theorem shown_tx : ∀ p : PyData, cls p = true → ch p.shown = tx p
  | .none, _ => by rw [PyData.shown, tx]; exact ch_lit _ _ (by decide)
  | .bool true, _ => by simp only [PyData.shown, tx, if_true]; exact ch_lit _ _ (by decide)
  | .bool false, _ => by simp only [PyData.shown, tx, Bool.false_eq_true, if_false]; exact ch_lit _ _ (by decide)
  | .int i, _ => by rw [PyData.shown, tx]; exact ti_ch i
  | .str x, h => by
    simp only [cls, decide_eq_true_eq] at h
    subst h
    rw [PyData.shown, tx]
    decide +kernel
  | .dict kvs, h => by
    simp only [cls, List.isEmpty_iff] at h
    subst h
    rw [PyData.shown, tx]
    decide +kernel
  | .list xs, h => by
    simp only [cls] at h
    have e1 : ch (Str.ofString "[") = [91] := ch_lit _ _ (by decide)
    have e2 : ch (Str.ofString "]") = [93] := ch_lit _ _ (by decide)
    rw [PyData.shown, tx, listText, ch_app, tf_zero, e1, e2]
    have := shown_txs xs h
    rw [this]
    simp
  | .tuple xs, h => by
    simp only [cls] at h
    have e1 : ch (Str.ofString "(") = [40] := ch_lit _ _ (by decide)
    have e2 : ch (Str.ofString (if (PyData.shownAll xs).length == 1 then ",)" else ")")) = if xs.length = 1 then [44, 41] else [41] := by
      rw [shownAll_len]
      by_cases hl : xs.length = 1
      · simp only [hl, beq_self_eq_true, if_true]; exact ch_lit _ _ (by decide)
      · have : (xs.length == 1) = false := by simpa using hl
        simp only [this, hl, Bool.false_eq_true, if_false]; exact ch_lit _ _ (by decide)
    rw [PyData.shown, tx, tupleText, ch_app, ch_app, jn, e1, e2]
    have := shown_txs xs h
    rw [this]
    simp
theorem shown_txs : ∀ xs : List PyData, clss xs = true → (match PyData.shownAll xs with | [] => [] | t :: r => ch t ++ mid r) = txs xs
  | [], _ => by simp [PyData.shownAll, txs]
  | x :: xs, h => by
    simp only [clss, Bool.and_eq_true] at h
    simp only [PyData.shownAll, txs, shown_tx x h.1, shown_txr xs h.2]
theorem shown_txr : ∀ xs : List PyData, clss xs = true → mid (PyData.shownAll xs) = txr xs
  | [], _ => by simp [PyData.shownAll, mid, txr]
  | x :: xs, h => by
    simp only [clss, Bool.and_eq_true] at h
    have ih := shown_txr xs h.2
    simp only [mid] at ih
    simp only [PyData.shownAll, mid, txr, List.map_cons, List.flatten_cons, shown_tx x h.1, ih, List.cons_append]
end
theorem shown_inj {p q : PyData} (hp : cls p = true) (hq : cls q = true) (h : p.shown = q.shown) : p = q := by
  have h2 := congrArg ch h
  rw [shown_tx p hp, shown_tx q hq] at h2
  exact (tx_inj p q [] [] hp hq (fun _ _ e => nomatch e) (fun _ _ e => nomatch e) (by simpa using h2)).1
end Rp
namespace K68
open PySem Ev L2
open Lib hiding St Stp Sq
open Classical in
noncomputable def pos (t : Ti) : List Ti → Nat
  | [] => 0
  | u :: r => if u = t then 0 else pos t r + 1
noncomputable def num (L : List Ti) : Ti → Nat
  | .nil => 0
  | .nd l x r => pos (.nd l x r) L + 1
def On (L : List Ti) (t : Ti) : Prop := t = .nil ∨ t ∈ L
theorem pos_app {t : Ti} : ∀ {L : List Ti} (M : List Ti), t ∈ L → pos t (L ++ M) = pos t L
  | u :: r, M, h => by
    rw [List.cons_append, pos, pos]
    by_cases e : u = t
    · rw [if_pos e, if_pos e]
    · rw [if_neg e, if_neg e]
      rcases List.mem_cons.mp h with q | q
      · exact absurd q.symm e
      · rw [pos_app M q]
theorem pos_lt {t : Ti} : ∀ {L : List Ti}, t ∈ L → pos t L < L.length ∧ L[pos t L]? = some t
  | u :: r, h => by
    rw [pos]
    by_cases e : u = t
    · rw [if_pos e]; subst e; exact ⟨by simp, by simp⟩
    · rw [if_neg e]
      rcases List.mem_cons.mp h with q | q
      · exact absurd q.symm e
      · have := pos_lt q
        refine ⟨by simp only [List.length_cons]; omega, by rw [List.getElem?_cons_succ]; exact this.2⟩
theorem pos_inj {t u : Ti} {L : List Ti} (h1 : t ∈ L) (h2 : u ∈ L) (e : pos t L = pos u L) : t = u := by
  have a := (pos_lt h1).2
  have b := (pos_lt h2).2
  rw [e, b] at a
  exact (Option.some.inj a).symm
theorem num_app {t : Ti} {L M : List Ti} (h : On L t) : num (L ++ M) t = num L t := by
  cases t with
  | nil => rfl
  | nd l x r =>
    rcases h with h | h
    · cases h
    · show pos _ _ + 1 = pos _ _ + 1
      rw [pos_app M h]
theorem num_inj {t u : Ti} {L : List Ti} (h1 : On L t) (h2 : On L u) (e : num L t = num L u) : t = u := by
  cases t with
  | nil =>
    cases u with
    | nil => rfl
    | nd l x r => simp [num] at e
  | nd l x r =>
    cases u with
    | nil => simp [num] at e
    | nd l' x' r' =>
      rcases h1 with h1 | h1
      · cases h1
      · rcases h2 with h2 | h2
        · cases h2
        · exact pos_inj h1 h2 (Nat.succ.inj e)
def Ix (x : D) : Prop := ∃ i : Int, x = .int i ∧ -10000 ≤ i ∧ i ≤ 10000
def Itm (t : Ti) : Prop := ∀ x ∈ its t, Ix x
structure Gl (L : List Ti) : Prop where
  nd : L.Nodup
  cl : ∀ t ∈ L, ∃ l x r, t = .nd l x r ∧ On L l ∧ On L r ∧ Ix x
theorem On.app {L M : List Ti} {t : Ti} (h : On L t) : On (L ++ M) t := h.imp id fun q => List.mem_append_left _ q
open Classical in
noncomputable def add : Ti → List Ti → List Ti
  | .nil, L => L
  | .nd l x r, L => if Ti.nd l x r ∈ add r (add l L) then add r (add l L) else add r (add l L) ++ [.nd l x r]
theorem add_pre : ∀ (t : Ti) (L : List Ti), ∃ M, add t L = L ++ M
  | .nil, L => ⟨[], by simp [add]⟩
  | .nd l x r, L => by
    obtain ⟨M1, e1⟩ := add_pre l L
    obtain ⟨M2, e2⟩ := add_pre r (add l L)
    rw [add]
    split
    · exact ⟨M1 ++ M2, by rw [e2, e1, List.append_assoc]⟩
    · exact ⟨M1 ++ M2 ++ [.nd l x r], by rw [e2, e1]; simp⟩
theorem On.add {L : List Ti} {t u : Ti} (h : On L t) : On (add u L) t := by
  obtain ⟨M, e⟩ := add_pre u L
  rw [e]; exact h.app
theorem num_add {L : List Ti} {t u : Ti} (h : On L t) : num (add u L) t = num L t := by
  obtain ⟨M, e⟩ := add_pre u L
  rw [e]; exact num_app h
theorem add_on : ∀ (t : Ti) (L : List Ti), On (add t L) t
  | .nil, _ => .inl rfl
  | .nd l x r, L => by
    rw [add]
    split
    · rename_i h; exact .inr h
    · exact .inr (by simp)
theorem add_gl : ∀ (t : Ti) {L : List Ti}, Gl L → Itm t → Gl (add t L)
  | .nil, L, h, _ => h
  | .nd l x r, L, h, hi => by
    have h1 := add_gl l h fun y hy => hi y (by simp [its, hy])
    have h2 := add_gl r h1 fun y hy => hi y (by simp [its, hy])
    have o1 : On (add r (add l L)) l := (add_on l L).add
    have o2 : On (add r (add l L)) r := add_on r _
    rw [add]
    split
    · exact h2
    · rename_i hn
      refine ⟨List.nodup_append.mpr ⟨h2.nd, by simp, fun a ha b hb e => hn (by have : b = .nd l x r := by simpa using hb
                                                                               rw [← this, ← e]; exact ha)⟩, fun t ht => ?_⟩
      rcases List.mem_append.mp ht with q | q
      · obtain ⟨l', x', r', e, a, b, c⟩ := h2.cl t q
        exact ⟨l', x', r', e, a.app, b.app, c⟩
      · have : t = .nd l x r := by simpa using q
        exact ⟨l, x, r, this, o1.app, o2.app, hi x (by simp [its])⟩
theorem add_mem : ∀ (t : Ti) {L : List Ti}, Gl L → On L t → add t L = L
  | .nil, _, _, _ => rfl
  | .nd l x r, L, h, ho => by
    rcases ho with ho | ho
    · cases ho
    · obtain ⟨l', x', r', e, a, b, _⟩ := h.cl _ ho
      cases e
      rw [add, add_mem l h a, add_mem r h b, if_pos ho]
theorem add_len {S : Ti → Prop} (hS : Cl S) : ∀ (t : Ti) {L : List Ti}, Gl L → Itm t → (∀ u, S u → On L u) → (add t L).length ≤ L.length + newc S t
  | .nil, L, _, _, _ => by simp [add]
  | .nd l x r, L, h, hi, hs => by
    by_cases q : S (.nd l x r)
    · rw [add_mem _ h (hs _ q)]; omega
    · have i1 : Itm l := fun y hy => hi y (by simp [its, hy])
      have i2 : Itm r := fun y hy => hi y (by simp [its, hy])
      have h1 := add_gl l h i1
      have a1 := add_len hS l h i1 hs
      have a2 := add_len hS r h1 i2 fun u hu => (hs u hu).add
      rw [newc, if_neg q, add]
      split
      · omega
      · rw [List.length_append, List.length_singleton]; omega
theorem add_sz : ∀ (t : Ti) (L : List Ti), (add t L).length ≤ L.length + szT t
  | .nil, L => by simp [add]
  | .nd l x r, L => by
    have a1 := add_sz l L
    have a2 := add_sz r (add l L)
    rw [add, szT]
    split
    · omega
    · rw [List.length_append, List.length_singleton]; omega
structure Wy (w : D → D) (κ : D → NestedKey) : Prop where
  k : ∀ x, Ix x → nkD (w x) = some (κ x)
  d : ∀ x, Ix x → (κ x).depth = 0
  i : ∀ x y, Ix x → Ix y → κ x = κ y → x = y
noncomputable def key (w : D → D) (L : List Ti) : Ti → D
  | .nil => .non
  | .nd l x r => .tup [.int (num L l : Nat), w x, .int (num L r : Nat)]
noncomputable def kvL (w : D → D) (L : List Ti) : List (D × D) := L.map fun t => (key w L t, .int (num L t : Nat))
section
variable {w : D → D} {κ : D → NestedKey}
theorem key_n (W : Wy w κ) {L : List Ti} {l r : Ti} {x : D} (h : Ix x) : keyN (key w L (.nd l x r)) = some (.tup [.num (num L l : Nat), κ x, .num (num L r : Nat)]) := by
  have := W.d x h
  simp [key, keyN, nkDs, nkD, W.k x h, NestedKey.depth, NestedKey.depthAll, this]
theorem getP_map {α : Type} {f : α → D × D} {k : NestedKey} {u : α} {ν : α → NestedKey} : ∀ {L : List α}, (∀ t ∈ L, keyN (f t).1 = some (ν t)) → (∀ t ∈ L, ν t = k ↔ t = u) → getP (L.map f) k = (open Classical in if u ∈ L then some (f u).2 else none)
  | [], _, _ => by simp [getP]
  | t :: r, h1, h2 => by
    rw [List.map_cons, getP, h1 t List.mem_cons_self]
    have ih := getP_map (L := r) (fun y hy => h1 y (List.mem_cons_of_mem _ hy)) fun y hy => h2 y (List.mem_cons_of_mem _ hy)
    have h3 := h2 t List.mem_cons_self
    by_cases e : t = u
    · subst e
      rw [if_pos (by rw [h3.mpr rfl]), if_pos List.mem_cons_self]
    · rw [if_neg (fun z => e (h3.mp (Option.some.inj z))), ih]
      by_cases q : u ∈ r
      · rw [if_pos q, if_pos (List.mem_cons_of_mem _ q)]
      · rw [if_neg q, if_neg (fun z => (List.mem_cons.mp z).elim (fun z => e z.symm) q)]
theorem get_key (W : Wy w κ) {L : List Ti} {l r : Ti} {x : D} (h : Gl L) (hl : On L l) (hr : On L r) (hx : Ix x) :
    getP (kvL w L) (.tup [.num (num L l : Nat), κ x, .num (num L r : Nat)]) = (open Classical in if Ti.nd l x r ∈ L then some (.int (num L (.nd l x r) : Nat)) else none) := by
  unfold kvL
  rw [getP_map (u := Ti.nd l x r) (ν := fun t => match t with | .nd l x r => .tup [.num (num L l : Nat), κ x, .num (num L r : Nat)] | .nil => .none)]
  · intro t ht
    obtain ⟨l', x', r', rfl, _, _, hx'⟩ := h.cl t ht
    exact key_n W hx'
  · intro t ht
    obtain ⟨l', x', r', rfl, a, b, hx'⟩ := h.cl t ht
    constructor
    · intro e
      simp only [NestedKey.tup.injEq, List.cons.injEq, NestedKey.num.injEq, and_true] at e
      obtain ⟨e1, e2, e3⟩ := e
      rw [num_inj a hl (by omega), W.i _ _ hx' hx e2, num_inj b hr (by omega)]
    · intro e; cases e; rfl
theorem kv_app {L : List Ti} {l r : Ti} {x : D} (h : Gl L) (hl : On L l) (hr : On L r) (hn : Ti.nd l x r ∉ L) : kvL w (L ++ [.nd l x r]) = kvL w L ++ [(key w L (.nd l x r), .int (L.length + 1 : Nat))] := by
  unfold kvL
  rw [List.map_append]
  congr 1
  · refine List.map_congr_left fun t ht => ?_
    obtain ⟨l', x', r', rfl, a, b, _⟩ := h.cl t ht
    simp only [key, num_app a, num_app b, num_app (show On L (.nd l' x' r') from .inr ht)]
  · simp only [List.map_cons, List.map_nil, key, num_app hl, num_app hr]
    suffices hh : num (L ++ [.nd l x r]) (.nd l x r) = L.length + 1 by rw [hh]
    show pos _ _ + 1 = _
    have : pos (.nd l x r) (L ++ [.nd l x r]) = L.length := by
      have e : ∀ L : List Ti, Ti.nd l x r ∉ L → pos (.nd l x r) (L ++ [.nd l x r]) = L.length := by
        intro L
        induction L with
        | nil => intro _; simp [pos]
        | cons u M ih =>
          intro hn
          rw [List.cons_append, pos, if_neg (fun e => hn (by rw [e]; exact List.mem_cons_self)), ih fun q => hn (List.mem_cons_of_mem _ q)]
          rfl
      exact e L hn
    rw [this]
theorem setd (W : Wy w κ) {m : Mu} {j : Nat} {L : List Ti} {l r : Ti} {x : D} (hm : m[j]? = some (.dcm (kvL w L))) (h : Gl L) (hl : On L l) (hr : On L r) (hx : Ix x) (hz : L.length < 100000) :
    dmsdF m (.ref j) (key w L (.nd l x r)) (.int ((L.length : Int) + 1)) = (open Classical in if Ti.nd l x r ∈ L then some (.int (num L (.nd l x r) : Nat), m) else some (.int ((L.length + 1 : Nat) : Int), m.set j (.dcm (kvL w (L ++ [.nd l x r]))))) := by
  have hd : dcmD m (.ref j) = some (kvL w L) := by simp [dcmD, hm]
  have hlen : (kvL w L).length < sizeLine := by
    have : (100000 : Nat) ≤ sizeLine := by decide
    simp only [kvL, List.length_map]; omega
  unfold dmsdF
  rw [hd, Option.bind_some, key_n W hx, Option.bind_some, if_pos hlen, get_key W h hl hr hx]
  by_cases q : Ti.nd l x r ∈ L
  · rw [if_pos q, if_pos q]
  · rw [if_neg q, if_neg q]
    have e : putP (kvL w L) (key w L (.nd l x r)) (.tup [.num (num L l : Nat), κ x, .num (num L r : Nat)]) (.int ((L.length : Int) + 1)) = kvL w (L ++ [.nd l x r]) := by
      unfold putP
      rw [get_key W h hl hr hx, if_neg q, if_neg (by simp), kv_app h hl hr q]
      rfl
    dsimp only
    rw [e]
    rfl
end
end K68
namespace K68
open PySem Ev L2
open Lib hiding St Stp Sq
def plainB : D → Bool
  | .int _ => true
  | .str _ => true
  | _ => false
def itemB : D → Bool
  | .tup xs => decide (xs.length ≤ 8) && xs.all plainB
  | d => plainB d
def Item (x : D) : Prop := itemB x = true ∧ Sm 140 1 x
theorem Item.pl {x : D} (h : Item x) : Pl x := Sm.pl h.2
section
variable {n : Nat} {m : Mu}
theorem plain_ok {d : D} (h : Pl d) : callF P (n + 1) 14 [d] m = .ok (.bl (plainB d)) m := by
  obtain ⟨p, hp⟩ := h
  have hp := hp m
  refine eq_wp (call_wp rfl rfl ?_)
  simp only [f14, b14, ww, putI, dropI]
  cases d <;> simp [oo, ixN, isAbs, partD, -Bool.exists_bool, -Prod.exists, -Bool.not_eq_eq_eq_not, tyD, isiT, plainB, finq_iff, pyD] at hp ⊢
theorem isitem_ok {d : D} (h : Item d) : callF P (n + 2) 15 [d] m = .ok (.bl true) m := by
  have hpl := h.pl
  have hb := h.1
  refine eq_wp (call_wp rfl rfl ?_)
  simp only [f15, b15, ww, putI, dropI]
  by_cases hd : ∃ xs, d = .tup xs
  · obtain ⟨xs, rfl⟩ := hd
    simp only [itemB, Bool.and_eq_true, decide_eq_true_eq] at hb
    have hlc : goL (lcB (callF P (n + 1)) (.nm 1) (.cst (.bl true)) (.call "is_plain" 14 (.cons (.var 1) .nil)) [some (.tup xs), none]) xs m = .ok (xs.map fun x => .bl (plainB x)) m := by
      refine goL_all fun x hx => ?_
      have e := plain_ok (n := n) (m := m) (hpl.mem x hx)
      simp [lcB, setT, wipeS, ownT, evE, evEs, truthD, e]
    have hl8 : (xs.length : Int) ≤ 8 := by omega
    have hsz : xs.length ≤ sizeLine := sz (by omega)
    simp [oo, ixN, isAbs, partD, -Bool.exists_bool, -Prod.exists, -Bool.not_eq_eq_eq_not, tyD, isiT, hl8, itF, hlc, all_lst, hb.2, finq_iff, hsz]
  · have hu : ∃ u, tyD m d = some u ∧ isiT u ["tuple"] = false := by
      obtain ⟨p, hp⟩ := hpl
      exact nt_ty (hp m) fun xs e => hd ⟨xs, e⟩
    obtain ⟨u, hu, hu2⟩ := hu
    have hb2 : plainB d = true := by
      cases d <;> first | exact absurd ⟨_, rfl⟩ hd | exact hb
    simp [oo, ixN, isAbs, partD, -Bool.exists_bool, -Prod.exists, -Bool.not_eq_eq_eq_not, hu, hu2, plain_ok hpl, hb2, finq_iff]
structure Tie (t : Ti) : Prop where
  bal : Bal t
  items : ∀ x ∈ its t, Item x
theorem Tie.l {l r : Ti} {x : D} (h : Tie (.nd l x r)) : Tie l := ⟨h.bal.2.1, fun y hy => h.items y (by simp [its, hy])⟩
theorem Tie.r {l r : Ti} {x : D} (h : Tie (.nd l x r)) : Tie r := ⟨h.bal.2.2, fun y hy => h.items y (by simp [its, hy])⟩
theorem Tie.x {l r : Ti} {x : D} (h : Tie (.nd l x r)) : Item x := h.items x (by simp [its])
theorem max2i {a b : Int} : biF m .max2 [.int a, .int b] = some (.int (if b > a then b else a)) := rfl
theorem told_ok {t : Ti} : callF P (n + 1) 16 [toD t] m = .ok (.int (szT t : Nat)) m := by
  refine eq_wp (call_wp rfl rfl ?_)
  simp only [f16, b16, ww, putI, dropI]
  cases t with
  | nil => simp [oo, ixN, isAbs, partD, -Bool.exists_bool, -Prod.exists, -Bool.not_eq_eq_eq_not, toD, isN0, finq_iff, szT]
  | nd l x r =>
    have h1 : (-1 : Int) < (szT l : Int) + 1 + (szT r : Int) := by omega
    simp [oo, ixN, isAbs, partD, -Bool.exists_bool, -Prod.exists, -Bool.not_eq_eq_eq_not, toD, isN1, tyD, isiT, max2i, h1, finq_iff, szT]
    omega
def mn (a b : Nat) : Nat := min a b
theorem minL2 {a b : Nat} : biF m .min [.lst [.int (a : Int), .int (b : Int)]] = some (.int (mn a b : Nat)) := by
  simp [biF, lsD, seqD, allD, intD, minL, mn]
  omega
theorem sumL2 {a b : Int} : biF m .sum [.lst [.int a, .int b]] = some (.int (a + b)) := by
  simp [biF, lsD, seqD, allD, intD]
end
theorem evenof_ok : ∀ (t : Ti) {n : Nat} {m : Mu}, Tie t → dp t + 3 ≤ n → callF P n 17 [toD t, .int (szT t : Nat)] m = .ok (.bl true) m
  | .nil, n, m, _, hn => by
    obtain ⟨n, rfl⟩ : ∃ n', n = n' + 1 := ⟨n - 1, by omega⟩
    refine eq_wp (call_wp rfl rfl ?_)
    simp only [f17, b17, ww, putI, dropI]
    simp [oo, ixN, isAbs, partD, -Bool.exists_bool, -Prod.exists, -Bool.not_eq_eq_eq_not, toD, isN0, finq_iff, szT]
  | .nd l x r, n, m, h, hn => by
    simp only [dp] at hn
    obtain ⟨n, rfl⟩ : ∃ n', n = n' + 3 := ⟨n - 3, by omega⟩
    have e1 := evenof_ok l (n := n + 2) (m := m) h.l (by omega)
    have e2 := evenof_ok r (n := n + 2) (m := m) h.r (by omega)
    have hb := evB_iff.mpr h.bal.1
    have hs : szT (.nd l x r) = szT l + 1 + szT r := sz_nd
    rw [hs]
    have h0 : ¬ ((szT l : Int) + 1 + (szT r : Int) = 0) := by omega
    have hmn : ¬ (((mn (szT l) (szT r) : Nat) : Int) < 0) := by omega
    have hsm : (szT l : Int) + (szT r : Int) + 1 = (szT l : Int) + 1 + (szT r : Int) := by omega
    have hD : toD (.nd l x r) = .tup [toD l, x, toD r, .int ((szT l : Int) + 1 + (szT r : Int))] := rfl
    have h1 := told_ok (n := n + 1) (m := m) (t := l)
    have h2 := told_ok (n := n + 1) (m := m) (t := r)
    have h3 := even_ok (n := n + 1) (m := m) (a := szT l) (b := szT r)
    have h4 := isitem_ok (n := n) (m := m) h.x
    rw [hb] at h3
    refine eq_wp (call_wp rfl rfl ?_)
    simp only [f17, b17, ww, putI, dropI]
    rw [hD]
    simp [oo, ixN, isAbs, partD, -Bool.exists_bool, -Prod.exists, -Bool.not_eq_eq_eq_not, setT4, h0, h1, h2, minL2, hmn, sumL2, hsm, h3, h4, e1, e2, finq_iff]
section
variable {n : Nat} {m : Mu}
theorem iseven_ok {t : Ti} (h : Tie t) (hs : szT t ≤ 1000) (hn : 30 ≤ n) : callF P n 18 [toD t] m = .ok (.bl true) m := by
  obtain ⟨n, rfl⟩ : ∃ n', n = n' + 2 := ⟨n - 2, by omega⟩
  have e := evenof_ok t (n := n + 1) (m := m) h (by have := dp_le h.bal hs; omega)
  have h0 : (0 : Int) ≤ (szT t : Nat) := by omega
  have h1 : ((szT t : Nat) : Int) ≤ 1000 := by omega
  refine eq_wp (call_wp rfl rfl ?_)
  simp only [f18, b18, ww, putI, dropI]
  simp [oo, ixN, isAbs, partD, -Bool.exists_bool, -Prod.exists, -Bool.not_eq_eq_eq_not, told_ok, h0, h1, e, finq_iff]
theorem look_ok {t : Ti} (h : Tie t) (hs : szT t ≤ 1000) (hn : 31 ≤ n) : callF P n 19 [toD t] m = .ok .non m := by
  obtain ⟨n, rfl⟩ : ∃ n', n = n' + 1 := ⟨n - 1, by omega⟩
  refine eq_wp (call_wp rfl rfl ?_)
  simp only [f19, b19, ww, putI, dropI]
  simp [oo, ixN, isAbs, partD, -Bool.exists_bool, -Prod.exists, -Bool.not_eq_eq_eq_not, iseven_ok (n := n) h hs (by omega), finq_iff]
theorem looki_ok {d : D} {a b : Nat} (h : a ≤ b) : callF P (n + 1) 20 [d, .int (a : Int), .int (b : Int)] m = .ok .non m := by
  have h0 : (0 : Int) ≤ (a : Int) := by omega
  have h1 : (a : Int) ≤ (b : Int) := by omega
  refine eq_wp (call_wp rfl rfl ?_)
  simp only [f20, b20, ww, putI, dropI]
  simp [oo, ixN, isAbs, partD, -Bool.exists_bool, -Prod.exists, -Bool.not_eq_eq_eq_not, tyD, isiT, h0, h1, finq_iff]
theorem putat_ok {t : Ti} {a : Nat} {x : D} (h : Tie t) (hs : szT t < 1000) (ha : a ≤ szT t) (hx : Item x) (hn : 40 ≤ n) : ∃ t', callF P n 22 [toD t, .int (a : Int), x] m = .ok (toD t') m ∧ Tie t' ∧ its t' = (its t).take a ++ x :: (its t).drop a ∧ NS t t' (1 + 3 * dp t) := by
  obtain ⟨n, rfl⟩ : ∃ n', n = n' + 3 := ⟨n - 3, by omega⟩
  obtain ⟨t', e, hb, hi, hc⟩ := more_ok t (n := n + 2) (a := a) (x := x) (m := m) h.bal ha (by have := dp_le h.bal (by omega); omega)
  refine ⟨t', ?_, ⟨hb, fun y hy => ?_⟩, hi, hc⟩
  · have hl := looki_ok (n := n + 1) (m := m) (d := toD t) (a := a) (b := szT t) ha
    have hne : ¬ ((szT t : Int) = 1000) := by omega
    refine eq_wp (call_wp rfl rfl ?_)
    simp only [f22, b22, ww, putI, dropI]
    simp [oo, ixN, isAbs, partD, -Bool.exists_bool, -Prod.exists, -Bool.not_eq_eq_eq_not, look_ok (n := n + 2) h (by omega) (by omega), count_ok, hl, isitem_ok hx, hne, e, finq_iff]
  · rw [hi] at hy
    rcases List.mem_append.mp hy with hy | hy
    · exact h.items y (List.mem_of_mem_take hy)
    · rcases List.mem_cons.mp hy with rfl | hy
      · exact hx
      · exact h.items y (List.mem_of_mem_drop hy)
theorem outat_ok {t : Ti} {a : Nat} (h : Tie t) (hs : szT t ≤ 1000) (ha : a < szT t) (hn : 40 ≤ n) : ∃ t', callF P n 23 [toD t, .int (a : Int)] m = .ok (toD t') m ∧ Tie t' ∧ its t' = (its t).take a ++ (its t).drop (a + 1) ∧ NS t t' (3 * dp t) := by
  obtain ⟨n, rfl⟩ : ∃ n', n = n' + 2 := ⟨n - 2, by omega⟩
  obtain ⟨t', e, hb, hi, hc⟩ := out_ok t (n := n + 1) (a := a) (m := m) h.bal ha (by have := dp_le h.bal hs; omega)
  refine ⟨t', ?_, ⟨hb, fun y hy => ?_⟩, hi, hc⟩
  · have hl := looki_ok (n := n) (m := m) (d := toD t) (a := a) (b := szT t - 1) (by omega)
    have hs1 : ((szT t - 1 : Nat) : Int) = (szT t : Int) - 1 := by omega
    rw [hs1] at hl
    refine eq_wp (call_wp rfl rfl ?_)
    simp only [f23, b23, ww, putI, dropI]
    simp [oo, ixN, isAbs, partD, -Bool.exists_bool, -Prod.exists, -Bool.not_eq_eq_eq_not, look_ok (n := n + 1) h hs (by omega), count_ok, hl, e, finq_iff]
  · rw [hi] at hy
    rcases List.mem_append.mp hy with hy | hy
    · exact h.items y (List.mem_of_mem_take hy)
    · exact h.items y (List.mem_of_mem_drop hy)
theorem parted_ok {t : Ti} {a : Nat} (h : Tie t) (hs : szT t ≤ 1000) (ha : a ≤ szT t) (hn : 90 ≤ n) : ∃ b e, callF P n 24 [toD t, .int (a : Int)] m = .ok (.tup [toD b, toD e]) m ∧ Tie b ∧ Tie e ∧ its b = (its t).take a ∧ its e = (its t).drop a ∧ NS t b (dp t + 3 * stp (wt b)) ∧ NS t e (dp t + 3 * stp (wt e)) := by
  obtain ⟨n, rfl⟩ : ∃ n', n = n' + 2 := ⟨n - 2, by omega⟩
  obtain ⟨b, e, e1, hb, he, hib, hie, hcb, hce⟩ := cut_ok t (n := n + 1) (a := a) (m := m) h.bal ha hs (by have := dp_le h.bal hs; omega)
  refine ⟨b, e, ?_, ⟨hb, fun y hy => h.items y (by rw [hib] at hy; exact List.mem_of_mem_take hy)⟩, ⟨he, fun y hy => h.items y (by rw [hie] at hy; exact List.mem_of_mem_drop hy)⟩, hib, hie, hcb, hce⟩
  have hl := looki_ok (n := n) (m := m) (d := toD t) (a := a) (b := szT t) ha
  refine eq_wp (call_wp rfl rfl ?_)
  simp only [f24, b24, ww, putI, dropI]
  simp [oo, ixN, isAbs, partD, -Bool.exists_bool, -Prod.exists, -Bool.not_eq_eq_eq_not, look_ok (n := n + 1) h hs (by omega), count_ok, hl, e1, finq_iff]
theorem both_ok {a b : Ti} (ha : Tie a) (hb : Tie b) (hs : szT a + szT b ≤ 1000) (hn : 70 ≤ n) : ∃ t, callF P n 25 [toD a, toD b] m = .ok (toD t) m ∧ Tie t ∧ its t = its a ++ its b ∧ ∀ S, Cl S → S a → S b → newc S t ≤ 3 * dp b + 1 + 3 * max (stp (wt a)) (stp (wt b)) := by
  obtain ⟨n, rfl⟩ : ∃ n', n = n' + 2 := ⟨n - 2, by omega⟩
  obtain ⟨t, e, hbt, hit, hct⟩ := behind_ok (n := n + 1) (m := m) ha.bal hb.bal hs (by omega)
  refine ⟨t, ?_, ⟨hbt, fun y hy => ?_⟩, hit, hct⟩
  · have h1 : ¬ ((1000 : Int) < (szT a : Int) + (szT b : Int)) := by omega
    refine eq_wp (call_wp rfl rfl ?_)
    simp only [f25, b25, ww, putI, dropI]
    simp [oo, ixN, isAbs, partD, -Bool.exists_bool, -Prod.exists, -Bool.not_eq_eq_eq_not, look_ok (n := n + 1) ha (by omega) (by omega), look_ok (n := n + 1) hb (by omega) (by omega), count_ok, h1, e, finq_iff]
  · rw [hit] at hy
    rcases List.mem_append.mp hy with hy | hy
    · exact ha.items y hy
    · exact hb.items y hy
theorem tied_ok {xs : List D} {d : D} (hd : d = .lst xs ∨ d = .tup xs) (hx : ∀ x ∈ xs, Item x) (hl : xs.length ≤ 1000) (hn : 20 ≤ n) : ∃ t, callF P n 21 [d] m = .ok (toD t) m ∧ Tie t ∧ its t = xs := by
  obtain ⟨n, rfl⟩ : ∃ n', n = n' + 3 := ⟨n - 3, by omega⟩
  obtain ⟨t, e, hb, hi⟩ := halves_ok 10 (n + 2) (xs := xs) (m := m) (by omega) (by omega)
  refine ⟨t, ?_, ⟨hb, by rw [hi]; exact hx⟩, hi⟩
  have hlc : goL (lcB (callF P (n + 2)) (.nm 1) (.cst (.bl true)) (.call "is_item" 15 (.cons (.var 1) .nil)) [some d, none]) xs m = .ok (xs.map fun _ => .bl true) m := by
    refine goL_all fun x hx' => ?_
    have e := isitem_ok (n := n) (m := m) (hx x hx')
    simp [lcB, setT, wipeS, ownT, evE, evEs, truthD, e]
  have hall : biF m .all [.lst (xs.map fun _ => .bl true)] = some (.bl true) := by
    have := all_lst (m := m) (l := xs) (p := fun _ => true)
    rw [show (xs.all fun _ => true) = true by simp] at this
    exact this
  have hg : ¬ ((1000 : Int) < (xs.length : Int)) := by omega
  have hsz : xs.length ≤ sizeLine := sz (by omega)
  refine eq_wp (call_wp rfl rfl ?_)
  simp only [f21, b21, ww, putI, dropI]
  have hls : biF m .list [.lst xs] = some (.lst xs) := rfl
  rcases hd with rfl | rfl
  · simp [oo, ixN, isAbs, partD, -Bool.exists_bool, -Prod.exists, -Bool.not_eq_eq_eq_not, tyD, isiT, hg, itF, hlc, hall, hsz, hls, e, finq_iff]
  · simp [oo, ixN, isAbs, partD, -Bool.exists_bool, -Prod.exists, -Bool.not_eq_eq_eq_not, tyD, isiT, hg, itF, hlc, hall, hsz, listTup, e, finq_iff]
end
end K68
namespace K68
open PySem Ev L2
open Lib hiding St Stp Sq
theorem setsame {m : Mu} {p : Nat} {o : O} (hp : m[p]? = some o) : m.set p o = m := by
  have hlt : p < m.length := (List.getElem?_eq_some_iff.mp hp).1
  apply List.ext_getElem?
  intro i
  by_cases hi : p = i
  · subst hi; rw [List.getElem?_set_self hlt, hp]
  · rw [List.getElem?_set_ne hi]
def wR : D → D
  | .int i => .str (PyData.int i).shown
  | x => x
def kR : D → NestedKey
  | .int i => .text (PyData.int i).shown
  | _ => .none
def wI (x : D) : D := x
def kI : D → NestedKey
  | .int i => .num i
  | _ => .none
theorem wyI : Wy wI kI where
  k := by rintro x ⟨i, rfl, _⟩; rfl
  d := by rintro x ⟨i, rfl, _⟩; rfl
  i := by
    rintro x y ⟨i, rfl, _⟩ ⟨j, rfl, _⟩ h
    have : i = j := NestedKey.num.inj h
    rw [this]
theorem wyR : Wy wR kR where
  k := by rintro x ⟨i, rfl, _⟩; rfl
  d := by rintro x ⟨i, rfl, _⟩; rfl
  i := by
    rintro x y ⟨i, rfl, _⟩ ⟨j, rfl, _⟩ h
    have h2 := NestedKey.text.inj h
    have h3 := Rp.shown_inj (p := .int i) (q := .int j) rfl rfl h2
    cases h3
    rfl
theorem repr_int {m : Mu} {i : Int} (h1 : -10000 ≤ i) (h2 : i ≤ 10000) : biF m .repr [.int i] = some (.str (PyData.int i).shown) := by
  have e : biF m .repr [.int i] = reprF m (.int i) := rfl
  rw [e]
  unfold reprF
  have ep : pyM m (.int i) = some (.int i) := by simp [pyM, pyD]
  rw [ep]
  dsimp only
  have c1 : plainP (.int i) = true := rfl
  have c2 : (PyData.int i).showable = true := by
    have hl : i.natAbs.log2 < 14 := by
      by_cases h0 : i.natAbs = 0
      · rw [h0]; decide
      · exact (Nat.log2_lt h0).mpr (by omega)
    simp only [PyData.showable, decide_eq_true_eq]; omega
  have c3 : decide ((PyData.int i).depth ≤ 60) = true := by simp [PyData.depth]
  have c4 : decide ((PyData.int i).shown.length ≤ sizeLine) = true := by
    rw [decide_eq_true_eq]
    exact Nat.le_trans (PyData.shown_int_le2 (by omega) (by omega)) (by decide)
  rw [if_pos (by rw [c1, c2, c3, c4]; rfl)]
theorem repr_ix {m : Mu} {x : D} (h : Ix x) : biF m .repr [x] = some (wR x) := by
  obtain ⟨i, rfl, h1, h2⟩ := h
  exact repr_int h1 h2
theorem Itm.l {l r : Ti} {x : D} (h : Itm (.nd l x r)) : Itm l := fun y hy => h y (by simp [its, hy])
theorem Itm.r {l r : Ti} {x : D} (h : Itm (.nd l x r)) : Itm r := fun y hy => h y (by simp [its, hy])
theorem Itm.x {l r : Ti} {x : D} (h : Itm (.nd l x r)) : Ix x := h x (by simp [its])
theorem setd2 {w : D → D} {κ : D → NestedKey} (W : Wy w κ) {m : Mu} {j : Nat} {L : List Ti} {l r : Ti} {x : D} (hm : m[j]? = some (.dcm (kvL w (add r (add l L))))) (h : Gl L) (hi : Itm (.nd l x r)) (hz : L.length + szT (.nd l x r) < 100000) :
    dmsdF m (.ref j) (.tup [.int (num (add l L) l : Nat), w x, .int (num (add r (add l L)) r : Nat)]) (.int (((add r (add l L)).length : Int) + 1)) = some (.int (num (add (.nd l x r) L) (.nd l x r) : Nat), m.set j (.dcm (kvL w (add (.nd l x r) L)))) := by
  have h1 := add_gl l h hi.l
  have h2 := add_gl r h1 hi.r
  have o1 : On (add r (add l L)) l := (add_on l L).add
  have o2 : On (add r (add l L)) r := add_on r _
  have hk : D.tup [.int (num (add l L) l : Nat), w x, .int (num (add r (add l L)) r : Nat)] = key w (add r (add l L)) (.nd l x r) := by
    simp only [key]
    rw [num_add (add_on l L)]
  have z1 := add_sz l L
  have z2 := add_sz r (add l L)
  rw [hk, setd W hm h2 o1 o2 hi.x (by simp only [szT] at hz; omega)]
  rw [add]
  by_cases q : Ti.nd l x r ∈ add r (add l L)
  · rw [if_pos q, if_pos q, setsame hm]
  · rw [if_neg q, if_neg q]
    have : num (add r (add l L) ++ [.nd l x r]) (.nd l x r) = (add r (add l L)).length + 1 := by
      show pos _ _ + 1 = _
      have e : ∀ L : List Ti, Ti.nd l x r ∉ L → pos (.nd l x r) (L ++ [.nd l x r]) = L.length := by
        intro L
        induction L with
        | nil => intro _; simp [pos]
        | cons u M ih =>
          intro hn
          rw [List.cons_append, pos, if_neg (fun e => hn (by rw [e]; exact List.mem_cons_self)), ih fun q => hn (List.mem_cons_of_mem _ q)]
          rfl
      rw [e _ q]
    rw [this]
theorem len_dcm {C : Ev.Cl} {s : Sl} {m : Mu} {v j : Nat} {kvs : List (D × D)} (h : s[v]? = some (some (.ref j))) (hm : m[j]? = some (.dcm kvs)) : evE C (.dmlen (.var v)) false s m = .ok (.int (kvs.length : Nat)) m := by
  simp [evE, h, dmlenF, dcmD, hm, opt_s, bind_k]
theorem isN_nd {m : Mu} {l r : Ti} {x : D} : cmpF m .Is (toD (.nd l x r)) .non = some false := rfl
theorem kv_len (w : D → D) (L : List Ti) : (kvL w L).length = L.length := by simp [kvL]
theorem ntie_ok : ∀ (t : Ti) {n j : Nat} {m : Mu} {L : List Ti}, Gl L → Itm t → m[j]? = some (.dcm (kvL wR L)) → L.length + szT t < 100000 → dp t + 1 ≤ n → callF P n 27 [toD t, .ref j] m = .ok (.int (num (add t L) t : Nat)) (m.set j (.dcm (kvL wR (add t L))))
  | .nil, n, j, m, L, h, hi, hm, hz, hn => by
    obtain ⟨n, rfl⟩ : ∃ n', n = n' + 1 := ⟨n - 1, by omega⟩
    have e : m.set j (.dcm (kvL wR (add .nil L))) = m := by rw [add]; exact setsame hm
    rw [e]
    refine eq_wp (call_wp rfl rfl ?_)
    simp only [f27, b27, ww, putI, dropI]
    simp [oo, ixN, isAbs, partD, -Bool.exists_bool, -Prod.exists, -Bool.not_eq_eq_eq_not, toD, isN0, finq_iff, num]
  | .nd l x r, n, j, m, L, h, hi, hm, hz, hn => by
    simp only [dp] at hn
    obtain ⟨n, rfl⟩ : ∃ n', n = n' + 1 := ⟨n - 1, by omega⟩
    have hs : szT (.nd l x r) = szT l + 1 + szT r := sz_nd
    have hj : j < m.length := (List.getElem?_eq_some_iff.mp hm).1
    have h1 := add_gl l h hi.l
    have z1 := add_sz l L
    have e1 := ntie_ok l (n := n) (j := j) (m := m) h hi.l hm (by omega) (by omega)
    have m1 : (m.set j (.dcm (kvL wR (add l L))))[j]? = some (.dcm (kvL wR (add l L))) := List.getElem?_set_self hj
    have e2 := ntie_ok r (n := n) (j := j) h1 hi.r m1 (by omega) (by omega)
    rw [List.set_set] at e2
    have m2 : (m.set j (.dcm (kvL wR (add r (add l L)))))[j]? = some (.dcm (kvL wR (add r (add l L)))) := List.getElem?_set_self hj
    have e3 := setd2 wyR (x := x) m2 h hi (by omega)
    rw [List.set_set] at e3
    have hD : toD (.nd l x r) = .tup [toD l, x, toD r, .int ((szT l : Int) + 1 + (szT r : Int))] := rfl
    have hre := fun m => repr_ix (m := m) hi.x
    refine eq_wp (call_wp rfl rfl ?_)
    simp only [f27, b27, List.map_cons, List.map_nil, List.cons_append, List.nil_append, List.replicate]
    refine st_ite0 (m' := m) (eq_wp (by simp only [ww, putI, dropI]; simp [oo, ixN, isAbs, partD, -Bool.exists_bool, -Prod.exists, -Bool.not_eq_eq_eq_not, isN_nd])) ?_
    refine st_unp (m' := m) (xs := [toD l, x, toD r, .int ((szT l : Int) + 1 + (szT r : Int))]) (by simp [evE, hD]) rfl ?_
    simp only [List.zip, List.zipWith, List.foldl, List.set_cons_succ, List.set_cons_zero]
    refine st_set (m' := m.set j (.dcm (kvL wR (add r (add l L))))) (d := .tup [.int (num (add l L) l : Nat), wR x, .int (num (add r (add l L)) r : Nat)]) (by simp [evE, evEs, at_lit, e1, e2, hre, opt_s, bind_k]) ?_
    simp only [List.set_cons_succ, List.set_cons_zero]
    refine st_ret (m' := m.set j (.dcm (kvL wR (add (.nd l x r) L)))) (d := .int (num (add (.nd l x r) L) (.nd l x r) : Nat)) ?_ ?_
    rotate_left
    · show FinQ false m (fun d' m' => d' = .int (num (add (.nd l x r) L) (.nd l x r) : Nat) ∧ m' = m.set j (.dcm (kvL wR (add (.nd l x r) L)))) _ _
      exact finq_same (by simp) ⟨rfl, rfl⟩
    have hl := len_dcm (C := callF P n) (s := [some (toD (.nd l x r)), some (.ref j), some (.tup [.int (num (add l L) l : Nat), wR x, .int (num (add r (add l L)) r : Nat)]), some (toD l), some x, some (toD r), some (.int ((szT l : Int) + 1 + (szT r : Int)))]) (v := 1) rfl m2
    rw [kv_len] at hl
    have hd : dcmD (m.set j (.dcm (kvL wR (add r (add l L))))) (.ref j) = some (kvL wR (add r (add l L))) := by simp only [dcmD, m2]
    have ha : binF (m.set j (.dcm (kvL wR (add r (add l L))))) .Add (.int ((add r (add l L)).length : Nat)) (.int 1) = some (.int (((add r (add l L)).length : Int) + 1)) := rfl
    have hx : evE (callF P n) (.bin .Add (.dmlen (.var 1)) (.cst (.int 1))) false [some (toD (.nd l x r)), some (.ref j), some (.tup [.int (num (add l L) l : Nat), wR x, .int (num (add r (add l L)) r : Nat)]), some (toD l), some x, some (toD r), some (.int ((szT l : Int) + 1 + (szT r : Int)))] (m.set j (.dcm (kvL wR (add r (add l L))))) = .ok (.int (((add r (add l L)).length : Int) + 1)) (m.set j (.dcm (kvL wR (add r (add l L))))) := by
      rw [evE, tst_f, hl, bind_k]
      simp [evE, ha, opt_s, bind_k]
    rw [evE, tst_f]
    simp only [evE, List.getElem?_cons_zero, List.getElem?_cons_succ, tst_f, opt_s, bind_k] at hx ⊢
    rw [hd]
    simp only [opt_s, bind_k]
    rw [hx]
    simp only [bind_k]
    rw [e3]
end K68
namespace K68
open PySem Ev L2
open Lib hiding St Stp Sq
theorem lnum_ok : ∀ (t : Ti) {n j : Nat} {m : Mu} {L : List Ti}, Gl L → Itm t → m[j]? = some (.dcm (kvL wI L)) → L.length + szT t < 100000 → dp t + 1 ≤ n → callF P n 33 [toD t, .ref j] m = .ok (.int (num (add t L) t : Nat)) (m.set j (.dcm (kvL wI (add t L))))
  | .nil, n, j, m, L, h, hi, hm, hz, hn => by
    obtain ⟨n, rfl⟩ : ∃ n', n = n' + 1 := ⟨n - 1, by omega⟩
    have e : m.set j (.dcm (kvL wI (add .nil L))) = m := by rw [add]; exact setsame hm
    rw [e]
    refine eq_wp (call_wp rfl rfl ?_)
    simp only [f33, b33, ww, putI, dropI]
    simp [oo, ixN, isAbs, partD, -Bool.exists_bool, -Prod.exists, -Bool.not_eq_eq_eq_not, toD, isN0, finq_iff, num]
  | .nd l x r, n, j, m, L, h, hi, hm, hz, hn => by
    simp only [dp] at hn
    obtain ⟨n, rfl⟩ : ∃ n', n = n' + 1 := ⟨n - 1, by omega⟩
    have hs : szT (.nd l x r) = szT l + 1 + szT r := sz_nd
    have hj : j < m.length := (List.getElem?_eq_some_iff.mp hm).1
    have h1 := add_gl l h hi.l
    have z1 := add_sz l L
    have e1 := lnum_ok l (n := n) (j := j) (m := m) h hi.l hm (by omega) (by omega)
    have m1 : (m.set j (.dcm (kvL wI (add l L))))[j]? = some (.dcm (kvL wI (add l L))) := List.getElem?_set_self hj
    have e2 := lnum_ok r (n := n) (j := j) h1 hi.r m1 (by omega) (by omega)
    rw [List.set_set] at e2
    have m2 : (m.set j (.dcm (kvL wI (add r (add l L)))))[j]? = some (.dcm (kvL wI (add r (add l L)))) := List.getElem?_set_self hj
    have e3 := setd2 wyI (x := x) m2 h hi (by omega)
    rw [List.set_set] at e3
    have hD : toD (.nd l x r) = .tup [toD l, x, toD r, .int ((szT l : Int) + 1 + (szT r : Int))] := rfl
    have i0 : ∀ m, ixF m (toD (.nd l x r)) (.int 0) = some (toD l) := fun _ => rfl
    have i1 : ∀ m, ixF m (toD (.nd l x r)) (.int 1) = some x := fun _ => rfl
    have i2 : ∀ m, ixF m (toD (.nd l x r)) (.int 2) = some (toD r) := fun _ => rfl
    refine eq_wp (call_wp rfl rfl ?_)
    simp only [f33, b33, List.map_cons, List.map_nil, List.cons_append, List.nil_append, List.replicate]
    refine st_ite0 (m' := m) (eq_wp (by simp only [ww, putI, dropI]; simp [oo, ixN, isAbs, partD, -Bool.exists_bool, -Prod.exists, -Bool.not_eq_eq_eq_not, isN_nd])) ?_
    refine st_set (m' := m.set j (.dcm (kvL wI (add r (add l L))))) (d := .tup [.int (num (add l L) l : Nat), wI x, .int (num (add r (add l L)) r : Nat)]) (by simp [evE, evEs, at_lit, e1, e2, i0, i1, i2, opt_s, bind_k, wI]) ?_
    simp only [List.set_cons_succ, List.set_cons_zero]
    refine st_ret (m' := m.set j (.dcm (kvL wI (add (.nd l x r) L)))) (d := .int (num (add (.nd l x r) L) (.nd l x r) : Nat)) ?_ ?_
    rotate_left
    · show FinQ false m (fun d' m' => d' = .int (num (add (.nd l x r) L) (.nd l x r) : Nat) ∧ m' = m.set j (.dcm (kvL wI (add (.nd l x r) L)))) _ _
      exact finq_same (by simp) ⟨rfl, rfl⟩
    have hl := len_dcm (C := callF P n) (s := [some (toD (.nd l x r)), some (.ref j), some (.tup [.int (num (add l L) l : Nat), wI x, .int (num (add r (add l L)) r : Nat)])]) (v := 1) rfl m2
    rw [kv_len] at hl
    have hd : dcmD (m.set j (.dcm (kvL wI (add r (add l L))))) (.ref j) = some (kvL wI (add r (add l L))) := by simp only [dcmD, m2]
    have ha : binF (m.set j (.dcm (kvL wI (add r (add l L))))) .Add (.int ((add r (add l L)).length : Nat)) (.int 1) = some (.int (((add r (add l L)).length : Int) + 1)) := rfl
    have hx : evE (callF P n) (.bin .Add (.dmlen (.var 1)) (.cst (.int 1))) false [some (toD (.nd l x r)), some (.ref j), some (.tup [.int (num (add l L) l : Nat), wI x, .int (num (add r (add l L)) r : Nat)])] (m.set j (.dcm (kvL wI (add r (add l L))))) = .ok (.int (((add r (add l L)).length : Int) + 1)) (m.set j (.dcm (kvL wI (add r (add l L))))) := by
      rw [evE, tst_f, hl, bind_k]
      simp [evE, ha, opt_s, bind_k]
    rw [evE, tst_f]
    simp only [evE, List.getElem?_cons_zero, List.getElem?_cons_succ, tst_f, opt_s, bind_k] at hx ⊢
    rw [hd]
    simp only [opt_s, bind_k]
    rw [hx]
    simp only [bind_k]
    rw [e3]
noncomputable def adds : List Ti → List Ti → List Ti
  | L, [] => L
  | L, t :: r => adds (add t L) r
theorem adds_gl : ∀ {ss L : List Ti}, Gl L → (∀ t ∈ ss, Itm t) → Gl (adds L ss)
  | [], _, h, _ => h
  | t :: r, L, h, hi => adds_gl (ss := r) (L := add t L) (add_gl t h (hi t List.mem_cons_self)) fun y hy => hi y (List.mem_cons_of_mem _ hy)
theorem On.adds {t : Ti} : ∀ {ss L : List Ti}, On L t → On (adds L ss) t
  | [], _, h => h
  | u :: r, L, h => On.adds (ss := r) (h.add (u := u))
theorem adds_on {t : Ti} : ∀ {ss L : List Ti}, t ∈ ss → On (adds L ss) t
  | u :: r, L, h => by
    rcases List.mem_cons.mp h with e | e
    · rw [e]; exact On.adds (ss := r) (add_on u L)
    · exact adds_on (ss := r) e
theorem adds_sz : ∀ (ss L : List Ti), (adds L ss).length ≤ L.length + (ss.map szT).sum
  | [], L => by simp [adds]
  | t :: r, L => by
    have h1 := add_sz t L
    have h2 := adds_sz r (add t L)
    rw [adds, List.map_cons, List.sum_cons]; omega
theorem gl_nil : Gl [] := ⟨List.nodup_nil, by simp⟩
theorem cl_on {L : List Ti} (h : Gl L) : Cl (On L) := ⟨.inl rfl, fun l x r hs => by
  rcases hs with hs | hs
  · cases hs
  · obtain ⟨l', x', r', e, a, b, _⟩ := h.cl _ hs
    cases e
    exact ⟨a, b⟩⟩
noncomputable def newN (t : Ti) (ss : List Ti) : Int := ((add t (adds [] ss)).length : Int) - ((adds [] ss).length : Int)
theorem newN_le {t : Ti} {ss : List Ti} {c : Nat} (hi : Itm t) (hs : ∀ s ∈ ss, Itm s) (h : newc (On (adds [] ss)) t ≤ c) : newN t ss ≤ c := by
  have g := adds_gl gl_nil hs
  have := add_len (cl_on g) t g hi fun u hu => hu
  unfold newN
  omega
section
variable {n : Nat} {m : Mu}
def NBd (f : Nat) (w : Str) (v : Nat) (j : Nat) : Ss := .cons (.ex (.call w f (.cons (.var v) (.cons (.var j) .nil)))) .nil
theorem lnew_go {s0 s1 s4 : Option D} {j : Nat} {Q : Q4} : ∀ (ss : List Ti) {L : List Ti} {m : Mu} {o : Option D}, Gl L → (∀ t ∈ ss, Itm t ∧ dp t + 1 ≤ n) → m[j]? = some (.dcm (kvL wI L)) → L.length + (ss.map szT).sum < 100000 → (∀ o, Q.n [s0, s1, some (.ref j), o, s4] (m.set j (.dcm (kvL wI (adds L ss))))) →
    (goF (foB (callF P n) (.nm 3) (NBd 33 (Str.ofString "_law_number") 3 2)) (ss.map toD) [s0, s1, some (.ref j), o, s4] m).wp Q
  | [], L, m, o, h, hi, hm, hz, q => by
    have := q o
    rw [adds, setsame hm] at this
    exact this
  | t :: r, L, m, o, h, hi, hm, hz, q => by
    have hj : j < m.length := (List.getElem?_eq_some_iff.mp hm).1
    rw [List.map_cons, List.sum_cons] at hz
    have e := lnum_ok t (n := n) (j := j) (m := m) h (hi t List.mem_cons_self).1 hm (by omega) (hi t List.mem_cons_self).2
    have z := add_sz t L
    rw [List.map_cons, goF_cons, foB_nm]
    simp only [List.set_cons_succ, List.set_cons_zero]
    unfold NBd
    refine st_ex (d := .int (num (add t L) t : Nat)) (m' := m.set j (.dcm (kvL wI (add t L)))) (by simp [evE, evEs, at_lit, e]) (st_nil (C := callF P n) ?_)
    exact lnew_go r (add_gl t h (hi t List.mem_cons_self).1) (fun y hy => hi y (List.mem_cons_of_mem _ hy)) (List.getElem?_set_self hj) (by omega) fun o => by
      have := q o
      rw [adds] at this
      rw [List.set_set]
      exact this
theorem new_go {s0 s1 s4 : Option D} {j : Nat} {Q : Q4} : ∀ (ss : List Ti) {L : List Ti} {m : Mu} {o : Option D}, Gl L → (∀ t ∈ ss, Itm t ∧ dp t + 1 ≤ n) → m[j]? = some (.dcm (kvL wR L)) → L.length + (ss.map szT).sum < 100000 → (∀ o, Q.n [s0, s1, o, some (.ref j), s4] (m.set j (.dcm (kvL wR (adds L ss))))) →
    (goF (foB (callF P n) (.nm 2) (NBd 27 (Str.ofString "number_tie") 2 3)) (ss.map toD) [s0, s1, o, some (.ref j), s4] m).wp Q
  | [], L, m, o, h, hi, hm, hz, q => by
    have := q o
    rw [adds, setsame hm] at this
    exact this
  | t :: r, L, m, o, h, hi, hm, hz, q => by
    have hj : j < m.length := (List.getElem?_eq_some_iff.mp hm).1
    rw [List.map_cons, List.sum_cons] at hz
    have e := ntie_ok t (n := n) (j := j) (m := m) h (hi t List.mem_cons_self).1 hm (by omega) (hi t List.mem_cons_self).2
    have z := add_sz t L
    rw [List.map_cons, goF_cons, foB_nm]
    simp only [List.set_cons_succ, List.set_cons_zero]
    unfold NBd
    refine st_ex (d := .int (num (add t L) t : Nat)) (m' := m.set j (.dcm (kvL wR (add t L)))) (by simp [evE, evEs, at_lit, e]) (st_nil (C := callF P n) ?_)
    exact new_go r (add_gl t h (hi t List.mem_cons_self).1) (fun y hy => hi y (List.mem_cons_of_mem _ hy)) (List.getElem?_set_self hj) (by omega) fun o => by
      have := q o
      rw [adds] at this
      rw [List.set_set]
      exact this
theorem lnew_ok {t : Ti} {ss : List Ti} (ht : Itm t) (hd : dp t + 1 ≤ n) (hs : ∀ s ∈ ss, Itm s ∧ dp s + 1 ≤ n) (hz : (ss.map szT).sum + szT t < 100000) : callF P (n + 1) 35 [toD t, .lst (ss.map toD)] m = .ok (.int (newN t ss)) m := by
  refine eq_wp (call_wp rfl rfl ?_)
  simp only [f35, b35, List.map_cons, List.map_nil, List.cons_append, List.nil_append, List.replicate]
  refine st_set (d := .ref m.length) (m' := m ++ [.dcm []]) (by simp [evE]) ?_
  simp only [List.set_cons_succ, List.set_cons_zero]
  refine st_fo (xs := ss.map toD) (m' := m ++ [.dcm []]) (by simp [evI, evE, at_lit, itF]) ?_
  refine lnew_go ss gl_nil hs (by simp [kvL]) (by simp; omega) fun o => ?_
  have g := adds_gl gl_nil fun s h => (hs s h).1
  have z := adds_sz ss []
  simp only [List.length_nil, Nat.zero_add] at z
  dsimp only
  generalize hm' : (m ++ [.dcm []] : Mu).set m.length (.dcm (kvL wI (adds [] ss))) = m'
  have hj : m.length < (m ++ [.dcm []] : Mu).length := by simp
  have h' : m'[m.length]? = some (.dcm (kvL wI (adds [] ss))) := by rw [← hm']; exact List.getElem?_set_self hj
  have l1 := len_dcm (C := callF P n) (s := [some (toD t), some (.lst (ss.map toD)), some (.ref m.length), o, none]) (v := 2) rfl h'
  rw [kv_len] at l1
  refine st_set (d := .int ((adds [] ss).length : Nat)) (m' := m') l1 ?_
  simp only [List.set_cons_succ, List.set_cons_zero]
  have e := lnum_ok t (n := n) (j := m.length) (m := m') g ht h' (by omega) hd
  refine st_ex (d := .int (num (add t (adds [] ss)) t : Nat)) (m' := m'.set m.length (.dcm (kvL wI (add t (adds [] ss))))) (by simp [evE, evEs, at_lit, e]) ?_
  have hj' : m.length < m'.length := (List.getElem?_eq_some_iff.mp h').1
  have l2 := len_dcm (C := callF P n) (s := [some (toD t), some (.lst (ss.map toD)), some (.ref m.length), o, some (.int ((adds [] ss).length : Nat))]) (v := 2) rfl (List.getElem?_set_self (a := O.dcm (kvL wI (add t (adds [] ss)))) hj')
  rw [kv_len] at l2
  refine st_ret (d := .int (newN t ss)) (m' := m'.set m.length (.dcm (kvL wI (add t (adds [] ss))))) ?_ ?_
  · rw [evE, tst_f, l2, bind_k]
    simp [evE, at_lit, binF, subF, newN, opt_s, bind_k]
  · show FinQ false m (fun d' m'' => d' = .int (newN t ss) ∧ m'' = m) _ _
    refine fin_gone ?_ (fun i hi => ?_) (fun k => rfl) (fun i => by simp) ⟨rfl, rfl⟩
    · rw [List.length_set, ← hm', List.length_set]; simp
    · rw [List.getElem?_set_ne (by omega), ← hm', List.getElem?_set_ne (by omega), List.getElem?_append_left hi]
theorem fresh_ok {t : Ti} {ss : List Ti} (ht : Tie t) (hti : Itm t) (h1000 : szT t ≤ 1000) (hs : ∀ s ∈ ss, Tie s ∧ Itm s ∧ szT s ≤ 1000) (hl : ss.length ≤ 3) (hn : 40 ≤ n) : callF P (n + 1) 28 [toD t, .lst (ss.map toD)] m = .ok (.int (newN t ss)) m := by
  have hdp := dp_le ht.bal h1000
  have hss : ∀ s ∈ ss, Itm s ∧ dp s + 1 ≤ n := fun s h => ⟨(hs s h).2.1, by have := dp_le (hs s h).1.bal (hs s h).2.2; omega⟩
  have hz : (ss.map szT).sum ≤ 3000 := by
    have : ∀ l : List Ti, (∀ s ∈ l, szT s ≤ 1000) → (l.map szT).sum ≤ l.length * 1000 := by
      intro l
      induction l with
      | nil => intro _; exact Nat.le_refl _
      | cons a r ih =>
        intro h
        have h1 := h a List.mem_cons_self
        have h2 := ih fun s hs => h s (List.mem_cons_of_mem _ hs)
        simp only [List.map_cons, List.sum_cons, List.length_cons]; omega
    have := this ss fun s h => (hs s h).2.2
    omega
  have hlk := look_ok (n := n) (m := m) ht h1000 (by omega)
  refine eq_wp (call_wp rfl rfl ?_)
  simp only [f28, b28, List.map_cons, List.map_nil, List.cons_append, List.nil_append, List.replicate]
  refine st_ex (d := .non) (m' := m) (by simp [evE, evEs, at_lit, hlk]) ?_
  refine st_fo (xs := ss.map toD) (m' := m) (by simp [evI, evE, at_lit, itF]) ?_
  refine goF_wp (fun rest s m' => m' = m ∧ (∃ r : List Ti, rest = r.map toD ∧ ∀ x ∈ r, x ∈ ss) ∧ ∃ o, s = [some (toD t), some (.lst (ss.map toD)), o, none, none]) ?_ ?_ _ _ _ ⟨rfl, ⟨ss, rfl, fun _ h => h⟩, _, rfl⟩
  · rintro x rest s m' ⟨rfl, ⟨r, hr, hm⟩, o, rfl⟩
    cases r with
    | nil => cases hr
    | cons u r =>
      rw [List.map_cons] at hr
      cases hr
      have hu := hs u (hm u List.mem_cons_self)
      have e := look_ok (n := n) (m := m') hu.1 hu.2.2 (by omega)
      rw [foB_nm]
      simp only [List.set_cons_succ, List.set_cons_zero]
      refine st_ex (d := .non) (m' := m') (by simp [evE, evEs, at_lit, e]) (st_nil (C := callF P n) ⟨rfl, ⟨r, rfl, fun x hx => hm x (List.mem_cons_of_mem _ hx)⟩, _, rfl⟩)
  · rintro s m' ⟨rfl, _, o, rfl⟩
    dsimp only
    refine st_set (d := .ref m'.length) (m' := m' ++ [.dcm []]) (by simp [evE]) ?_
    simp only [List.set_cons_succ, List.set_cons_zero]
    refine st_fo (xs := ss.map toD) (m' := m' ++ [.dcm []]) (by simp [evI, evE, at_lit, itF]) ?_
    refine new_go ss gl_nil hss (by simp [kvL]) (by simp; omega) fun o => ?_
    have g := adds_gl gl_nil fun s h => (hss s h).1
    have z := adds_sz ss []
    simp only [List.length_nil, Nat.zero_add] at z
    dsimp only
    generalize hm' : (m' ++ [.dcm []] : Mu).set m'.length (.dcm (kvL wR (adds [] ss))) = m2
    have hj : m'.length < (m' ++ [.dcm []] : Mu).length := by simp
    have h' : m2[m'.length]? = some (.dcm (kvL wR (adds [] ss))) := by rw [← hm']; exact List.getElem?_set_self hj
    have l1 := len_dcm (C := callF P n) (s := [some (toD t), some (.lst (ss.map toD)), o, some (.ref m'.length), none]) (v := 3) rfl h'
    rw [kv_len] at l1
    refine st_set (d := .int ((adds [] ss).length : Nat)) (m' := m2) l1 ?_
    simp only [List.set_cons_succ, List.set_cons_zero]
    have e := ntie_ok t (n := n) (j := m'.length) (m := m2) g hti h' (by omega) (by omega)
    refine st_ex (d := .int (num (add t (adds [] ss)) t : Nat)) (m' := m2.set m'.length (.dcm (kvL wR (add t (adds [] ss))))) (by simp [evE, evEs, at_lit, e]) ?_
    have hj' : m'.length < m2.length := (List.getElem?_eq_some_iff.mp h').1
    have l2 := len_dcm (C := callF P n) (s := [some (toD t), some (.lst (ss.map toD)), o, some (.ref m'.length), some (.int ((adds [] ss).length : Nat))]) (v := 3) rfl (List.getElem?_set_self (a := O.dcm (kvL wR (add t (adds [] ss)))) hj')
    rw [kv_len] at l2
    refine st_ret (d := .int (newN t ss)) (m' := m2.set m'.length (.dcm (kvL wR (add t (adds [] ss))))) ?_ ?_
    · rw [evE, tst_f, l2, bind_k]
      simp [evE, at_lit, binF, subF, newN, opt_s, bind_k]
    · show FinQ false m' (fun d' m'' => d' = .int (newN t ss) ∧ m'' = m') _ _
      refine fin_gone ?_ (fun i hi => ?_) (fun k => rfl) (fun i => by simp) ⟨rfl, rfl⟩
      · rw [List.length_set, ← hm', List.length_set]; simp
      · rw [List.getElem?_set_ne (by omega), ← hm', List.getElem?_set_ne (by omega), List.getElem?_append_left hi]
end
end K68
namespace K68
open PySem Ev L2
open Lib hiding St Stp Sq
open Tk (St Stp Sq take_ok goL_st)
theorem hK : P[29]? = some Tk.takeF := rfl
theorem smI {i : Int} (h : i.natAbs < 10 ^ 35) : Sm 120 0 (.int i) := by
  have hl : i.natAbs.log2 < 117 := by
    by_cases h0 : i.natAbs = 0
    · rw [h0]; decide
    · exact (Nat.log2_lt h0).mpr (by omega)
  refine ⟨.int i, fun _ => by simp [pyD], rfl, ?_, ?_, by simp [PyData.depth], ?_⟩
  · simp only [PyData.showable, decide_eq_true_eq]; omega
  · simp only [PyData.intsShort, decide_eq_true_eq]
    have e := int_text_length_le10 (k := 35) (by decide) h
    show (Str.ofString (toString i)).length ≤ 60
    rw [ofString_length]
    omega
  · simp only [PyData.weight]
    split <;> omega
theorem itI {i : Int} (h : i.natAbs < 10 ^ 35) : Item (.int i) := ⟨rfl, (smI h).mono (by omega) (by omega)⟩
section
variable {n : Nat} {m : Mu}
theorem lcount_ok {t : Ti} : callF P (n + 1) 30 [toD t] m = .ok (.int (szT t : Nat)) m := by
  refine eq_wp (call_wp rfl rfl ?_)
  simp only [f30, b30, ww, putI, dropI]
  cases t with
  | nil => simp [oo, ixN, isAbs, partD, -Bool.exists_bool, -Prod.exists, -Bool.not_eq_eq_eq_not, toD, isN0, finq_iff, szT]
  | nd l x r => simp [oo, ixN, isAbs, partD, -Bool.exists_bool, -Prod.exists, -Bool.not_eq_eq_eq_not, toD, isN1, finq_iff, szT]
theorem lover_ok {l r : Ti} {x : D} : callF P (n + 2) 31 [toD l, x, toD r] m = .ok (toD (.nd l x r)) m := by
  refine eq_wp (call_wp rfl rfl ?_)
  simp only [f31, b31, ww, putI, dropI]
  simp [oo, ixN, isAbs, partD, -Bool.exists_bool, -Prod.exists, -Bool.not_eq_eq_eq_not, lcount_ok, finq_iff, toD]
end
theorem slLst {m : Mu} {xs : List D} {lo hi : Option Int} : slF m (.lst xs) lo hi = some (.lst (cutL xs lo hi)) := rfl
theorem w34 {w W p q : Nat} (h : W * (p * 3) ≤ q * 4) (h2 : 4 * w ≤ 3 * W) : w * p ≤ q := by
  have h3 : 4 * w * p ≤ 3 * W * p := Nat.mul_le_mul_right p h2
  have e1 : 4 * w * p = 4 * (w * p) := Nat.mul_assoc ..
  have e2 : 3 * W * p = W * (p * 3) := by rw [Nat.mul_comm 3 W, Nat.mul_assoc, Nat.mul_comm 3 p]
  omega
def Made (xs : List D) (d : D) : Prop := ∃ t, d = toD t ∧ Bal t ∧ its t = xs
theorem made_ok : ∀ (k n : Nat) {j : Nat} {xs : List D} {m : Mu}, (xs.length + 1) * 3 ^ k ≤ 4 ^ k → xs.length ≤ 1000 → St m j → k + 4 ≤ n → (callF P n 32 [.ref j, .lst xs] m).wp fun d m' => Stp m m' j ∧ Made xs d := by
  intro k
  induction k with
  | zero =>
    intro n j xs m hL hL2 hs hn
    obtain ⟨n, rfl⟩ : ∃ n', n = n' + 3 := ⟨n - 3, by omega⟩
    have h0 : xs = [] := List.length_eq_zero_iff.mp (by simp at hL; simpa using hL)
    subst h0
    refine call_wp rfl rfl ?_
    simp only [f32, b32, ww, putI, dropI]
    simp [oo, ixN, isAbs, partD, -Bool.exists_bool, -Prod.exists, -Bool.not_eq_eq_eq_not, Lib.eqL]
    exact finq_same rfl ⟨Stp.refl hs, .nil, rfl, trivial, rfl⟩
  | succ k ih =>
    intro n j xs m hL hL2 hs hn
    obtain ⟨n, rfl⟩ : ∃ n', n = n' + 3 := ⟨n - 3, by omega⟩
    refine call_wp rfl rfl ?_
    simp only [f32, b32, ww, putI, dropI]
    by_cases h0 : xs = []
    · subst h0
      simp [oo, ixN, isAbs, partD, -Bool.exists_bool, -Prod.exists, -Bool.not_eq_eq_eq_not, Lib.eqL]
      exact finq_same rfl ⟨Stp.refl hs, .nil, rfl, trivial, rfl⟩
    · have hpos : 0 < xs.length := List.length_pos_iff.mpr h0
      have he : xs.isEmpty = false := by simpa using h0
      rw [Nat.pow_succ, Nat.pow_succ] at hL
      obtain ⟨L, hLe⟩ : ∃ L, xs.length = L := ⟨_, rfl⟩
      have go : ∀ (mid : Int) (m1 : Mu), Stp m m1 j → 0 ≤ mid → mid ≤ L - 1 → (L : Int) + 1 ≤ 4 * (mid + 1) → (L : Int) + 1 ≤ 4 * (L - mid) → (callF P (n + 2) 32 [.ref j, .lst (cutL xs none (some mid))] m1).wpx (fun _ _ _ => False) fun x m2 => ∃ z, atI xs mid = some z ∧ (callF P (n + 2) 32 [.ref j, .lst (cutL xs (some (mid + 1)) none)] m2).wpx (fun _ _ _ => False) fun y m3 => (callF P (n + 2) 31 [x, z, y] m3).wpx (fun _ _ _ => False) fun d m4 => FinQ false m (fun d m' => Stp m m' j ∧ Made xs d) d m4 := by
        intro mid m1 hs1 hm0 hm1 hm2 hm3
        obtain ⟨i, rfl⟩ : ∃ i : Nat, mid = i := ⟨mid.toNat, by omega⟩
        have e3 : cutL xs (some ((i : Int) + 1)) none = xs.drop (i + 1) := by
          have := cut_drop (xs := xs) (n := i + 1)
          simpa using this
        rw [cut_take, e3]
        have hk : i < xs.length := by omega
        refine wp_mono (ih (n + 2) (xs := xs.take i) (w34 hL (by rw [List.length_take]; omega)) (by rw [List.length_take]; omega) hs1.st (by omega)) ?_
        rintro _ m2 ⟨hs2, tl, rfl, bl, il⟩
        refine ⟨xs[i], by rw [at_nat]; exact List.getElem?_eq_getElem hk, ?_⟩
        refine wp_mono (ih (n + 2) (xs := xs.drop (i + 1)) (w34 hL (by rw [List.length_drop]; omega)) (by rw [List.length_drop]; omega) hs2.st (by omega)) ?_
        rintro _ m3 ⟨hs3, tr, rfl, br, ir⟩
        rw [lover_ok (n := n)]
        have hs13 := (hs1.trans hs2).trans hs3
        have l1 := congrArg List.length il
        have l2 := congrArg List.length ir
        rw [List.length_take, szT_len] at l1
        rw [List.length_drop, szT_len] at l2
        refine .inl ⟨.inr hs13.len, hs13, .nd tl xs[i] tr, rfl, ⟨by unfold ev; simp only [wt]; omega, bl, br⟩, ?_⟩
        simp only [its, il, ir]
        rw [List.getElem_cons_drop, List.take_append_drop]
      have hLI : (xs.length : Int) = L := by omega
      simp [oo, ixN, isAbs, partD, -Bool.exists_bool, -Prod.exists, -Bool.not_eq_eq_eq_not, Lib.eqL, he, slLst, Lib.max2_int, hLI]
      generalize hle : (if (1 : Int) < ((L : Int) - 1 + 5) / 4 then ((L : Int) - 1 + 5) / 4 - 1 else 0) = le
      have hle0 : 0 ≤ le := by rw [← hle]; split <;> omega
      have hle1 : (L : Int) + 1 ≤ 4 * (le + 1) := by rw [← hle]; split <;> omega
      refine ⟨fun c1 => ?_, fun c1 => ?_⟩
      · refine wp_mono (take_ok hK hs (by omega) (by omega)) ?_
        rintro _ m1 ⟨q, rfl, q0, q1, hs1⟩
        refine ⟨_, cmp_eq, fun c2 => ?_, fun c2 => ?_⟩
        · refine wp_mono (take_ok hK hs1.st (by omega) (by omega)) ?_
          rintro _ m2 ⟨q2, rfl, p0, p1, hs2⟩
          refine ⟨_, bin_add, _, rfl, wx_mono (go (le + q2) m2 (hs1.trans hs2) (by omega) (by omega) (by omega) (by omega)) ?_⟩
          rintro d m5 ⟨z, hz, hrest⟩
          exact ⟨z, by rw [ixLst]; exact hz, _, bin_add, _, rfl, hrest⟩
        · exact go _ m1 hs1 (by omega) (by omega) (by omega) (by omega)
      · exact go _ m (Stp.refl hs) (by omega) (by omega) (by omega) (by omega)
theorem itm_item {t : Ti} (hb : Bal t) (h : Itm t) : Tie t := ⟨hb, fun x hx => by
  obtain ⟨i, rfl, h1, h2⟩ := h x hx
  exact itI (by omega)⟩
theorem maxi {m : Mu} {a b : Int} : biF m .max2 [.int a, .int b] = some (.int (if b > a then b else a)) := rfl
theorem mini {m : Mu} {a b : Int} : biF m .min2 [.int a, .int b] = some (.int (if b < a then b else a)) := rfl
theorem deep_ok : ∀ (t : Ti) {n : Nat} {m : Mu}, dp t + 1 ≤ n → callF P n 34 [toD t] m = .ok (.int (dp t : Nat)) m
  | .nil, n, m, hn => by
    obtain ⟨n, rfl⟩ : ∃ n', n = n' + 1 := ⟨n - 1, by omega⟩
    refine eq_wp (call_wp rfl rfl ?_)
    simp only [f34, b34, ww, putI, dropI]
    simp [oo, ixN, isAbs, partD, -Bool.exists_bool, -Prod.exists, -Bool.not_eq_eq_eq_not, toD, isN0, finq_iff, dp]
  | .nd l x r, n, m, hn => by
    simp only [dp] at hn
    obtain ⟨n, rfl⟩ : ∃ n', n = n' + 1 := ⟨n - 1, by omega⟩
    have e1 := deep_ok l (n := n) (m := m) (by omega)
    have e2 := deep_ok r (n := n) (m := m) (by omega)
    have i0 : ∀ m, ixF m (toD (.nd l x r)) (.int 0) = some (toD l) := fun _ => rfl
    have i2 : ∀ m, ixF m (toD (.nd l x r)) (.int 2) = some (toD r) := fun _ => rfl
    have e3 : (if ((dp r : Nat) : Int) > ((dp l : Nat) : Int) then ((dp r : Nat) : Int) else ((dp l : Nat) : Int)) = (max (dp l) (dp r) : Nat) := by split <;> omega
    refine eq_wp (call_wp rfl rfl ?_)
    simp only [f34, b34, ww, putI, dropI]
    simp [oo, ixN, isAbs, partD, -Bool.exists_bool, -Prod.exists, -Bool.not_eq_eq_eq_not, isN_nd, i0, i2, e1, e2, maxi, finq_iff, dp, -gt_iff_lt]
    omega
def SB : Ss := .cons (.set 2 (.bin .FloorDiv (.bin .Mult (.var 2) (.cst (.int 3))) (.cst (.int 4)))) (.cons (.aug 1 .Add (.cst (.int 1))) .nil)
def SI (k : Nat) (m : Mu) (w : Nat) (s : Sl) (m' : Mu) : Prop := m' = m ∧ w ≤ 5001 ∧ ∃ f : Nat, s = [some (.int (k : Nat)), some (.int (f : Nat)), some (.int (w : Nat))] ∧ f + stp w = 1 + stp (k + 1)
theorem steps_ok {n : Nat} {m : Mu} {k : Nat} (hk : k ≤ 5000) : callF P (n + 1) 26 [.int (k : Nat)] m = .ok (.int (1 + stp (k + 1) : Nat)) m := by
  refine eq_wp (call_wp rfl rfl ?_)
  simp only [f26, b26, ww, putI, dropI]
  simp [oo, ixN, isAbs, partD, -Bool.exists_bool, -Prod.exists, -Bool.not_eq_eq_eq_not]
  have hwf : (5002 : Nat) ≤ wFuel := by decide
  refine goW_wp (SI k m) ?_ wFuel (k + 1) _ _ (by omega) ⟨rfl, by omega, 1, by simp, rfl⟩
  rintro w s m' ⟨rfl, hw, f, rfl, hf⟩
  by_cases h2 : w < 2
  · have hlt : ¬ (2 : Int) ≤ (w : Nat) := by omega
    simp only [ww, putI, dropI]
    simp [oo, ixN, isAbs, partD, -Bool.exists_bool, -Prod.exists, -Bool.not_eq_eq_eq_not, hlt]
    rw [stp_lt h2] at hf
    exact finq_eq (by congr 1; omega)
  · have hlt : (2 : Int) ≤ (w : Nat) := by omega
    have em : binF m' .Mult (.int (w : Nat)) (.int 3) = some (.int ((w : Nat) * 3)) := bin_mulL (by omega) (by omega)
    have ed : binF m' .FloorDiv (.int ((w : Int) * 3)) (.int 4) = some (.int ((w * 3 / 4 : Nat) : Int)) := by
      simp only [binF, fdivF]
      rw [if_pos (by omega)]
      congr 1
    have hst := stp_ge h2
    generalize hv : w * 3 / 4 = v at ed hst
    simp only [ww, putI, dropI]
    simp [oo, ixN, isAbs, partD, -Bool.exists_bool, -Prod.exists, -Bool.not_eq_eq_eq_not, hlt, em, ed]
    exact ⟨_, rfl, v, by omega, rfl, by omega, f + 1, by simp, by omega⟩
theorem sum_ints {m : Mu} : ∀ ss : List Ti, biF m .sum [.lst (ss.map fun t => .int (szT t : Nat))] = some (.int ((ss.map szT).sum : Nat)) := fun ss => by
  have h : allD intD (ss.map fun t => D.int (szT t : Nat)) = some (ss.map fun t => (szT t : Int)) := by
    induction ss with
    | nil => rfl
    | cons a r ih => simp [allD, intD, ih]
  have h2 : (ss.map fun t => (szT t : Int)).sum = ((ss.map szT).sum : Nat) := by
    clear h
    induction ss with
    | nil => rfl
    | cons a r ih => simp only [List.map_cons, List.sum_cons, ih]; omega
  simp only [biF, lsD, seqD, Option.bind_some, h, Option.map_some]
  rw [← h2]
structure Gt (t : Ti) : Prop where
  b : Bal t
  i : Itm t
  z : szT t ≤ 1000
theorem Gt.tie {t : Ti} (h : Gt t) : Tie t := itm_item h.b h.i
def CB : Ss := match b36 with | .cons _ (.cons (.fo _ _ b) _) => b | _ => .nil
theorem b36_eq : b36 = .cons (.set 2 (.bin .Add (.bi "sum" .sum (.cons (.lc (.call "_law_count" 30 (.cons (.var 6) .nil)) (.nm 6) (.of (.var 1)) (.cst (.bl true))) .nil)) (.cst (.int 1)))) (.cons (.fo (.nm 3) (.of (.var 0)) CB) (.cons (.ret (.cst (.bl true))) .nil)) := rfl
def most (ss : List Ti) : Nat := 8 + 8 * (1 + stp (min 1000 ((ss.map szT).sum + 1) + 1))
theorem cheap_ok {n : Nat} {m : Mu} {ms ss : List Ti} (hm : ∀ t ∈ ms, Gt t ∧ newc (On (adds [] ss)) t ≤ most ss) (hs : ∀ t ∈ ss, Gt t) (hl : ss.length ≤ 3) (hn : 45 ≤ n) : callF P (n + 1) 36 [.lst (ms.map toD), .lst (ss.map toD)] m = .ok (.bl true) m := by
  obtain ⟨n, rfl⟩ : ∃ k, n = k + 2 := ⟨n - 2, by omega⟩
  have hz : (ss.map szT).sum ≤ 3000 := by
    have : ∀ l : List Ti, (∀ s ∈ l, szT s ≤ 1000) → (l.map szT).sum ≤ l.length * 1000 := by
      intro l
      induction l with
      | nil => intro _; exact Nat.le_refl _
      | cons a r ih =>
        intro h
        have h1 := h a List.mem_cons_self
        have h2 := ih fun s hs => h s (List.mem_cons_of_mem _ hs)
        simp only [List.map_cons, List.sum_cons, List.length_cons]; omega
    have := this ss fun s h => (hs s h).z
    omega
  refine eq_wp (call_wp rfl rfl ?_)
  simp only [f36, List.map_cons, List.map_nil, List.cons_append, List.nil_append, List.replicate]
  rw [b36_eq]
  have hlc : ∀ o3 o4 o5 o6, goL (lcB (callF P (n + 2)) (.nm 6) (.cst (.bl true)) (.call "_law_count" 30 (.cons (.var 6) .nil)) [some (.lst (ms.map toD)), some (.lst (ss.map toD)), none, o3, o4, o5, o6]) (ss.map toD) m = .ok (ss.map fun t => .int (szT t : Nat)) m := fun o3 o4 o5 o6 => by
    refine goL_maps fun x hx => ?_
    have e := lcount_ok (n := n + 1) (m := m) (t := x)
    simp [lcB, setT, wipeS, ownT, evE, evEs, truthD, e]
  have hsl : (ss.map fun t => D.int (szT t : Nat)).length ≤ sizeLine := sz (by simp; omega)
  have hsum := sum_ints (m := m) ss
  refine st_set (d := .int ((ss.map szT).sum + 1 : Nat)) (m' := m) ?_ ?_
  · have hlc := hlc none none none none
    generalize (ss.map fun t => D.int (szT t : Nat)) = ys at hlc hsl hsum
    refine eq_wp ?_
    simp only [ww, putI, dropI]
    simp [oo, ixN, isAbs, partD, -Bool.exists_bool, -Prod.exists, -Bool.not_eq_eq_eq_not, itF, hlc, hsl, hsum]
  simp only [List.set_cons_succ, List.set_cons_zero]
  refine st_fo (xs := ms.map toD) (m' := m) (by simp [evI, evE, at_lit, itF]) ?_
  refine goF_wp (fun rest s m' => m' = m ∧ (∃ r : List Ti, rest = r.map toD ∧ ∀ x ∈ r, x ∈ ms) ∧ ∃ o3 o4 o5, s = [some (.lst (ms.map toD)), some (.lst (ss.map toD)), some (.int ((ss.map szT).sum + 1 : Nat)), o3, o4, o5, none]) ?_ ?_ _ _ _ ⟨rfl, ⟨ms, rfl, fun _ h => h⟩, _, _, _, rfl⟩
  · rintro x rest s m' ⟨rfl, ⟨r, hr, hmm⟩, o3, o4, o5, rfl⟩
    cases r with
    | nil => cases hr
    | cons t r =>
      rw [List.map_cons] at hr
      cases hr
      obtain ⟨ht, hnew⟩ := hm t (hmm t List.mem_cons_self)
      have hdp := dp_le ht.b ht.z
      have hnn := newN_le ht.i (fun s h => (hs s h).i) hnew
      have e1 := lnew_ok (n := n + 1) (m := m') (t := t) (ss := ss) ht.i (by omega) (fun s h => ⟨(hs s h).i, by have := dp_le (hs s h).b (hs s h).z; omega⟩) (by have := ht.z; omega)
      have e2 := fresh_ok (n := n + 1) (m := m') (t := t) (ss := ss) ht.tie ht.i ht.z (fun s h => ⟨(hs s h).tie, (hs s h).i, (hs s h).z⟩) hl (by omega)
      have e3 := deep_ok t (n := n + 2) (m := m') (by omega)
      have e4 := steps_ok (n := n + 1) (m := m') (k := szT t) (by have := ht.z; omega)
      have e5 := steps_ok (n := n + 1) (m := m') (k := min 1000 ((ss.map szT).sum + 1)) (by omega)
      have e6 := lcount_ok (n := n + 1) (m := m') (t := t)
      have hst := dp_stp t ht.b
      generalize hS : stp (min 1000 ((ss.map szT).sum + 1) + 1) = S at e5
      have hmost : most ss = 8 + 8 * (1 + S) := by unfold most; rw [hS]
      rw [hmost] at hnn
      have hSb : S ≤ 1001 := by
        have : ∀ w : Nat, stp w ≤ w := by
          intro w
          induction w using Nat.strongRecOn with
          | _ w ih =>
            by_cases h : w < 2
            · rw [stp_lt h]; omega
            · rw [stp_ge h]; have := ih (w * 3 / 4) (by omega); omega
        have q := this (min 1000 ((ss.map szT).sum + 1) + 1)
        rw [hS] at q
        omega
      generalize hc : (ss.map szT).sum + 1 = c at *
      have hmin : (if ((c : Nat) : Int) < (1000 : Int) then ((c : Nat) : Int) else (1000 : Int)) = ((min 1000 c : Nat) : Int) := by split <;> omega
      obtain ⟨kI, hkI⟩ : ∃ kI : Int, kI = ((min 1000 c : Nat) : Int) := ⟨_, rfl⟩
      rw [← hkI] at e5 hmin
      obtain ⟨sI, hsI⟩ : ∃ sI : Int, sI = ((1 + S : Nat) : Int) := ⟨_, rfl⟩
      rw [← hsI] at e5
      obtain ⟨dI, hdI⟩ : ∃ dI : Int, dI = ((dp t : Nat) : Int) := ⟨_, rfl⟩
      rw [← hdI] at e3
      obtain ⟨tI, htI⟩ : ∃ tI : Int, tI = ((1 + stp (szT t + 1) : Nat) : Int) := ⟨_, rfl⟩
      rw [← htI] at e4
      obtain ⟨cI, hcI⟩ : ∃ cI : Int, cI = ((c : Nat) : Int) := ⟨_, rfl⟩
      rw [← hcI] at hmin
      rw [← hcI]
      obtain ⟨N, hN⟩ : ∃ N, N = newN t ss := ⟨_, rfl⟩
      rw [← hN] at e1 e2 hnn
      obtain ⟨M, hM⟩ : ∃ M : Int, M = 8 + 8 * sI := ⟨_, rfl⟩
      have n1 : ¬ M < N := by omega
      have n2 : ¬ tI < dI := by simp only [wt] at hst; omega
      have em : binF m' .Mult (.int 8) (.int sI) = some (.int (8 * sI)) := bin_mulL (by omega) (by omega)
      have ea : binF m' .Add (.int 8) (.int (8 * sI)) = some (.int M) := by rw [hM]; rfl
      have em2 : biF m' .min2 [.int 1000, .int cI] = some (.int kI) := by rw [mini, hmin]
      rw [foB_nm]
      simp only [List.set_cons_succ, List.set_cons_zero]
      show (evSs _ (.cons (.set 4 _) (.cons (.set 5 _) (.cons (.ite _ _ _) .nil))) _ _).wp _
      refine st_set (d := .int N) (m' := m') (by simp [evE, evEs, at_lit, e1]) ?_
      simp only [List.set_cons_succ, List.set_cons_zero]
      refine st_set (d := .int M) (m' := m') ?_ ?_
      · refine eq_wp ?_
        simp only [ww, putI, dropI]
        simp [oo, ixN, isAbs, partD, -Bool.exists_bool, -Prod.exists, -Bool.not_eq_eq_eq_not, em2, e5, em, ea, wp_ok]
      simp only [List.set_cons_succ, List.set_cons_zero]
      refine st_ite0 (m' := m') ?_ ?_
      · refine eq_wp ?_
        simp only [ww, putI, dropI]
        simp [oo, ixN, isAbs, partD, -Bool.exists_bool, -Prod.exists, -Bool.not_eq_eq_eq_not, n1, n2, e2, e3, e4, e6, wp_ok]
      exact st_nil (C := callF P (n + 2)) ⟨rfl, ⟨r, rfl, fun x hx => hmm x (List.mem_cons_of_mem _ hx)⟩, _, _, _, rfl⟩
  · rintro s m' ⟨rfl, _, o3, o4, o5, rfl⟩
    dsimp only
    refine st_ret (d := .bl true) (m' := m') (by simp [evE]) ?_
    exact finq_eq rfl
end K68
namespace K68
open PySem Ev L2
open Lib hiding St Stp Sq
open Tk (St Stp Sq take_ok goL_st)
theorem st_els {C : Ev.Cl} {s : Sl} {m m' : Mu} {Q : Q4} {r : Ss} {c : E} {a b : Ss} (h : evE C c true s m = .ok (.bl false) m') (q : (evSs C b s m').wp { Q with n := fun s m => (evSs C r s m).wp Q }) : (evSs C (.cons (.ite c a b) r) s m).wp Q := by simpa [evSs, evS, h] using q
theorem ei_rng' {C : Ev.Cl} {s : Sl} {m m' : Mu} {N : Nat} {x : Int} {e : E} (he : evE C e false s m = .ok (.int x) m') (hsm : small62 x = true) (hN : x.toNat = N) : evI C (.rng1 e) s m = .ok (rngD 0 N) m' := by
  simp only [evI, he, bind_k, intD, Option.bind_some]
  rw [if_pos hsm, hN, opt_s]
def R1 : Ss := (.cons (.ite (.not (.call "_law_is_cheap" 36 (.cons (.var 9) (.cons (.lst (.cons (.var 3) .nil)) .nil))))
    (.cons (.ret (.cst (.bl false))) .nil)
    .nil) (.cons (.set 8 (.lst .nil)) (.cons (.ite (.cmp .Eq (.bi "len" .len (.cons (.var 9) .nil)) (.cst (.int 2)))
    (.cons (.set 8 (.lst (.cons (.call "tied_both" 25 (.cons (.ix (.var 9) (.cst (.int 1))) (.cons (.ix (.var 9) (.cst (.int 0))) .nil))) .nil))) .nil)
    .nil) (.cons (.ite (.not (.call "_law_is_cheap" 36 (.cons (.var 8) (.cons (.var 9) .nil))))
    (.cons (.ret (.cst (.bl false))) .nil)
    .nil) (.cons (.set 3 (.ix (.bin .Add (.var 8) (.var 9)) (.cst (.int 0)))) .nil)))))
def I9 : S := .ite (.and (.cons (.cmp .Eq (.var 5) (.cst (.int 0))) (.cons (.cmp .Lt (.var 6) (.cst (.int 1000))) .nil)))
    (.cons (.set 9 (.lst (.cons (.call "put_at" 22 (.cons (.var 3) (.cons (.var 7) (.cons (.bin .Add (.cst (.int 5000)) (.var 4)) .nil)))) .nil))) .nil)
    (.cons (.ite (.and (.cons (.cmp .Eq (.var 5) (.cst (.int 1))) (.cons (.cmp .Lt (.var 7) (.var 6)) .nil)))
    (.cons (.set 9 (.lst (.cons (.call "out_at" 23 (.cons (.var 3) (.cons (.var 7) .nil))) .nil))) .nil)
    (.cons (.set 9 (.bi "list" .list (.cons (.call "parted" 24 (.cons (.var 3) (.cons (.var 7) .nil))) .nil))) .nil)) .nil)
def LBd : Ss := .cons (.set 5 (.call "_law_take" 29 (.cons (.var 1) (.cons (.cst (.int 4)) .nil)))) (.cons (.set 6 (.call "_law_count" 30 (.cons (.var 3) .nil))) (.cons (.set 7 (.call "_law_take" 29 (.cons (.var 1) (.cons (.bin .Add (.var 6) (.cst (.int 1))) .nil)))) (.cons I9 R1)))
def T3 : Ss := .cons (.set 3 (.ix (.lst (.cons (.call "tied" 21 (.cons (.lrg (.var 2)) .nil)) (.cons (.call "_law_made" 32 (.cons (.var 1) (.cons (.lrg (.var 2)) .nil))) .nil))) (.call "_law_take" 29 (.cons (.var 1) (.cons (.cst (.int 2)) .nil))))) (.cons (.fo (.nm 4) (.rng1 (.ix (.lst (.cons (.cst (.int 12)) (.cons (.cst (.int 3)) .nil))) (.bi "int" .int (.cons (.cmp .Gt (.var 2) (.cst (.int 60))) .nil)))) LBd) (.cons (.ret (.cst (.bl true))) .nil))
theorem b37_eq : b37 = .cons (.set 1 (.lstL (.cons (.var 0) (.cons (.cst (.int 0)) (.cons (.cst (.int 0)) (.cons (.cst (.int 68)) .nil)))))) (.cons (.set 2 (.call "_law_take" 29 (.cons (.var 1) (.cons (.cst (.int 61)) .nil)))) (.cons (.ite (.cmp .Eq (.call "_law_take" 29 (.cons (.var 1) (.cons (.cst (.int 4)) .nil))) (.cst (.int 0)))
    (.cons (.set 2 (.bin .Add (.cst (.int 500)) (.call "_law_take" 29 (.cons (.var 1) (.cons (.cst (.int 500)) .nil))))) .nil)
    .nil) T3)) := rfl
theorem stp_most {t : Ti} (h : szT t ≤ 1000) {c : Nat} (hc : szT t ≤ c) : stp (wt t) ≤ stp (min 1000 (c + 1) + 1) := stp_mono (by simp only [wt]; omega)
theorem put_most {t t' : Ti} (h : Gt t) (hN : NS t t' (1 + 3 * dp t)) : newc (On (adds [] [t])) t' ≤ most [t] := by
  have g := adds_gl (ss := [t]) gl_nil (by simpa using h.i)
  have h1 := hN _ (cl_on g) (adds_on (by simp))
  have h2 := dp_stp t h.b
  have h3 := stp_most h.z (c := ([t].map szT).sum) (by simp)
  unfold most; omega
theorem out_most {t t' : Ti} (h : Gt t) (hN : NS t t' (3 * dp t)) : newc (On (adds [] [t])) t' ≤ most [t] := put_most h fun S hS hs => Nat.le_trans (hN S hS hs) (by omega)
theorem cut_most {t b : Ti} (h : Gt t) (hb : szT b ≤ szT t) (hN : NS t b (dp t + 3 * stp (wt b))) : newc (On (adds [] [t])) b ≤ most [t] := by
  have g := adds_gl (ss := [t]) gl_nil (by simpa using h.i)
  have h1 := hN _ (cl_on g) (adds_on (by simp))
  have h2 := dp_stp t h.b
  have h3 := stp_most h.z (c := ([t].map szT).sum) (by simp)
  have h4 : stp (wt b) ≤ stp (wt t) := stp_mono (by simp only [wt]; omega)
  unfold most; omega
theorem sz_its {t : Ti} {xs : List D} (h : its t = xs) : szT t = xs.length := by rw [← szT_len, h]
section
variable {n : Nat} {m : Mu}
theorem rest_ok {a o4 o5 o6 o7 o8 : Option D} {ma : D} {t : Ti} {ms : List Ti} {Q : Q4} (hn : 95 ≤ n) (ht : Gt t) (hm : ∀ u ∈ ms, Gt u ∧ newc (On (adds [] [t])) u ≤ most [t]) (h2 : (∃ u, ms = [u]) ∨ ∃ b e, ms = [b, e] ∧ szT b + szT e ≤ 1000)
    (q : ∀ t' o8 o9, Gt t' → Q.n [a, some (.ref 0), some ma, some (toD t'), o4, o5, o6, o7, o8, o9] m) :
    (evSs (callF P n) R1 [a, some (.ref 0), some ma, some (toD t), o4, o5, o6, o7, o8, some (.lst (ms.map toD))] m).wp Q := by
  obtain ⟨n, rfl⟩ : ∃ k, n = k + 1 := ⟨n - 1, by omega⟩
  unfold R1
  have c1 := cheap_ok (n := n) (m := m) (ms := ms) (ss := [t]) hm (by simpa using ht) (by simp) (by omega)
  have c1 : callF P (n + 1) 36 [.lst (ms.map toD), .lst [toD t]] m = .ok (.bl true) m := c1
  refine st_ite0 (m' := m) (by simp [evE, evEs, at_lit, c1, blD, opt_s, bind_k, truthD]) ?_
  refine st_set (d := .lst []) (m' := m) (by simp [evE, evEs]) ?_
  simp only [List.set_cons_succ, List.set_cons_zero]
  rcases h2 with ⟨u, rfl⟩ | ⟨b, e, rfl, hz⟩
  · have hu := (hm u (by simp)).1
    refine st_ite0 (m' := m) ?_ ?_
    · refine eq_wp ?_
      simp only [ww, putI, dropI]
      simp [oo, ixN, isAbs, partD, -Bool.exists_bool, -Prod.exists, -Bool.not_eq_eq_eq_not]
    have c2 := cheap_ok (n := n) (m := m) (ms := []) (ss := [u]) (by simp) (by simpa using hu) (by simp) (by omega)
    have c2 : callF P (n + 1) 36 [.lst [], .lst [toD u]] m = .ok (.bl true) m := c2
    refine st_ite0 (m' := m) (by simp [evE, evEs, at_lit, c2, blD, opt_s, bind_k, truthD]) ?_
    have ha : binF m .Add (.lst []) (.lst [toD u]) = some (.lst [toD u]) := addLst (by simp)
    refine st_set (d := toD u) (m' := m) ?_ ?_
    · refine eq_wp ?_
      simp only [ww, putI, dropI]
      simp [oo, ixN, isAbs, partD, -Bool.exists_bool, -Prod.exists, -Bool.not_eq_eq_eq_not, ha]
    simp only [List.set_cons_succ, List.set_cons_zero]
    exact st_nil (C := callF P (n + 1)) (q u _ _ hu)
  · have hb := (hm b (by simp)).1
    have he := (hm e (by simp)).1
    obtain ⟨v, ev, hv, iv, cv⟩ := both_ok (n := n + 1) (m := m) he.tie hb.tie (by omega) (by omega)
    have gv : Gt v := ⟨hv.bal, fun x hx => by
      rw [iv] at hx
      exact (List.mem_append.mp hx).elim (he.i x) (hb.i x), by rw [sz_its iv, List.length_append, szT_len, szT_len]; omega⟩
    refine st_ite1 (m' := m) ?_ ?_
    · refine eq_wp ?_
      simp only [ww, putI, dropI]
      simp [oo, ixN, isAbs, partD, -Bool.exists_bool, -Prod.exists, -Bool.not_eq_eq_eq_not]
    refine st_set (d := .lst [toD v]) (m' := m) ?_ ?_
    · refine eq_wp ?_
      simp only [ww, putI, dropI]
      simp [oo, ixN, isAbs, partD, -Bool.exists_bool, -Prod.exists, -Bool.not_eq_eq_eq_not, ev, wp_ok]
    simp only [List.set_cons_succ, List.set_cons_zero]
    refine st_nil (C := callF P (n + 1)) ?_
    dsimp only
    have g := adds_gl (ss := [b, e]) gl_nil (by simpa using ⟨hb.i, he.i⟩)
    have hN := cv _ (cl_on g) (adds_on (by simp)) (adds_on (by simp))
    have hmost : newc (On (adds [] [b, e])) v ≤ most [b, e] := by
      have h1 := dp_stp b hb.b
      have h2 := stp_most hb.z (c := ([b, e].map szT).sum) (by simp)
      have h3 := stp_most he.z (c := ([b, e].map szT).sum) (by simp)
      unfold most; omega
    have c2 := cheap_ok (n := n) (m := m) (ms := [v]) (ss := [b, e]) (by simpa using ⟨gv, hmost⟩) (by simpa using ⟨hb, he⟩) (by simp) (by omega)
    have c2 : callF P (n + 1) 36 [.lst [toD v], .lst [toD b, toD e]] m = .ok (.bl true) m := c2
    refine st_ite0 (m' := m) (by simp [evE, evEs, at_lit, c2, blD, opt_s, bind_k, truthD]) ?_
    have ha : binF m .Add (.lst [toD v]) (.lst [toD b, toD e]) = some (.lst [toD v, toD b, toD e]) := addLst (by simp)
    refine st_set (d := toD v) (m' := m) ?_ ?_
    · refine eq_wp ?_
      simp only [ww, putI, dropI]
      simp [oo, ixN, isAbs, partD, -Bool.exists_bool, -Prod.exists, -Bool.not_eq_eq_eq_not, ha]
    simp only [List.set_cons_succ, List.set_cons_zero]
    exact st_nil (C := callF P (n + 1)) (q v _ _ gv)
theorem turn {a o5 o6 o7 o8 o9 : Option D} {ma : D} {t : Ti} {k : Nat} {Q : Q4} (hn : 96 ≤ n) (hs : St m 0) (ht : Gt t) (hk : k < 12) (q : ∀ m' t' o5 o6 o7 o8 o9, St m' 0 → m'.length = m.length → Gt t' → Q.n [a, some (.ref 0), some ma, some (toD t'), some (.int (k : Nat)), o5, o6, o7, o8, o9] m') :
    (evSs (callF P n) LBd [a, some (.ref 0), some ma, some (toD t), some (.int (k : Nat)), o5, o6, o7, o8, o9] m).wp Q := by
  obtain ⟨n, rfl⟩ : ∃ k, n = k + 1 := ⟨n - 1, by omega⟩
  unfold LBd
  obtain ⟨_, m1, e1, r, rfl, r0, r1, s1⟩ := wp_eq (take_ok hK (n := n) (b := 4) hs (by omega) (by omega))
  refine st_set (d := .int r) (m' := m1) (by simp [evE, evEs, at_lit, e1]) ?_
  simp only [List.set_cons_succ, List.set_cons_zero]
  have ec := lcount_ok (n := n) (m := m1) (t := t)
  refine st_set (d := .int (szT t : Nat)) (m' := m1) (by simp [evE, evEs, at_lit, ec]) ?_
  simp only [List.set_cons_succ, List.set_cons_zero]
  have hz := ht.z
  obtain ⟨_, m2, e2, y, rfl, y0, y1, s2⟩ := wp_eq (take_ok hK (n := n) (b := (szT t : Int) + 1) s1.st (by omega) (by omega))
  have s12 := s1.trans s2
  refine st_set (d := .int y) (m' := m2) ?_ ?_
  · refine eq_wp ?_
    simp only [ww, putI, dropI]
    simp [oo, ixN, isAbs, partD, -Bool.exists_bool, -Prod.exists, -Bool.not_eq_eq_eq_not, e2, wp_ok]
  simp only [List.set_cons_succ, List.set_cons_zero]
  obtain ⟨y, rfl⟩ : ∃ y' : Nat, y = y' := ⟨y.toNat, by omega⟩
  have hy : y ≤ szT t := by omega
  have fin : ∀ ms, (∀ u ∈ ms, Gt u ∧ newc (On (adds [] [t])) u ≤ most [t]) → ((∃ u, ms = [u]) ∨ ∃ b e, ms = [b, e] ∧ szT b + szT e ≤ 1000) → (evSs (callF P (n + 1)) R1 [a, some (.ref 0), some ma, some (toD t), some (.int (k : Nat)), some (.int r), some (.int (szT t : Nat)), some (.int (y : Nat)), o8, some (.lst (ms.map toD))] m2).wp Q := fun ms h1 h2 =>
    rest_ok (by omega) ht h1 h2 fun t' o8 o9 h => q _ _ _ _ _ _ _ s12.st s12.len h
  unfold I9
  have cA : evE (callF P (n + 1)) (.and (.cons (.cmp .Eq (.var 5) (.cst (.int 0))) (.cons (.cmp .Lt (.var 6) (.cst (.int 1000))) .nil))) true [a, some (.ref 0), some ma, some (toD t), some (.int (k : Nat)), some (.int r), some (.int (szT t : Nat)), some (.int (y : Nat)), o8, o9] m2 = .ok (.bl (decide (r = 0) && decide (szT t < 1000))) m2 := by
    refine eq_wp ?_
    simp only [ww, putI, dropI]
    have hc : ((szT t : Nat) : Int) < 1000 ↔ szT t < 1000 := by omega
    by_cases g : r = 0 <;> simp [oo, ixN, isAbs, partD, -Bool.exists_bool, -Prod.exists, -Bool.not_eq_eq_eq_not, g, hc]
  by_cases g1 : (decide (r = 0) && decide (szT t < 1000)) = true
  · rw [g1] at cA
    simp only [Bool.and_eq_true, decide_eq_true_eq] at g1
    have hx : Ix (.int (5000 + (k : Int))) := ⟨_, rfl, by omega, by omega⟩
    obtain ⟨t', e3, ht', it', nt'⟩ := putat_ok (n := n + 1) (m := m2) (a := y) (x := .int (5000 + (k : Int))) ht.tie g1.2 hy (itI (by omega)) (by omega)
    have gt' : Gt t' := ⟨ht'.bal, fun x hx' => by
      rw [it'] at hx'
      rcases List.mem_append.mp hx' with h | h
      · exact ht.i x (List.mem_of_mem_take h)
      · rcases List.mem_cons.mp h with rfl | h
        · exact hx
        · exact ht.i x (List.mem_of_mem_drop h), by
      rw [sz_its it']
      simp only [List.length_append, List.length_cons, List.length_take, List.length_drop, szT_len]
      omega⟩
    refine st_ite1 cA ?_
    refine st_set (d := .lst [toD t']) (m' := m2) ?_ ?_
    · refine eq_wp ?_
      simp only [ww, putI, dropI]
      simp [oo, ixN, isAbs, partD, -Bool.exists_bool, -Prod.exists, -Bool.not_eq_eq_eq_not, e3, wp_ok]
    simp only [List.set_cons_succ, List.set_cons_zero]
    refine st_nil (C := callF P (n + 1)) ?_
    dsimp only
    exact fin [t'] (by simpa using ⟨gt', put_most ht nt'⟩) (.inl ⟨t', rfl⟩)
  · rw [Bool.not_eq_true] at g1
    rw [g1] at cA
    refine st_els cA ?_
    have cB : evE (callF P (n + 1)) (.and (.cons (.cmp .Eq (.var 5) (.cst (.int 1))) (.cons (.cmp .Lt (.var 7) (.var 6)) .nil))) true [a, some (.ref 0), some ma, some (toD t), some (.int (k : Nat)), some (.int r), some (.int (szT t : Nat)), some (.int (y : Nat)), o8, o9] m2 = .ok (.bl (decide (r = 1) && decide (y < szT t))) m2 := by
      refine eq_wp ?_
      simp only [ww, putI, dropI]
      by_cases g : r = 1 <;> simp [oo, ixN, isAbs, partD, -Bool.exists_bool, -Prod.exists, -Bool.not_eq_eq_eq_not, g]
    by_cases g2 : (decide (r = 1) && decide (y < szT t)) = true
    · rw [g2] at cB
      simp only [Bool.and_eq_true, decide_eq_true_eq] at g2
      obtain ⟨t', e3, ht', it', nt'⟩ := outat_ok (n := n + 1) (m := m2) (a := y) ht.tie hz g2.2 (by omega)
      have gt' : Gt t' := ⟨ht'.bal, fun x hx' => by
        rw [it'] at hx'
        rcases List.mem_append.mp hx' with h | h
        · exact ht.i x (List.mem_of_mem_take h)
        · exact ht.i x (List.mem_of_mem_drop h), by
        rw [sz_its it']
        simp only [List.length_append, List.length_take, List.length_drop, szT_len]
        omega⟩
      refine st_ite1 cB ?_
      refine st_set (d := .lst [toD t']) (m' := m2) ?_ ?_
      · refine eq_wp ?_
        simp only [ww, putI, dropI]
        simp [oo, ixN, isAbs, partD, -Bool.exists_bool, -Prod.exists, -Bool.not_eq_eq_eq_not, e3, wp_ok]
      simp only [List.set_cons_succ, List.set_cons_zero]
      refine st_nil (C := callF P (n + 1)) (st_nil (C := callF P (n + 1)) ?_)
      dsimp only
      exact fin [t'] (by simpa using ⟨gt', out_most ht nt'⟩) (.inl ⟨t', rfl⟩)
    · rw [Bool.not_eq_true] at g2
      rw [g2] at cB
      refine st_els cB ?_
      obtain ⟨b, e, e3, hb, he, ib, ie, nb, ne⟩ := parted_ok (n := n + 1) (m := m2) (a := y) ht.tie hz hy (by omega)
      have zb : szT b = y := by rw [sz_its ib, List.length_take, szT_len]; omega
      have ze : szT e = szT t - y := by rw [sz_its ie, List.length_drop, szT_len]
      have gb : Gt b := ⟨hb.bal, fun x hx => ht.i x (by rw [ib] at hx; exact List.mem_of_mem_take hx), by omega⟩
      have ge : Gt e := ⟨he.bal, fun x hx => ht.i x (by rw [ie] at hx; exact List.mem_of_mem_drop hx), by omega⟩
      refine st_set (d := .lst [toD b, toD e]) (m' := m2) ?_ ?_
      · refine eq_wp ?_
        simp only [ww, putI, dropI]
        simp [oo, ixN, isAbs, partD, -Bool.exists_bool, -Prod.exists, -Bool.not_eq_eq_eq_not, e3, wp_ok, listTup]
      simp only [List.set_cons_succ, List.set_cons_zero]
      refine st_nil (C := callF P (n + 1)) (st_nil (C := callF P (n + 1)) ?_)
      dsimp only
      exact fin [b, e] (by simpa using ⟨⟨gb, cut_most ht (by omega) nb⟩, ⟨ge, cut_most ht (by omega) ne⟩⟩) (.inr ⟨b, e, rfl, by omega⟩)
end
def LQ (d : D) (_ : Mu) : Prop := d = .bl true
theorem tail_ok {ns : List Int} {ma : Nat} {m : Mu} {n : Nat} (hn : 99 ≤ n) (hma : ma ≤ 1000) (hs : St m 0) : (evSs (callF P n) T3 [some (.scr ns), some (.ref 0), some (.int (ma : Nat)), none, none, none, none, none, none, none] m).wp { n := fun _ m' => FinQ false [] LQ .non m', r := FinQ false [] LQ } := by
  obtain ⟨n, rfl⟩ : ∃ k, n = k + 1 := ⟨n - 1, by omega⟩
  unfold T3
  have hlrg : lrgF (.int (ma : Int)) = some (.lst (rngD 0 ma)) := by
    have : small24 (ma : Int) = true := by simp [small24]; omega
    simp only [lrgF, intD, Option.bind_some, this, if_true, Int.toNat_natCast]
  have hlr : (rngD 0 ma).length = ma := by simp [rngD]
  have hix : ∀ x ∈ rngD 0 ma, Ix x := by
    intro x hx
    simp only [rngD, List.mem_map, List.mem_range] at hx
    obtain ⟨i, hi, rfl⟩ := hx
    exact ⟨_, rfl, by omega, by omega⟩
  have hii : ∀ x ∈ rngD 0 ma, Item x := fun x hx => by obtain ⟨i, rfl, h1, h2⟩ := hix x hx; exact itI (by omega)
  generalize hxs : rngD 0 ma = xs at *
  obtain ⟨ta, ea, hta, ia⟩ := tied_ok (n := n + 1) (m := m) (d := .lst xs) (.inl rfl) hii (by omega) (by omega)
  obtain ⟨_, m2, e2, s2, tc, rfl, btc, ic⟩ := wp_eq (made_ok 25 (n + 1) (j := 0) (xs := xs) (Nat.le_trans (Nat.mul_le_mul_right _ (show xs.length + 1 ≤ 1001 by omega)) (by decide)) (by omega) hs (by omega))
  obtain ⟨_, m3, e3, q, rfl, q0, q1, s3⟩ := wp_eq (take_ok hK (n := n) (b := 2) s2.st (by omega) (by omega))
  have ga : Gt ta := ⟨hta.bal, by intro x hx; rw [ia] at hx; exact hix x hx, by rw [sz_its ia]; omega⟩
  have gc : Gt tc := ⟨btc, by intro x hx; rw [ic] at hx; exact hix x hx, by rw [sz_its ic]; omega⟩
  obtain ⟨z, hzm, hza⟩ := at_mem (xs := [toD ta, toD tc]) q0 (by simpa using q1)
  have hz : ∃ t, z = toD t ∧ Gt t := by
    simp only [List.mem_cons, List.mem_nil_iff, or_false] at hzm
    rcases hzm with rfl | rfl
    · exact ⟨ta, rfl, ga⟩
    · exact ⟨tc, rfl, gc⟩
  obtain ⟨t, rfl, gt⟩ := hz
  refine st_set (d := toD t) (m' := m3) ?_ ?_
  · refine eq_wp ?_
    simp only [ww, putI, dropI]
    simp [oo, ixN, isAbs, partD, -Bool.exists_bool, -Prod.exists, -Bool.not_eq_eq_eq_not, hlrg, ea, e2, e3, wp_ok, hza]
  simp only [List.set_cons_succ, List.set_cons_zero]
  obtain ⟨kk, hkk, hk1⟩ : ∃ k : Nat, k ≤ 12 ∧ evE (callF P (n + 1)) (.ix (.lst (.cons (.cst (.int 12)) (.cons (.cst (.int 3)) .nil))) (.bi "int" .int (.cons (.cmp .Gt (.var 2) (.cst (.int 60))) .nil))) false [some (.scr ns), some (.ref 0), some (.int (ma : Nat)), some (toD t), none, none, none, none, none, none] m3 = .ok (.int (k : Nat)) m3 := by
    by_cases h : (60 : Int) < (ma : Nat)
    · refine ⟨3, by omega, eq_wp ?_⟩
      simp only [ww, putI, dropI]
      have h1 : biF m3 .int [.bl true] = some (.int 1) := rfl
      simp [oo, ixN, isAbs, partD, -Bool.exists_bool, -Prod.exists, -Bool.not_eq_eq_eq_not, h, h1]
    · refine ⟨12, by omega, eq_wp ?_⟩
      simp only [ww, putI, dropI]
      have h1 : biF m3 .int [.bl false] = some (.int 0) := rfl
      simp [oo, ixN, isAbs, partD, -Bool.exists_bool, -Prod.exists, -Bool.not_eq_eq_eq_not, h, h1]
  refine st_fo (xs := rngD 0 kk) (m' := m3) (ei_rng' hk1 (small_ok (by omega) (by omega)) (by omega)) ?_
  refine goF_wp (fun rest s m' => St m' 0 ∧ (∀ d ∈ rest, ∃ i : Nat, i < 12 ∧ d = .int (i : Nat)) ∧ ∃ t o4 o5 o6 o7 o8 o9, Gt t ∧ s = [some (.scr ns), some (.ref 0), some (.int (ma : Nat)), some (toD t), o4, o5, o6, o7, o8, o9]) ?_ ?_ _ _ _ ⟨(s2.trans s3).st, fun d hd => ?_, t, _, _, _, _, _, _, gt, rfl⟩
  · rintro x rest s m' ⟨hs', hr, t, o4, o5, o6, o7, o8, o9, gt, rfl⟩
    obtain ⟨i, hi, rfl⟩ := hr x List.mem_cons_self
    rw [foB_nm]
    simp only [List.set_cons_succ, List.set_cons_zero]
    exact turn (by omega) hs' gt hi fun m2 t' o5 o6 o7 o8 o9 h1 h2 h3 => ⟨h1, fun d hd => hr d (List.mem_cons_of_mem _ hd), t', _, _, _, _, _, _, h3, rfl⟩
  · rintro s m' ⟨hs', _, t, o4, o5, o6, o7, o8, o9, gt, rfl⟩
    dsimp only
    refine st_ret (d := .bl true) (m' := m') (by simp [evE]) ?_
    show FinQ false [] LQ (.bl true) m'
    by_cases h : m'.length = 0
    · exact .inl ⟨.inr h, rfl⟩
    · exact .inr ⟨by simpa using h, .bl true, rfl, fun i o hi => by simp at hi, rfl⟩
  · simp only [rngD, List.mem_map, List.mem_range] at hd
    obtain ⟨i, hi, rfl⟩ := hd
    exact ⟨i, by omega, by simp⟩
theorem law_true (ns : List Int) (hl : ns.length ≤ 63) : ∃ m, callF P 104 37 [.scr ns] [] = .ok (.bl true) m := by
  suffices h : (callF P 104 37 [.scr ns] []).wp LQ by
    obtain ⟨d, m, e, h⟩ := wp_eq h
    cases h
    exact ⟨m, e⟩
  obtain ⟨N, hN⟩ : ∃ N, N = 102 := ⟨_, rfl⟩
  rw [show 104 = N + 1 + 1 by omega]
  refine call_wp rfl rfl ?_
  simp only [f37, List.map_cons, List.map_nil, List.cons_append, List.nil_append, List.replicate]
  rw [b37_eq]
  refine st_set (d := .ref 0) (m' := [O.lst [.scr ns, .int 0, .int 0, .int 68]]) (by simp [evE, evEs, at_lit]) ?_
  simp only [List.set_cons_succ, List.set_cons_zero]
  have hs0 : St [O.lst [.scr ns, .int 0, .int 0, .int 68]] 0 := ⟨ns, 0, 0, 68, rfl, by omega, by omega⟩
  generalize ([O.lst [.scr ns, .int 0, .int 0, .int 68]] : Mu) = m0 at hs0
  obtain ⟨_, m1, e1, q, rfl, q0, q1, s1⟩ := wp_eq (take_ok hK (n := N) (b := 61) hs0 (by omega) (by omega))
  obtain ⟨_, m2, e2, z, rfl, z0, z1, s2⟩ := wp_eq (take_ok hK (n := N) (b := 4) s1.st (by omega) (by omega))
  refine st_set (d := .int q) (m' := m1) (by simp [evE, evEs, at_lit, e1]) ?_
  simp only [List.set_cons_succ, List.set_cons_zero]
  have cz : evE (callF P (N + 1)) (.cmp .Eq (.call "_law_take" 29 (.cons (.var 1) (.cons (.cst (.int 4)) .nil))) (.cst (.int 0))) true [some (.scr ns), some (.ref 0), some (.int q), none, none, none, none, none, none, none] m1 = .ok (.bl (decide (z = 0))) m2 := by
    refine eq_wp ?_
    simp only [ww, putI, dropI]
    simp [oo, ixN, isAbs, partD, -Bool.exists_bool, -Prod.exists, -Bool.not_eq_eq_eq_not, e2, wp_ok]
  obtain ⟨q, rfl⟩ : ∃ q' : Nat, q = q' := ⟨q.toNat, by omega⟩
  by_cases g : z = 0
  · rw [decide_eq_true g] at cz
    refine st_ite1 cz ?_
    obtain ⟨_, m3, e3, y, rfl, y0, y1, s3⟩ := wp_eq (take_ok hK (n := N) (b := 500) s2.st (by omega) (by omega))
    obtain ⟨y, rfl⟩ : ∃ y' : Nat, y = y' := ⟨y.toNat, by omega⟩
    refine st_set (d := .int (500 + y : Nat)) (m' := m3) ?_ ?_
    · refine eq_wp ?_
      simp only [ww, putI, dropI]
      simp [oo, ixN, isAbs, partD, -Bool.exists_bool, -Prod.exists, -Bool.not_eq_eq_eq_not, e3, wp_ok]
    simp only [List.set_cons_succ, List.set_cons_zero]
    refine st_nil (C := callF P (N + 1)) ?_
    dsimp only
    exact tail_ok (ma := 500 + y) (by omega) (by omega) s3.st
  · rw [decide_eq_false g] at cz
    refine st_ite0 cz ?_
    exact tail_ok (ma := q) (by omega) (by omega) s2.st
end K68
namespace K68
open PySem PySem.Spec PyProof.Rows L2 Ev
theorem all_mk {w : World} {K : PySem.W.Frag} {h : Heap} {mg : Str → Option Value} {fa : Addr} (X : K.In h) (Gn : h.Ns mainGlobals mg) (hfa : mg "law" = some (.ref fa)) (c : He.SaysX faL fnL tsL (lmD hd.lm) (exB G T hd) w h K) :
    ∃ fd : FuncData, (∀ (s : Shared) (v : Value), BindsTo s fd ⟨[v], []⟩ [("_law_script", v)]) ∧ ∀ base : Heap, K.In base → base.Ns mainGlobals mg → (∀ p ∈ (lmD hd.lm).map (He.cT K), LamX.TabB base mg p.1 p.2) → FnG RwX.prog w K mg base 210 fa fd ["_law_script"] (spM K P (gmOf K G T w.params (tbOf K hd.lm)) 104 37) := by
  obtain ⟨T0, l0, u0, p0, m0, D0, b0, a0, q0⟩ := def_of (G := G) (F := f0) (lm := false) X Gn (defAtE c 0 0 rfl rfl) rfl rfl sc0 rfl rfl (fun _ _ _ _ _ _ us hl => match us, hl with | [_], _ => rfl) ck0
  obtain ⟨T1, l1, u1, p1, m1, D1, b1, a1, q1⟩ := def_of (G := G) (F := f1) (lm := false) X Gn (defAtE c 1 1 rfl rfl) rfl rfl sc1 rfl rfl (fun _ _ _ _ _ _ us hl => match us, hl with | [_, _, _], _ => rfl) ck1
  obtain ⟨T2, l2, u2, p2, m2, D2, b2, a2, q2⟩ := def_of (G := G) (F := f2) (lm := false) X Gn (defAtE c 2 2 rfl rfl) rfl rfl sc2 rfl rfl (fun _ _ _ _ _ _ us hl => match us, hl with | [_, _], _ => rfl) ck2
  obtain ⟨T3, l3, u3, p3, m3, D3, b3, a3, q3⟩ := def_of (G := G) (F := f3) (lm := false) X Gn (defAtE c 3 3 rfl rfl) rfl rfl sc3 rfl rfl (fun _ _ _ _ _ _ us hl => match us, hl with | [_, _], _ => rfl) ck3
  obtain ⟨T4, l4, u4, p4, m4, D4, b4, a4, q4⟩ := def_of (G := G) (F := f4) (lm := false) X Gn (defAtE c 4 4 rfl rfl) rfl rfl sc4 rfl rfl (fun _ _ _ _ _ _ us hl => match us, hl with | [_], _ => rfl) ck4
  obtain ⟨T5, l5, u5, p5, m5, D5, b5, a5, q5⟩ := def_of (G := G) (F := f5) (lm := false) X Gn (defAtE c 5 5 rfl rfl) rfl rfl sc5 rfl rfl (fun _ _ _ _ _ _ us hl => match us, hl with | [_, _, _], _ => rfl) ck5
  obtain ⟨T6, l6, u6, p6, m6, D6, b6, a6, q6⟩ := def_of (G := G) (F := f6) (lm := false) X Gn (defAtE c 6 6 rfl rfl) rfl rfl sc6 rfl rfl (fun _ _ _ _ _ _ us hl => match us, hl with | [_, _, _], _ => rfl) ck6
  obtain ⟨T7, l7, u7, p7, m7, D7, b7, a7, q7⟩ := def_of (G := G) (F := f7) (lm := false) X Gn (defAtE c 7 7 rfl rfl) rfl rfl sc7 rfl rfl (fun _ _ _ _ _ _ us hl => match us, hl with | [_, _, _], _ => rfl) ck7
  obtain ⟨T8, l8, u8, p8, m8, D8, b8, a8, q8⟩ := def_of (G := G) (F := f8) (lm := false) X Gn (defAtE c 8 8 rfl rfl) rfl rfl sc8 rfl rfl (fun _ _ _ _ _ _ us hl => match us, hl with | [_, _, _], _ => rfl) ck8
  obtain ⟨T9, l9, u9, p9, m9, D9, b9, a9, q9⟩ := def_of (G := G) (F := f9) (lm := false) X Gn (defAtE c 9 9 rfl rfl) rfl rfl sc9 rfl rfl (fun _ _ _ _ _ _ us hl => match us, hl with | [_, _, _], _ => rfl) ck9
  obtain ⟨T10, l10, u10, p10, m10, D10, b10, a10, q10⟩ := def_of (G := G) (F := f10) (lm := false) X Gn (defAtE c 10 10 rfl rfl) rfl rfl sc10 rfl rfl (fun _ _ _ _ _ _ us hl => match us, hl with | [_], _ => rfl) ck10
  obtain ⟨T11, l11, u11, p11, m11, D11, b11, a11, q11⟩ := def_of (G := G) (F := f11) (lm := false) X Gn (defAtE c 11 11 rfl rfl) rfl rfl sc11 rfl rfl (fun _ _ _ _ _ _ us hl => match us, hl with | [_, _], _ => rfl) ck11
  obtain ⟨T12, l12, u12, p12, m12, D12, b12, a12, q12⟩ := def_of (G := G) (F := f12) (lm := false) X Gn (defAtE c 12 12 rfl rfl) rfl rfl sc12 rfl rfl (fun _ _ _ _ _ _ us hl => match us, hl with | [_, _], _ => rfl) ck12
  obtain ⟨T13, l13, u13, p13, m13, D13, b13, a13, q13⟩ := def_of (G := G) (F := f13) (lm := false) X Gn (defAtE c 13 13 rfl rfl) rfl rfl sc13 rfl rfl (fun _ _ _ _ _ _ us hl => match us, hl with | [_, _], _ => rfl) ck13
  obtain ⟨T14, l14, u14, p14, m14, D14, b14, a14, q14⟩ := def_of (G := G) (F := f14) (lm := false) X Gn (defAtE c 14 14 rfl rfl) rfl rfl sc14 rfl rfl (fun _ _ _ _ _ _ us hl => match us, hl with | [_], _ => rfl) ck14
  obtain ⟨T15, l15, u15, p15, m15, D15, b15, a15, q15⟩ := def_of (G := G) (F := f15) (lm := false) X Gn (defAtE c 15 15 rfl rfl) rfl rfl sc15 rfl rfl (fun _ _ _ _ _ _ us hl => match us, hl with | [_], _ => rfl) ck15
  obtain ⟨T16, l16, u16, p16, m16, D16, b16, a16, q16⟩ := def_of (G := G) (F := f16) (lm := false) X Gn (defAtE c 16 16 rfl rfl) rfl rfl sc16 rfl rfl (fun _ _ _ _ _ _ us hl => match us, hl with | [_], _ => rfl) ck16
  obtain ⟨T17, l17, u17, p17, m17, D17, b17, a17, q17⟩ := def_of (G := G) (F := f17) (lm := false) X Gn (defAtE c 17 17 rfl rfl) rfl rfl sc17 rfl rfl (fun _ _ _ _ _ _ us hl => match us, hl with | [_, _], _ => rfl) ck17
  obtain ⟨T18, l18, u18, p18, m18, D18, b18, a18, q18⟩ := def_of (G := G) (F := f18) (lm := false) X Gn (defAtE c 18 18 rfl rfl) rfl rfl sc18 rfl rfl (fun _ _ _ _ _ _ us hl => match us, hl with | [_], _ => rfl) ck18
  obtain ⟨T19, l19, u19, p19, m19, D19, b19, a19, q19⟩ := def_of (G := G) (F := f19) (lm := false) X Gn (defAtE c 19 19 rfl rfl) rfl rfl sc19 rfl rfl (fun _ _ _ _ _ _ us hl => match us, hl with | [_], _ => rfl) ck19
  obtain ⟨T20, l20, u20, p20, m20, D20, b20, a20, q20⟩ := def_of (G := G) (F := f20) (lm := false) X Gn (defAtE c 20 20 rfl rfl) rfl rfl sc20 rfl rfl (fun _ _ _ _ _ _ us hl => match us, hl with | [_, _, _], _ => rfl) ck20
  obtain ⟨T21, l21, u21, p21, m21, D21, b21, a21, q21⟩ := def_of (G := G) (F := f21) (lm := false) X Gn (defAtE c 21 21 rfl rfl) rfl rfl sc21 rfl rfl (fun _ _ _ _ _ _ us hl => match us, hl with | [_], _ => rfl) ck21
  obtain ⟨T22, l22, u22, p22, m22, D22, b22, a22, q22⟩ := def_of (G := G) (F := f22) (lm := false) X Gn (defAtE c 22 22 rfl rfl) rfl rfl sc22 rfl rfl (fun _ _ _ _ _ _ us hl => match us, hl with | [_, _, _], _ => rfl) ck22
  obtain ⟨T23, l23, u23, p23, m23, D23, b23, a23, q23⟩ := def_of (G := G) (F := f23) (lm := false) X Gn (defAtE c 23 23 rfl rfl) rfl rfl sc23 rfl rfl (fun _ _ _ _ _ _ us hl => match us, hl with | [_, _], _ => rfl) ck23
  obtain ⟨T24, l24, u24, p24, m24, D24, b24, a24, q24⟩ := def_of (G := G) (F := f24) (lm := false) X Gn (defAtE c 24 24 rfl rfl) rfl rfl sc24 rfl rfl (fun _ _ _ _ _ _ us hl => match us, hl with | [_, _], _ => rfl) ck24
  obtain ⟨T25, l25, u25, p25, m25, D25, b25, a25, q25⟩ := def_of (G := G) (F := f25) (lm := false) X Gn (defAtE c 25 25 rfl rfl) rfl rfl sc25 rfl rfl (fun _ _ _ _ _ _ us hl => match us, hl with | [_, _], _ => rfl) ck25
  obtain ⟨T26, l26, u26, p26, m26, D26, b26, a26, q26⟩ := def_of (G := G) (F := f26) (lm := false) X Gn (defAtE c 26 26 rfl rfl) rfl rfl sc26 rfl rfl (fun _ _ _ _ _ _ us hl => match us, hl with | [_], _ => rfl) ck26
  obtain ⟨T27, l27, u27, p27, m27, D27, b27, a27, q27⟩ := def_of (G := G) (F := f27) (lm := false) X Gn (defAtE c 27 27 rfl rfl) rfl rfl sc27 rfl rfl (fun _ _ _ _ _ _ us hl => match us, hl with | [_, _], _ => rfl) ck27
  obtain ⟨T28, l28, u28, p28, m28, D28, b28, a28, q28⟩ := def_of (G := G) (F := f28) (lm := false) X Gn (defAtE c 28 28 rfl rfl) rfl rfl sc28 rfl rfl (fun _ _ _ _ _ _ us hl => match us, hl with | [_, _], _ => rfl) ck28
  obtain ⟨T29, l29, u29, p29, m29, D29, b29, a29, q29⟩ := def_of (G := G) (F := f29) (lm := false) X Gn (defAtE c 29 29 rfl rfl) rfl rfl sc29 rfl rfl (fun _ _ _ _ _ _ us hl => match us, hl with | [_, _], _ => rfl) ck29
  obtain ⟨T30, l30, u30, p30, m30, D30, b30, a30, q30⟩ := def_of (G := G) (F := f30) (lm := false) X Gn (defAtE c 30 30 rfl rfl) rfl rfl sc30 rfl rfl (fun _ _ _ _ _ _ us hl => match us, hl with | [_], _ => rfl) ck30
  obtain ⟨T31, l31, u31, p31, m31, D31, b31, a31, q31⟩ := def_of (G := G) (F := f31) (lm := false) X Gn (defAtE c 31 31 rfl rfl) rfl rfl sc31 rfl rfl (fun _ _ _ _ _ _ us hl => match us, hl with | [_, _, _], _ => rfl) ck31
  obtain ⟨T32, l32, u32, p32, m32, D32, b32, a32, q32⟩ := def_of (G := G) (F := f32) (lm := false) X Gn (defAtE c 32 32 rfl rfl) rfl rfl sc32 rfl rfl (fun _ _ _ _ _ _ us hl => match us, hl with | [_, _], _ => rfl) ck32
  obtain ⟨T33, l33, u33, p33, m33, D33, b33, a33, q33⟩ := def_of (G := G) (F := f33) (lm := false) X Gn (defAtE c 33 33 rfl rfl) rfl rfl sc33 rfl rfl (fun _ _ _ _ _ _ us hl => match us, hl with | [_, _], _ => rfl) ck33
  obtain ⟨T34, l34, u34, p34, m34, D34, b34, a34, q34⟩ := def_of (G := G) (F := f34) (lm := false) X Gn (defAtE c 34 34 rfl rfl) rfl rfl sc34 rfl rfl (fun _ _ _ _ _ _ us hl => match us, hl with | [_], _ => rfl) ck34
  obtain ⟨T35, l35, u35, p35, m35, D35, b35, a35, q35⟩ := def_of (G := G) (F := f35) (lm := false) X Gn (defAtE c 35 35 rfl rfl) rfl rfl sc35 rfl rfl (fun _ _ _ _ _ _ us hl => match us, hl with | [_, _], _ => rfl) ck35
  obtain ⟨T36, l36, u36, p36, m36, D36, b36, a36, q36⟩ := def_of (G := G) (F := f36) (lm := false) X Gn (defAtE c 36 36 rfl rfl) rfl rfl sc36 rfl rfl (fun _ _ _ _ _ _ us hl => match us, hl with | [_, _], _ => rfl) ck36
  obtain ⟨T37, l37, u37, p37, m37, D37, b37, a37, q37⟩ := def_of (G := G) (F := f37) (lm := false) X Gn (defAtE c 37 37 rfl rfl) rfl rfl sc37 rfl rfl (fun _ _ _ _ _ _ us hl => match us, hl with | [_], _ => rfl) ck37
  have all : Defs K mg G P [T0, T1, T2, T3, T4, T5, T6, T7, T8, T9, T10, T11, T12, T13, T14, T15, T16, T17, T18, T19, T20, T21, T22, T23, T24, T25, T26, T27, T28, T29, T30, T31, T32, T33, T34, T35, T36, T37] := .cons D0 a0 <| .cons D1 a1 <| .cons D2 a2 <| .cons D3 a3 <| .cons D4 a4 <| .cons D5 a5 <| .cons D6 a6 <| .cons D7 a7 <| .cons D8 a8 <| .cons D9 a9 <| .cons D10 a10 <| .cons D11 a11 <| .cons D12 a12 <| .cons D13 a13 <| .cons D14 a14 <| .cons D15 a15 <| .cons D16 a16 <| .cons D17 a17 <| .cons D18 a18 <| .cons D19 a19 <| .cons D20 a20 <| .cons D21 a21 <| .cons D22 a22 <| .cons D23 a23 <| .cons D24 a24 <| .cons D25 a25 <| .cons D26 a26 <| .cons D27 a27 <| .cons D28 a28 <| .cons D29 a29 <| .cons D30 a30 <| .cons D31 a31 <| .cons D32 a32 <| .cons D33 a33 <| .cons D34 a34 <| .cons D35 a35 <| .cons D36 a36 <| .cons D37 a37 <| .nil
  have e := hfa.symm.trans m37
  cases e
  have gl : ∀ p ∈ G.gl, GlAt K (gmOf K G T w.params (tbOf K hd.lm)) p.1 p.2 := by
    intro p hp
    simp only [G, List.mem_cons, List.mem_nil_iff, or_false] at hp
    rcases hp with rfl | rfl | rfl
    · exact intE c 0 rfl
    · exact intE c 1 rfl
    · exact intE c 2 rfl
  have nb : ∀ x ∈ G.nb, PySem.W.nsIn K mainGlobals x = some none := fun x hx => (exB_ok c.more).fr x hx
  have bt : ∀ q ∈ T.bt, bootBuiltins q.1 = some (.type q.2) := by
    intro q hq
    simp only [T, List.mem_cons, List.mem_nil_iff, or_false] at hq
  have ini : ∀ q ∈ G.rz, G.cf.getD q.2 [] ≠ [] → IniF RwX.prog w K q.1 (G.cf.getD q.2 []).reverse := by
    intro q hq hne
    simp only [G, List.mem_cons, List.mem_nil_iff, or_false] at hq
    rcases hq with rfl | rfl
    · exact iniFE c 38 38 0 rfl rfl rfl (fun _ _ _ _ _ _ us hl => match us, hl with | [_, _], _ => rfl) is0 ib0
    · exact absurd rfl hne
  refine ⟨T37.fd, fun s v => ?_, fun base _ _ TB => ?_⟩
  · exact BindsTo.of_eq (b37 [v] rfl)
  · have lms : ∀ Tq ∈ [T0, T1, T2, T3, T4, T5, T6, T7, T8, T9, T10, T11, T12, T13, T14, T15, T16, T17, T18, T19, T20, T21, T22, T23, T24, T25, T26, T27, T28, T29, T30, T31, T32, T33, T34, T35, T36, T37], Tq.lm = true → ∃ c P, (∀ cdv, CdAt K Tq.l cdv → cdv = .ref c) ∧ LamX.TabB base mg c P ∧ (P, Tq.qual ++ ".<locals>." ++ "<lambda>") ∈ tbOf K hd.lm ∧ ∀ p ∈ tbOf K hd.lm, p.1 = P → p.2 = Tq.qual ++ ".<locals>." ++ "<lambda>" := by
      intro Tq hT z
      simp only [List.mem_cons, List.mem_nil_iff, or_false] at hT
      rcases hT with rfl | rfl | rfl | rfl | rfl | rfl | rfl | rfl | rfl | rfl | rfl | rfl | rfl | rfl | rfl | rfl | rfl | rfl | rfl | rfl | rfl | rfl | rfl | rfl | rfl | rfl | rfl | rfl | rfl | rfl | rfl | rfl | rfl | rfl | rfl | rfl | rfl | rfl
      · rw [l0] at z; cases z
      · rw [l1] at z; cases z
      · rw [l2] at z; cases z
      · rw [l3] at z; cases z
      · rw [l4] at z; cases z
      · rw [l5] at z; cases z
      · rw [l6] at z; cases z
      · rw [l7] at z; cases z
      · rw [l8] at z; cases z
      · rw [l9] at z; cases z
      · rw [l10] at z; cases z
      · rw [l11] at z; cases z
      · rw [l12] at z; cases z
      · rw [l13] at z; cases z
      · rw [l14] at z; cases z
      · rw [l15] at z; cases z
      · rw [l16] at z; cases z
      · rw [l17] at z; cases z
      · rw [l18] at z; cases z
      · rw [l19] at z; cases z
      · rw [l20] at z; cases z
      · rw [l21] at z; cases z
      · rw [l22] at z; cases z
      · rw [l23] at z; cases z
      · rw [l24] at z; cases z
      · rw [l25] at z; cases z
      · rw [l26] at z; cases z
      · rw [l27] at z; cases z
      · rw [l28] at z; cases z
      · rw [l29] at z; cases z
      · rw [l30] at z; cases z
      · rw [l31] at z; cases z
      · rw [l32] at z; cases z
      · rw [l33] at z; cases z
      · rw [l34] at z; cases z
      · rw [l35] at z; cases z
      · rw [l36] at z; cases z
      · rw [l37] at z; cases z
    have q := (all_ok (P := RwX.prog) (w := w) (base := base) (G := G) (g := (gmOf K G T w.params (tbOf K hd.lm))) (T := fun i => [T0, T1, T2, T3, T4, T5, T6, T7, T8, T9, T10, T11, T12, T13, T14, T15, T16, T17, T18, T19, T20, T21, T22, T23, T24, T25, T26, T27, T28, T29, T30, T31, T32, T33, T34, T35, T36, T37].getD i T37) (fun i F hF ho => (all.at_ hF ho).1) (nbs_of X Gn nb) (gls_of X Gn gl) (xf_of X Gn (exB_ok c.more).xc (exB_ok c.more).xt (exB_ok c.more).xr (exB_ok c.more).xi bt ini) (fun i F hF ho => fa_of (G := G) hF ((all.at_ hF ho.1).2 ho.2)) (fun _ _ _ _ _ z => nomatch z) (fun _ _ _ _ z => (Bool.false_ne_true z).elim) (fun _ _ _ _ _ => Iff.rfl) (fun i F hF => getD_all lms (lms _ (by simp)) i) 104).1 37 f37 rfl (by decide)
    have e2 : T37.ps = (["_law_script"] : List Str) := p37
    rw [← e2]
    exact q
end K68
open PySem PySem.W PySem.Calls PyProof.Rows
set_option maxRecDepth 100000 in
set_option maxHeartbeats 0 in
theorem PySem.Challenge.cw_treelore_k68_whole_few_new_ties_holds : PySem.Challenge.rw_treelore_k68_whole_few_new_ties.Holds := by
  w_on; o_law
  refine HandSHeadRun.head_any (r := OpenLaw.row PySem.Challenge.rw_treelore_k68_whole_few_new_ties) (q := K68.qv) (H := K68.hk) (ob := K68.ob) (M := 20000) (loose := K68.looseL) (d := HandSHeadRun.topDef (OpenLaw.row PySem.Challenge.rw_treelore_k68_whole_few_new_ties).prog 49) (kwd := []) K68.ob_eq
    (by kernel_rfl) (fun s => by kernel_rfl) K68.run (by kernel_rfl) (by kernel_rfl) (by kernel_rfl) (by rfl) (by first | assumption | decide +kernel) (by decide +kernel) ⟨rfl, rfl, rfl, rfl, rfl, by decide +kernel⟩ ?hw ?hc
  case hw => w_witness2
  case hc =>
    refine Ev.FnG.walkE (l := PySem.Challenge.rw_treelore_k68_whole_few_new_ties) (n := 63) (k := 210) (x := "_law_script") rfl (by decide) (by kernel_rfl) ⟨rfl, by decide, by decide⟩ ?F
    intro w mg fa h Y G hmg0
    obtain ⟨K, KX, c⟩ := Y
    have hmg : mg ("law" : PySem.Str) = some (.ref fa) := by
      have e : (HandSHeadRun.topDef (OpenLaw.row PySem.Challenge.rw_treelore_k68_whole_few_new_ties).prog 49).name = ("law" : PySem.Str) := by kernel_rfl
      rw [← e]
      exact hmg0
    obtain ⟨fd, hb, hF⟩ := K68.all_mk KX G hmg c
    refine ⟨K, fd, (Ev.lmD K68.hd.lm).map (He.cT K), _, KX, fun p hp => ?_, fun p hp => ?_, fun p hp => ?_, hb, fun H a ns hl hH hS => Ev.law_sp (K68.law_true ns hl) hS (Ev.tabs_start hH), hF⟩
    · obtain ⟨y, hy, rfl⟩ := List.mem_map.mp hp
      exact c.empty y hy
    · obtain ⟨y, hy, rfl⟩ := List.mem_map.mp hp
      exact c.out y hy
    · obtain ⟨y, hy, rfl⟩ := List.mem_map.mp hp
      exact PySem.W.codeHd_of_K KX (c.hd y hy)
