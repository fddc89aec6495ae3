import PyProof.Rows.All
import Wide.All
import OpenK.AllK
import Wide.FinOn
import HandS.ForMost
import HandS.Ends
import HandS.HeadEnd
import HandS.Defaults
import HandS.Flow
import HandS.Style
import HandS.Wide
import HandS.IsInst
import HandS.RaiseMore
import HandS.TupAny
import HandS.TupMul
import HandS.NoneIn
import HandS.Zip
import HandS.Rev
import HandS.RevRange
import HandS.Walk
import HandS.More
import HandS.Deep
import HandS.SortInts
import HandS.MakeKw
import HandS.Property
import KE.DataMinMax
import PyProof.ReprRoads
import HandS.Head0
import HandS.Head1
import HandS.Head2
import HandS.HeadHook1
import HandS.HeadHook2
import HandS.HeadHook3
import HandS.HeadHook4
import PySem.Challenge.RW_everystage_k59_work_with_falls
set_option Elab.async false
set_option linter.all false
set_option maxRecDepth 100000
set_option maxHeartbeats 4000000
/-! ### A def's promise where no repr is under way (what repr of a list or a tuple asks) -/
namespace Ev
open PySem PySem.Spec PyProof.Rows L2
/-- as FnOk, in a place where nothing is being shown -/
structure FnG (P : Program) (w : World) (K : PySem.W.Frag) (mg : Str → Option Value) (base : Heap) (k : Nat) (f : Addr) (fd : FuncData) (ps : List Str) (sp : Sp) : Prop where
  len : ∀ vs H Q E, sp vs H Q E → vs.length = ps.length
  run : ∀ (A : Around) (outer : List Env) (s : Shared) (H : Hp) (args : Args) (us : List Value) (vs : List V) (Q : VK) (E : XK), A.guards = some [] → Room k A → Env0 P w K mg base A outer s H → BindsTo s fd args (ps.zip us) → Vals vs us → sp vs H Q E →
    codeAny (model P w) A (.call (.ref f) args) (CR CX0 outer P w H s Q E) s
theorem FnG.mono {P : Program} {w : World} {K : PySem.W.Frag} {mg : Str → Option Value} {base : Heap} {j k : Nat} {f : Addr} {fd : FuncData} {ps : List Str} {sp : Sp} (F : FnG P w K mg base j f fd ps sp) (h : j ≤ k) : FnG P w K mg base k f fd ps sp :=
  ⟨F.len, fun A outer s H args us vs Q E hg hr => F.run A outer s H args us vs Q E hg (hr.mono h)⟩
/-- a def by its body -/
theorem fnG_ok {P : Program} {w : World} {K : PySem.W.Frag} {mg : Str → Option Value} {base : Heap} {k : Nat} {f : Addr} {fd : FuncData} {x qual : Str} {params : Arguments} {body : List Stmt} {scope : Scope} {dvs : List V} {kws : List (Str × V)} {N ps : List Str} {sp : Sp}
    (F : FunD K x qual params body scope dvs kws f fd) (S : FnScope N ps scope) (len : ∀ vs H Q E, sp vs H Q E → vs.length = ps.length)
    (hbody : ∀ (cdv : Value) (A : Around) (outer : List Env) (s : Shared) (H : Hp) (vs : List V) (Q : VK) (E : XK), A.guards = some [] → Room k (A.deeper (envOfC qual scope s.heap.objs.size f cdv)) → sp vs H Q E →
      ∃ t, PSs (cxOf CX0 P w K mg base N qual scope f cdv A outer s H E) body t ∧ t { nx := fun _ H' => Q .non H', rt := Q } (start N vs) H) : FnG P w K mg base (k + 1) f fd ps sp := by
  obtain ⟨oc, od, dV, kV, doc, pm, an, cdv, ct, osl, rfl, lk, hcd, _, _⟩ := F.ex
  refine ⟨len, fun A outer s H args us vs Q E hg hr e0 hb r hsp => ?_⟩
  obtain ⟨t, ht, hq⟩ := hbody cdv A outer s H vs Q E hg (hr.deeper _) hsp
  -- the one place of this call: its own promise, of FnOk's form
  have KX : K.In s.heap := e0.mod.kin.keeps fun b o e => (e0.bs b o e).1
  have cells : ∀ y ∈ ps.zip us, scope.names.lookup y.1 = some .local ∨ (scope.names.lookup y.1 = some .cell ∧ ((cellsFrom (s.heap.objs.size + 1) scope.names []).lookup y.1).isSome = true) := by
    rintro ⟨n, v⟩ hy
    rcases S.par n (List.of_mem_zip hy).1 with q | q
    · exact .inl q
    · exact .inr ⟨q, PySem.W.cellsFrom_some _ _ _ (.inl q)⟩
  refine codeAny_call_function hr.depth (KX _ _ lk) rfl S.co S.gen rfl (PySem.W.codeRec_of KX hcd) (hb _ _ _ _ (wpAny_newFunctionEnv_cells S.kind cells fun env he s1 xx => ?_))
  subst he
  have lim := (e0.mod.nolimit.keeps fun b o e => (e0.bs b o e).1).keeps xx.toInCall.keep
  refine ⟨lim, codeAny_func (wpAny_mono (ht.run [] s1 (start N vs) H _ (inv_start S hr.hd e0 (len _ _ _ _ hsp) r xx) hq) (fun fl s' hs => ?_) fun e s' hs => hs)⟩
  have fin : ∀ {σ' : L2.St} {H' : Hp} {v : V} {u : Value}, Inv (cxOf CX0 P w K mg base N qual scope f cdv A outer s H E) [] σ' H' s' → RelV v u → Q v H' → CE outer P w H s Q u s' :=
    fun {σ' H' v u} J rv q => ⟨v, H', J.os, J.bare, J.base, J.hok, rv, q⟩
  cases fl with
  | ret u =>
    obtain ⟨v, σ', H', J, rv, q⟩ := hs
    exact fin J rv q
  | next =>
    obtain ⟨σ', H', J, q⟩ := hs
    exact fin (v := V.non) (u := Value.none) J rfl q
  | brk =>
    obtain ⟨_, _, _, q⟩ := hs
    exact False.elim q
  | cont =>
    obtain ⟨_, _, _, q⟩ := hs
    exact False.elim q
/-- the law's call -/
theorem lawG {P : Program} {w : World} {K : PySem.W.Frag} {mg mb : Str → Option Value} {k : Nat} {fa a : Addr} {fd : FuncData} {x : Str} {sp : Sp} {s : Shared} {vs : List Value} {ns : List Int} {H : Hp} {base : Heap}
    (e0 : Env0 P w K mg base callerA [] s H) (F : FnG P w K mg base k fa fd [x] sp) (hr : Room k callerA) (hbind : BindsTo s fd ⟨[.ref a], []⟩ [(x, .ref a)]) (hO : ∀ b, H b = none ∨ ∃ o xs, H b = some (.frz o (.lst xs)))
    (hsp : sp [.ref a] H (fun v _ => v = .bl true) fun _ _ _ => False) :
    codeAny (model P w) callerA (.call (.ref fa) ⟨[.ref a], []⟩) (fun r s' => r = .ok (.ret (.bool true)) ∧ OldK s.heap s'.heap ∧ s'.os = s.os ∧ AllBare s'.gens) s := by
  refine codeAny_mono (F.run callerA [] s H ⟨[.ref a], []⟩ [.ref a] [.ref a] _ _ rfl hr e0 hbind (.cons rfl .nil) hsp) fun r s' h => ?_
  cases r with
  | error e => exact h.elim
  | ok fl =>
    cases fl with
    | next => exact h.elim
    | brk => exact h.elim
    | cont => exact h.elim
    | ret u =>
      obtain ⟨v, H', os, bare, un, hok', r', q⟩ := h
      have q2 : v = .bl true := q
      subst q2
      obtain rfl : u = Value.bool true := r'
      refine ⟨rfl, OldK.of_keep fun b o e => ?_, os, bare⟩
      rcases hO b with z | ⟨ob, xs, z⟩
      · exact un.keep b o e z (by intro y; exact absurd (show b ∈ ([] : List Addr) from y) (by simp)) (by simp)
      · have e1 := (e0.hok b _ z).1
        have e2 := (hok' b _ (un.frzs b ob _ z)).1
        rw [e] at e1
        cases e1
        exact e2
end Ev

set_option Elab.async false
set_option linter.all false
set_option maxRecDepth 100000
/-! ### A pure evaluator: values, cells, results -/
namespace Ev
open PySem L2

inductive Val where
  | non | bl (b : Bool) | int (i : Int) | str (s : Str)
  | tup (xs : List Val) | fl (xs : List Val) | rl (xs : List Val) | fo (c : String) (fs : List (String × Val))
  | ref (n : Nat)
abbrev Env := List (Option Val)
inductive Cell where
  | lst (xs : List Val)
  | obj (c : String) (fs : List (String × Val))
  | dict (kvs : List (Val × Val))
abbrev Store := List Cell
structure Exn where
  cls : String
  fs : List (String × Val)
inductive R (α : Type) where
  | ok (a : α) (s : Store)
  | ex (e : Exn) (s : Store)
  | bad
def R.bind {α β : Type} (r : R α) (k : α → Store → R β) : R β := match r with
  | .ok a s => k a s
  | .ex e s => .ex e s
  | .bad => .bad
@[simp] theorem R.bind_ok {α β : Type} (a : α) (s : Store) (k : α → Store → R β) : (R.ok a s).bind k = k a s := rfl
@[simp] theorem R.bind_ex {α β : Type} (e : Exn) (s : Store) (k : α → Store → R β) : (R.ex e s : R α).bind k = .ex e s := rfl
@[simp] theorem R.bind_bad {α β : Type} (k : α → Store → R β) : (R.bad : R α).bind k = .bad := rfl
theorem R.bind_eq {α β : Type} {r : R α} {k : α → Store → R β} {b : β} {s : Store} (h : r.bind k = .ok b s) : ∃ a s1, r = .ok a s1 ∧ k a s1 = .ok b s := by
  cases r with
  | ok a s1 => exact ⟨a, s1, rfl, h⟩
  | ex e s1 => cases h
  | bad => cases h
/-- an option as a result at a store -/
def ofO {α : Type} (o : Option α) (S : Store) : R α := match o with
  | some a => .ok a S
  | none => .bad
@[simp] theorem ofO_some {α : Type} (a : α) (S : Store) : ofO (some a) S = .ok a S := rfl
@[simp] theorem ofO_none {α : Type} (S : Store) : ofO (none : Option α) S = .bad := rfl
theorem ofO_eq {α : Type} {o : Option α} {S S' : Store} {a : α} (h : ofO o S = .ok a S') : o = some a ∧ S' = S := by
  cases o with
  | none => cases h
  | some b =>
    have h' : R.ok b S = R.ok a S' := h
    injection h' with h1 h2
    exact ⟨by rw [h1], h2.symm⟩
theorem bind_ofO {α β : Type} {o : Option α} {S S' : Store} {k : α → Store → R β} {b : β} (h : (ofO o S).bind k = .ok b S') : ∃ a, o = some a ∧ k a S = .ok b S' := by
  cases o with
  | none => cases h
  | some a => exact ⟨a, rfl, h⟩
/-- ok if c -/
def chk {α : Type} (c : Prop) [Decidable c] (r : R α) : R α := if c then r else .bad
@[simp] theorem chk_pos {α : Type} {c : Prop} [Decidable c] {r : R α} (h : c) : chk c r = r := if_pos h
theorem chk_eq {α : Type} {c : Prop} [Decidable c] {r : R α} {a : α} {S : Store} (h : chk c r = .ok a S) : c ∧ r = .ok a S := by
  unfold chk at h
  by_cases hc : c
  · rw [if_pos hc] at h
    exact ⟨hc, h⟩
  · rw [if_neg hc] at h
    cases h

/-! the references of a value lie below n -/
mutual
def Val.bel (n : Nat) : Val → Bool
  | .ref k => decide (k < n)
  | .tup xs => Val.belL n xs
  | .fl xs => Val.belL n xs
  | .rl xs => Val.belL n xs
  | .fo _ fs => Val.belF n fs
  | .non => true
  | .bl _ => true
  | .int _ => true
  | .str _ => true
def Val.belL (n : Nat) : List Val → Bool
  | [] => true
  | x :: xs => x.bel n && Val.belL n xs
def Val.belF (n : Nat) : List (String × Val) → Bool
  | [] => true
  | (_, x) :: xs => x.bel n && Val.belF n xs
end
def belK (n : Nat) : List (Val × Val) → Bool
  | [] => true
  | (k, x) :: xs => k.bel n && x.bel n && belK n xs
def Cell.bel (n : Nat) : Cell → Bool
  | .lst xs => Val.belL n xs
  | .obj _ fs => Val.belF n fs
  | .dict kvs => belK n kvs
/-- a value with what lies above n written out -/
def freeze : Nat → Nat → Store → Val → Option Val
  | 0, n, _, v => if v.bel n then some v else none
  | d + 1, n, S, v => if v.bel n then some v else match v with
    | .ref k => match S[k]? with
      | some (.lst xs) => (xs.mapM (freeze d n S)).map .fl
      | some (.obj c fs) => (fs.mapM fun p => (freeze d n S p.2).map fun v' => (p.1, v')).map (.fo c)
      | _ => none
    | .tup xs => (xs.mapM (freeze d n S)).map .tup
    | .fl xs => (xs.mapM (freeze d n S)).map .fl
    | .rl xs => (xs.mapM (freeze d n S)).map .rl
    | .fo c fs => (fs.mapM fun p => (freeze d n S p.2).map fun v' => (p.1, v')).map (.fo c)
    | _ => none
/-- the old cells stay, or hold nothing new -/
def KeepOk (S S' : Store) : Prop := S.length ≤ S'.length ∧ ∀ (i : Nat) (c c' : Cell), S[i]? = some c → S'[i]? = some c' → c' = c ∨ c'.bel S.length = true
open Classical in
/-- the end of a call: what is new is forgotten, or written out in the result -/
noncomputable def exitp (S : Store) (v : Val) (S' : Store) : R Val := match freeze 8 S.length S' v with
  | some v' => if KeepOk S S' then .ok v' (S'.take S.length) else .bad
  | none => .bad

/-! what is read of a value -/
def seqOf (S : Store) : Val → Option (List Val)
  | .tup xs => some xs
  | .fl xs => some xs
  | .rl xs => some xs
  | .ref k => match S[k]? with
    | some (.lst xs) => some xs
    | _ => none
  | _ => none
def isTup : Val → Bool
  | .tup _ => true
  | _ => false
def objOf (S : Store) : Val → Option (String × List (String × Val))
  | .fo c fs => some (c, fs)
  | .ref k => match S[k]? with
    | some (.obj c fs) => some (c, fs)
    | _ => none
  | _ => none
abbrev LINE : Nat := 1000000
@[simp] theorem LINE_eq : LINE = 1000000 := rfl
/-- a new list, as a cell or as a value -/
def mkList (m : Bool) (xs : List Val) (S : Store) : R Val := if xs.length ≤ LINE then (if m then .ok (.ref S.length) (S ++ [.lst xs]) else .ok (.fl xs) S) else .bad
def mkTup (xs : List Val) (S : Store) : R Val := if xs.length ≤ LINE then .ok (.tup xs) S else .bad

/-! data: == -/
mutual
def Val.pd : Val → PyData
  | .non => .none
  | .bl b => .bool b
  | .int i => .int i
  | .str s => .str s
  | .tup xs => .tuple (Val.pdL xs)
  | .fl xs => .list (Val.pdL xs)
  | .rl xs => .list (Val.pdL xs)
  | .fo _ _ => .dict []
  | .ref _ => .dict []
def Val.pdL : List Val → List PyData
  | [] => []
  | x :: xs => x.pd :: Val.pdL xs
end
/-- data written out -/
def datum (S : Store) (v : Val) : Option PyData := match freeze 8 0 S v with
  | some w => if PySem.SeqAt.shaped w.pd = true then some w.pd else none
  | none => none

inductive BOp where
  | add | sub | mul | fdiv | mod | pow | band | bor | shl | shr
inductive COp where
  | eq | ne | lt | le | gt | ge | is_ | isnot | in_ | notin
/-- a type: a built-in one, a class of the program -/
inductive TK where
  | b (n : String) | c (n : String)
inductive Blt where
  | len | int | str | repr | tuple | list | max | min | sum | sorted | abs | all | any
inductive BM where
  | append | pop | extend | insert | index | reverse | clear | remove | count
inductive Tg where
  | nm (i : Nat) | tup (t : List Tg)

def mulOk (i j : Int) : Prop := CMul i j ∨ CMulW i j
instance (i j : Int) : Decidable (mulOk i j) := by unfold mulOk CMul CMulW; infer_instance
instance (i j : Int) : Decidable (CMul i j) := by unfold CMul; infer_instance
instance (i j : Int) : Decidable (CDivN i j) := by unfold CDivN; infer_instance
instance (i j : Int) : Decidable (CPow i j) := by unfold CPow; infer_instance
instance (i j : Int) : Decidable (CDivW i j) := by unfold CDivW; infer_instance
def binI (op : BOp) (i j : Int) (S : Store) : R Val := match op with
  | .add => .ok (.int (i + j)) S
  | .sub => .ok (.int (i - j)) S
  | .mul => chk (mulOk i j) (.ok (.int (i * j)) S)
  | .fdiv => chk (CDivN i j ∨ CDivW i j) (.ok (.int (i.fdiv j)) S)
  | .mod => chk (j ≠ 0) (.ok (.int (i.fmod j)) S)
  | .pow => chk (CPow i j) (.ok (.int (i ^ j.toNat)) S)
  | .band => .ok (.int (Builtin.bitAnd i j)) S
  | .bor => .ok (.int (Builtin.bitOr i j)) S
  | .shl => chk (CPow i j) (.ok (.int (i * 2 ^ j.toNat)) S)
  | .shr => chk (0 ≤ j) (.ok (.int (i / 2 ^ j.toNat)) S)
def isRl : Val → Bool
  | .rl _ => true
  | _ => false
def addL (m : Bool) (x y : Val) (S : Store) : R Val := match seqOf S x, seqOf S y with
  | some a, some b => mkList m (a ++ b) S
  | _, _ => .bad
/-- a op b -/
def binV (m : Bool) (op : BOp) (x y : Val) (S : Store) : R Val := match x, y with
  | .int i, .int j => binI op i j S
  | .str a, .str b => match op with
    | .add => chk (a.length + b.length ≤ LINE) (.ok (.str (a ++ b)) S)
    | _ => .bad
  | .tup a, .tup b => match op with
    | .add => mkTup (a ++ b) S
    | _ => .bad
  | x, y => match op with
    | .add => if isTup x || isTup y || isRl x || isRl y then .bad else addL m x y S
    | _ => .bad
/-- the lists of ints ascend -/
def ltIs : List Int → List Int → Bool := HT.lexLt
def intOf : Val → Option Int
  | .int i => some i
  | _ => none
def boolOf : Val → Option Bool
  | .bl b => some b
  | _ => none
def flatOf : Val → Option V
  | .non => some .non
  | .bl b => some (.bl b)
  | .int i => some (.int i)
  | .str s => some (.str s)
  | _ => none
/-- x in y -/
def inVal (x y : Val) (S : Store) : Option Bool := match y with
  | .tup ys => match flatOf x, ys.mapM flatOf with
    | some a, some bs => some (inV a bs)
    | _, _ => none
  | y => match datum S x, datum S y with
    | some d, some (.list ds) => some (ds.any fun z => PyData.eqv z d)
    | _, _ => none
def cmpI (op : COp) (i j : Int) : Option Bool := match op with
  | .eq => some (decide (i = j))
  | .ne => some (!decide (i = j))
  | .lt => some (decide (i < j))
  | .le => some (decide (i ≤ j))
  | .gt => some (decide (j < i))
  | .ge => some (decide (j ≤ i))
  | _ => none
/-- a op b, a comparison -/
def cmpV (op : COp) (x y : Val) (S : Store) : Option Bool := match op with
  | .is_ => match y with
    | .non => match x with
      | .non => some true
      | _ => some false
    | .bl b => match x with
      | .bl a => some (decide (a = b))
      | _ => none
    | _ => none
  | .isnot => match y with
    | .non => match x with
      | .non => some false
      | _ => some true
    | .bl b => match x with
      | .bl a => some (!decide (a = b))
      | _ => none
    | _ => none
  | .in_ => inVal x y S
  | .notin => (inVal x y S).map not
  | op => match x, y with
    | .int i, .int j => cmpI op i j
    | x, y => match op with
      | .eq => match datum S x, datum S y with
        | some d, some e => some (PyData.eqv d e)
        | _, _ => none
      | .ne => match datum S x, datum S y with
        | some d, some e => some (!PyData.eqv d e)
        | _, _ => none
      | .lt => match x, y with
        | .tup a, .tup b => match a.mapM intOf, b.mapM intOf with
          | some ns, some ms => some (ltIs ns ms)
          | _, _ => none
        | _, _ => none
      | _ => none
def truth (S : Store) : Val → Option Bool
  | .non => some false
  | .bl b => some b
  | .int i => some (i != 0)
  | .str s => if s.length ≤ LINE then some (s.length != 0) else none
  | .tup xs => some (!xs.isEmpty)
  | .fl xs => some (!xs.isEmpty)
  | .rl xs => some (!xs.isEmpty)
  | .ref k => match S[k]? with
    | some (.lst xs) => some (!xs.isEmpty)
    | _ => none
  | .fo _ _ => none
/-- an item by its place -/
def ixV (x y : Val) (S : Store) : Option Val := match y with
  | .int i => match seqOf S x with
    | some xs => atI xs i
    | none => none
  | _ => none
def cutL (xs : List Val) (lo hi : Option Int) : List Val := (xs.drop (HT.sIx xs.length 0 lo)).take (HT.sIx xs.length xs.length hi - HT.sIx xs.length 0 lo)
def slV (m : Bool) (x : Val) (lo hi : Option Int) (S : Store) : R Val := match x with
  | .tup xs => .ok (.tup (cutL xs lo hi)) S
  | x => match seqOf S x with
    | some xs => if m then .ok (.ref S.length) (S ++ [.lst (cutL xs lo hi)]) else .ok (.fl (cutL xs lo hi)) S
    | none => .bad
def tkOf (S : Store) : Val → Option TK
  | .non => some (.b "NoneType")
  | .bl _ => some (.b "bool")
  | .int _ => some (.b "int")
  | .str _ => some (.b "str")
  | .tup _ => some (.b "tuple")
  | .fl _ => some (.b "list")
  | .rl _ => some (.b "list")
  | .fo c _ => some (.c c)
  | .ref k => match S[k]? with
    | some (.lst _) => some (.b "list")
    | some (.obj c _) => some (.c c)
    | some (.dict _) => some (.b "dict")
    | none => none
def anyTy (isi : TK → TK → Option Bool) (t : TK) : List TK → Option Bool
  | [] => some false
  | u :: us => match isi t u with
    | some true => some true
    | some false => anyTy isi t us
    | none => none
def maxIs : List Int → Option Int
  | [] => none
  | x :: xs => some (xs.foldl (fun a b => if b > a then b else a) x)
def minIs : List Int → Option Int
  | [] => none
  | x :: xs => some (xs.foldl (fun a b => if b < a then b else a) x)
def insI (x : Int) : List Int → List Int
  | [] => [x]
  | y :: ys => if x ≤ y then x :: y :: ys else y :: insI x ys
def sortI : List Int → List Int
  | [] => []
  | x :: xs => insI x (sortI xs)
/-- a built-in's call -/
def lenB : List Val → Store → R Val
  | [v], S => match v with
    | .str s => chk (s.length ≤ LINE) (.ok (.int s.length) S)
    | v => match seqOf S v with
      | some xs => .ok (.int xs.length) S
      | none => .bad
  | _, _ => .bad
def intB : List Val → Store → R Val
  | [v], S => match v with
    | .int i => .ok (.int i) S
    | .bl b => .ok (.int (if b then 1 else 0)) S
    | _ => .bad
  | _, _ => .bad
def absB : List Val → Store → R Val
  | [v], S => match v with
    | .int i => .ok (.int (if i < 0 then -i else i)) S
    | _ => .bad
  | _, _ => .bad
/-- the ints of a list -/
def intsOf (S : Store) (v : Val) : Option (List Int) := if isTup v then none else match seqOf S v with
  | some xs => xs.mapM intOf
  | none => none
def boolsOf (S : Store) (v : Val) : Option (List Bool) := if isTup v then none else match seqOf S v with
  | some xs => xs.mapM boolOf
  | none => none
def max2 (x y : Val) : Option Val := match x, y with
  | .int i, .int j => some (.int (if j > i then j else i))
  | _, _ => none
def min2 (x y : Val) : Option Val := match x, y with
  | .int i, .int j => some (.int (if j < i then j else i))
  | _, _ => none
def max1 (S : Store) (v : Val) : Option Val := match intsOf S v with
  | some is => (maxIs is).map .int
  | none => none
/-- a tuple of ints, its ints -/
def isTI : Val → Bool
  | .tup ws => (ws.mapM intOf).isSome
  | _ => false
def tiOf : Val → List Int
  | .tup ws => (ws.mapM intOf).getD []
  | _ => []
/-- the first of the least of a list of int tuples -/
def minT : List Val → Option Val
  | x :: xs => if (x :: xs).all isTI then some (xs.foldl (fun a y => if HT.lexLt (tiOf y) (tiOf a) then y else a) x) else none
  | [] => none
def min1 (S : Store) (v : Val) : Option Val := match intsOf S v with
  | some is => (minIs is).map .int
  | none => if isTup v then none else (seqOf S v).bind minT
def maxB : List Val → Store → R Val
  | [x, y], S => ofO (max2 x y) S
  | [v], S => ofO (max1 S v) S
  | _, _ => .bad
def minB : List Val → Store → R Val
  | [x, y], S => ofO (min2 x y) S
  | [v], S => ofO (min1 S v) S
  | _, _ => .bad
def sumB : List Val → Store → R Val
  | [v], S => match intsOf S v with
    | some is => .ok (.int is.sum) S
    | none => .bad
  | _, _ => .bad
def allB : List Val → Store → R Val
  | [v], S => match boolsOf S v with
    | some bs => .ok (.bl (bs.all id)) S
    | none => .bad
  | _, _ => .bad
def anyB : List Val → Store → R Val
  | [v], S => match boolsOf S v with
    | some bs => .ok (.bl (bs.any id)) S
    | none => .bad
  | _, _ => .bad
def sortedB (m : Bool) : List Val → Store → R Val
  | [v], S => match intsOf S v with
    | some is => if m then .ok (.ref S.length) (S ++ [.lst ((sortI is).map .int)]) else .ok (.fl ((sortI is).map .int)) S
    | none => .bad
  | _, _ => .bad
def tupleB : List Val → Store → R Val
  | [v], S => match seqOf S v with
    | some xs => .ok (.tup xs) S
    | none => .bad
  | _, _ => .bad
def listB (m : Bool) : List Val → Store → R Val
  | [v], S => match seqOf S v with
    | some xs => if m then .ok (.ref S.length) (S ++ [.lst xs]) else .ok (.fl xs) S
    | none => .bad
  | _, _ => .bad
def strB : List Val → Store → R Val
  | [v], S => match v with
    | .int i => chk (i.natAbs.log2 < 1920) (.ok (.str (toString i)) S)
    | _ => .bad
  | _, _ => .bad
/-- repr of a list, a tuple -/
def reprB : List Val → Store → R Val
  | [v], S => match v with
    | .int i => chk (i.natAbs.log2 < 1920) (.ok (.str (toString i)) S)
    | v => match seqOf S v, datum S v with
      | some _, some d => chk (d.showable = true ∧ d.shown.length ≤ 16000000) (.ok (.str d.shown) S)
      | _, _ => .bad
  | _, _ => .bad
def bltV (m : Bool) (f : Blt) (vs : List Val) (S : Store) : R Val := match f with
  | .len => lenB vs S
  | .int => intB vs S
  | .abs => absB vs S
  | .max => maxB vs S
  | .min => minB vs S
  | .sum => sumB vs S
  | .all => allB vs S
  | .any => anyB vs S
  | .sorted => sortedB m vs S
  | .tuple => tupleB vs S
  | .list => listB m vs S
  | .str => strB vs S
  | .repr => reprB vs S
def idxD (ds : List PyData) (d : PyData) : Option Nat := ds.findIdx? fun z => PyData.eqv z d
def idxV (o w : Val) (S : Store) : R Val := match datum S o, datum S w with
  | some (.list ds), some d => match idxD ds d with
    | some j => .ok (.int j) S
    | none => .bad
  | _, _ => .bad
/-- what extend takes -/
def extOf (k : Nat) (S : Store) : Val → Option (List Val)
  | .fl zs => some zs
  | .ref j => if j = k then none else match S[j]? with
    | some (.lst zs) => some zs
    | _ => none
  | _ => none
def isLst (S : Store) : Val → Bool
  | .fl _ => true
  | .ref k => match S[k]? with
    | some (.lst _) => true
    | _ => false
  | _ => false
/-- a list's method -/
def bmL (f : BM) (k : Nat) (xs : List Val) (vs : List Val) (S : Store) : R Val := match f with
  | .append => match vs with
    | [y] => chk (xs.length < LINE) (.ok .non (S.set k (.lst (xs ++ [y]))))
    | _ => .bad
  | .pop => match vs with
    | [] => match xs[xs.length - 1]? with
      | some y => .ok y (S.set k (.lst xs.dropLast))
      | none => .bad
    | [.int i] => chk (-(2 ^ 62) ≤ i ∧ i < 2 ^ 62) (match ixN xs.length i with
      | some j => match xs[j]? with
        | some y => .ok y (S.set k (.lst (xs.eraseIdx j)))
        | none => .bad
      | none => .bad)
    | _ => .bad
  | .reverse => match vs with
    | [] => .ok .non (S.set k (.lst xs.reverse))
    | _ => .bad
  | .clear => match vs with
    | [] => .ok .non (S.set k (.lst []))
    | _ => .bad
  | .insert => match vs with
    | [.int i, y] => chk (xs.length < LINE ∧ 0 ≤ i ∧ i < 2 ^ 62) (.ok .non (S.set k (.lst (xs.take i.toNat ++ [y] ++ xs.drop i.toNat))))
    | _ => .bad
  | .extend => match vs with
    | [w] => match extOf k S w with
      | some zs => chk (xs.length + zs.length ≤ LINE) (.ok .non (S.set k (.lst (xs ++ zs))))
      | none => .bad
    | _ => .bad
  | _ => .bad
def bmO (f : BM) (o : Val) (vs : List Val) (S : Store) : R Val := match o with
  | .ref k => match S[k]? with
    | some (.lst xs) => bmL f k xs vs S
    | _ => .bad
  | _ => .bad
def bmV (f : BM) (o : Val) (vs : List Val) (S : Store) : R Val := match f with
  | .index => match vs with
    | [w] => idxV o w S
    | _ => .bad
  | f => bmO f o vs S
/-- o[i] = v -/
def setixV (o i v : Val) (S : Store) : Option Store := match o, i with
  | .ref k, .int n => match S[k]? with
    | some (.lst xs) => match ixN xs.length n with
      | some j => some (S.set k (.lst (xs.set j v)))
      | none => none
    | _ => none
  | _, _ => none
def putFs (f : String) (v : Val) : List (String × Val) → List (String × Val)
  | [] => [(f, v)]
  | (g, w) :: fs => if g = f then (f, v) :: fs else (g, w) :: putFs f v fs
/-- o.f = v -/
def setfldV (o : Val) (f : String) (v : Val) (S : Store) : Option Store := match o with
  | .ref k => match S[k]? with
    | some (.obj c fs) => if fs.length < 900 then some (S.set k (.obj c (putFs f v fs))) else none
    | _ => none
  | _ => none
/-! the store to names -/
mutual
def asg (S : Store) : Tg → Val → Env → Option Env
  | .nm i, v, ρ => some (ρ.set i (some v))
  | .tup ts, v, ρ => match seqOf S v with
    | some xs => asgL S ts xs ρ
    | none => none
def asgL (S : Store) : List Tg → List Val → Env → Option Env
  | [], [], ρ => some ρ
  | t :: ts, x :: xs, ρ => match asg S t x ρ with
    | some ρ' => asgL S ts xs ρ'
    | none => none
  | _, _, _ => none
end
def clr : List Nat → Env → Env
  | [], ρ => ρ
  | i :: is, ρ => (clr is ρ).set i none
end Ev

set_option Elab.async false
set_option linter.all false
set_option maxRecDepth 100000
/-! ### The text as data, and what it means -/
namespace Ev
open PySem L2
mutual
inductive E where
  | v (i : Nat) | i (n : Int) | b (t : Bool) | s (x : String) | n | g (x : String)
  | bin (m : Bool) (op : BOp) (a b : E)
  | neg (a : E) | not (a : E) | and (a b : E) | or (a b : E)
  | cmp (op : COp) (a b : E)
  | cmp2 (o1 o2 : COp) (a b c : E)
  | ite (c a b : E)
  | tup (es : Es) | lst (m : Bool) (es : Es)
  | ix (a i : E)
  | sl (m : Bool) (a : E) (lo hi : OE)
  | fld (a : E) (f : String)
  | call (f : String) (sh : Nat) (es ks : Es)
  | make (m : Bool) (c : String) (sh : Nat) (es ks : Es)
  | meth (a : E) (f : String) (sh : Nat) (es ks : Es)
  | blt (m : Bool) (f : Blt) (es : Es)
  | isi (a : E) (ts : List TK)
  | bm (a : E) (f : BM) (es : Es)
  | lc (m : Bool) (own : List Nat) (tg : Tg) (it : It) (cond : OE) (elt : E)
inductive Es where
  | nil | cons (e : E) (es : Es)
inductive OE where
  | none | some (e : E)
inductive It where
  | e (a : E) | range (es : Es) | enum (a : E) | zip (a b : E) | rev (a : E) | revr1 (a : E) | revr2 (a b : E)
end
mutual
inductive S_ where
  | set (i : Nat) (e : E)
  | asg (t : Tg) (e : E)
  | par (i j : Nat) (a b : E)
  | setix (a i e : E)
  | setfld (a : E) (f : String) (e : E)
  | aug (i : Nat) (op : BOp) (e : E)
  | augix (a i : E) (op : BOp) (e : E)
  | augfld (a : E) (f : String) (op : BOp) (e : E)
  | ex (e : E)
  | ret (e : E) | retn
  | ite (c : E) (a b : Ss)
  | for_ (t : Tg) (it : It) (body : Ss) (cl : List Nat)
  | wh (c : E) (body : Ss) (cl : List Nat)
  | pass | brk | cnt | never
inductive Ss where
  | nil | cons (s : S_) (r : Ss)
end
inductive Fl where
  | nx (ρ : Env) | rt (v : Val) | bk (ρ : Env) | ct (ρ : Env)

/-- what the names of the program mean -/
structure Gm where
  call : String → List Val → Store → R Val
  con : String → Option Val
  meth : String → String → Option String
  init : String → Option String
  fld : String → String → Bool
  prop : String → String → Option String
  isi : TK → TK → Option Bool
  arr : Nat → List Val → Option (List Val)
  fuel : Nat

def gdOf (S : Store) : Val → List (Nat × Cell)
  | .ref k => match S[k]? with
    | some c => [(k, c)]
    | none => []
  | _ => []
def gdOk (gs : List (Nat × Cell)) (S : Store) : Prop := ∀ p ∈ gs, S[p.1]? = some p.2
@[simp] theorem gdOk_nil (S : Store) : gdOk [] S := fun _ h => by cases h
@[simp] theorem gdOk_one (k : Nat) (c : Cell) (S : Store) : gdOk [(k, c)] S ↔ S[k]? = some c := by simp [gdOk]
def rangeL (lo hi : Int) : List Val := (List.range (hi - lo).toNat).map fun (k : Nat) => .int (lo + (k : Int))
def inR (i : Int) : Prop := -(2 ^ 62) ≤ i ∧ i < 2 ^ 62
instance (i : Int) : Decidable (inR i) := by unfold inR; infer_instance
def optCons : Option Val → List Val → List Val
  | some y, ys => y :: ys
  | none, ys => ys
section
open Classical
noncomputable def forL (gs : List (Nat × Cell)) (step : Val → Env → Store → R Fl) : List Val → Env → Store → R Fl
  | [], ρ, S => if gdOk gs S then .ok (.nx ρ) S else .bad
  | x :: xs, ρ, S => if gdOk gs S then (step x ρ S).bind fun fl S1 => match fl with
      | .nx ρ1 => forL gs step xs ρ1 S1
      | .ct ρ1 => forL gs step xs ρ1 S1
      | .bk ρ1 => .ok (.nx ρ1) S1
      | .rt v => .ok (.rt v) S1
    else .bad
noncomputable def lcL (gs : List (Nat × Cell)) (step : Val → Store → R (Option Val)) : List Val → Store → R (List Val)
  | [], S => if gdOk gs S then .ok [] S else .bad
  | x :: xs, S => if gdOk gs S then (step x S).bind fun o S1 => (lcL gs step xs S1).bind fun ys S2 => .ok (optCons o ys) S2
    else .bad
end
def whL (c : Env → Store → R Bool) (body : Env → Store → R Fl) : Nat → Env → Store → R Fl
  | 0, _, _ => .bad
  | n + 1, ρ, S => (c ρ S).bind fun t S1 => if t = true then (body ρ S1).bind fun fl S2 => match fl with
      | .nx ρ1 => whL c body n ρ1 S2
      | .ct ρ1 => whL c body n ρ1 S2
      | .bk ρ1 => .ok (.nx ρ1) S2
      | .rt v => .ok (.rt v) S2
    else .ok (.nx ρ) S1
/-- o.f: a field, or a property's call -/
def fldV (G : Gm) (o : Val) (f : String) (S : Store) : R Val := match objOf S o with
  | some (c, fs) => if G.fld c f = true then ofO (fs.lookup f) S else match G.prop c f with
    | some q => G.call q [o] S
    | none => .bad
  | none => .bad
def methV (G : Gm) (o : Val) (f : String) (sh : Nat) (vs : List Val) (S1 S : Store) : R Val := match objOf S1 o with
  | some (c, fs) => match fs.lookup f with
    | some _ => .bad
    | none => match G.meth c f, G.arr sh (o :: vs) with
      | some q, some us => G.call q us S
      | _, _ => .bad
  | none => .bad
noncomputable def makeV (G : Gm) (m : Bool) (c : String) (sh : Nat) (vs : List Val) (S : Store) : R Val := match G.init c, G.arr sh (.ref S.length :: vs) with
  | some q, some us => (G.call q us (S ++ [.obj c []])).bind fun v S1 => match v with
    | .non => if m then .ok (.ref S.length) S1 else exitp S (.ref S.length) S1
    | _ => .bad
  | _, _ => .bad
def isiV (G : Gm) (S : Store) (x : Val) (ts : List TK) : Option Bool := match tkOf S x with
  | some t => anyTy G.isi t ts
  | none => none
def optI : Option Val → Option (Option Int)
  | none => some none
  | some (.int i) => some (some i)
  | _ => none
def augV (op : BOp) (x y : Val) (S : Store) : R Val := match x, y with
  | .int i, .int j => match op with
    | .add => .ok (.int (i + j)) S
    | .sub => .ok (.int (i - j)) S
    | .mul => chk (CMul i j) (.ok (.int (i * j)) S)
    | _ => .bad
  | .str a, .str b => match op with
    | .add => chk (a.length + b.length ≤ LINE) (.ok (.str (a ++ b)) S)
    | _ => .bad
  | _, _ => .bad
def rangeM (xs : List Val) (S1 : Store) : R (List Val × List (Nat × Cell)) := match xs with
    | [.int j] => chk (inR j) (.ok (rangeL 0 j, []) S1)
    | [.int i, .int j] => chk (inR i ∧ inR j) (.ok (rangeL i j, []) S1)
    | _ => .bad
mutual
noncomputable def denE (G : Gm) : E → Env → Store → R Val
  | .v i, ρ, S => match ρ[i]? with
    | some (some x) => .ok x S
    | _ => .bad
  | .i n, _, S => .ok (.int n) S
  | .b t, _, S => .ok (.bl t) S
  | .s x, _, S => .ok (.str (Str.ofString x)) S
  | .n, _, S => .ok .non S
  | .g x, _, S => ofO (G.con x) S
  | .bin m op a b, ρ, S => (denE G a ρ S).bind fun x S1 => (denE G b ρ S1).bind fun y S2 => binV m op x y S2
  | .neg a, ρ, S => (denE G a ρ S).bind fun x S1 => match x with
    | .int i => .ok (.int (-i)) S1
    | _ => .bad
  | .not a, ρ, S => (denE G a ρ S).bind fun x S1 => (ofO (truth S1 x) S1).bind fun t S1 => .ok (.bl (!t)) S1
  | .and a b, ρ, S => (denE G a ρ S).bind fun x S1 => (ofO (truth S1 x) S1).bind fun t S1 => if t = true then denE G b ρ S1 else .ok x S1
  | .or a b, ρ, S => (denE G a ρ S).bind fun x S1 => (ofO (truth S1 x) S1).bind fun t S1 => if t = true then .ok x S1 else denE G b ρ S1
  | .cmp op a b, ρ, S => (denE G a ρ S).bind fun x S1 => (denE G b ρ S1).bind fun y S2 => (ofO (cmpV op x y S2) S2).bind fun t S2 => .ok (.bl t) S2
  | .cmp2 o1 o2 a b c, ρ, S => (denE G a ρ S).bind fun x S1 => (denE G b ρ S1).bind fun y S2 => (ofO (cmpV o1 x y S2) S2).bind fun t S2 =>
      if t = true then (denE G c ρ S2).bind fun z S3 => (ofO (cmpV o2 y z S3) S3).bind fun t S3 => .ok (.bl t) S3 else .ok (.bl false) S2
  | .ite c a b, ρ, S => (denT G c ρ S).bind fun t S1 => if t = true then denE G a ρ S1 else denE G b ρ S1
  | .tup es, ρ, S => (denEs G es ρ S).bind fun xs S1 => mkTup xs S1
  | .lst m es, ρ, S => (denEs G es ρ S).bind fun xs S1 => mkList m xs S1
  | .ix a i, ρ, S => (denE G a ρ S).bind fun x S1 => (denE G i ρ S1).bind fun y S2 => ofO (ixV x y S2) S2
  | .sl m a lo hi, ρ, S => (denE G a ρ S).bind fun x S1 => (denO G lo ρ S1).bind fun l S2 => (denO G hi ρ S2).bind fun h S3 => match optI l, optI h with
    | some l, some h => slV m x l h S3
    | _, _ => .bad
  | .fld a f, ρ, S => (denE G a ρ S).bind fun x S1 => fldV G x f S1
  | .call f sh es ks, ρ, S => (denEs G es ρ S).bind fun xs S1 => (denEs G ks ρ S1).bind fun ys S2 => match G.arr sh (xs ++ ys) with
    | some us => G.call f us S2
    | none => .bad
  | .make m c sh es ks, ρ, S => (denEs G es ρ S).bind fun xs S1 => (denEs G ks ρ S1).bind fun ys S2 => makeV G m c sh (xs ++ ys) S2
  | .meth a f sh es ks, ρ, S => (denE G a ρ S).bind fun x S0 => (denEs G es ρ S0).bind fun xs S1 => (denEs G ks ρ S1).bind fun ys S2 => methV G x f sh (xs ++ ys) S0 S2
  | .blt m f es, ρ, S => (denEs G es ρ S).bind fun xs S1 => bltV m f xs S1
  | .isi a ts, ρ, S => (denE G a ρ S).bind fun x S1 => (ofO (isiV G S1 x ts) S1).bind fun t S1 => .ok (.bl t) S1
  | .bm a f es, ρ, S => (denE G a ρ S).bind fun x S0 => if isLst S0 x = true then (denEs G es ρ S0).bind fun xs S1 => bmV f x xs S1 else .bad
  | .lc m own tg it cond elt, ρ, S => (denI G it ρ S).bind fun p S1 => (lcL p.2 (fun x S => match asg S tg x (clr own ρ) with
    | some ρ1 => (denC G cond ρ1 S).bind fun t S2 => if t = true then (denE G elt ρ1 S2).bind fun y S3 => .ok (some y) S3 else .ok none S2
    | none => .bad) p.1 S1).bind fun ys S2 => mkList m ys S2
noncomputable def denEs (G : Gm) : Es → Env → Store → R (List Val)
  | .nil, _, S => .ok [] S
  | .cons e es, ρ, S => (denE G e ρ S).bind fun x S1 => (denEs G es ρ S1).bind fun xs S2 => .ok (x :: xs) S2
noncomputable def denO (G : Gm) : OE → Env → Store → R (Option Val)
  | .none, _, S => .ok none S
  | .some e, ρ, S => (denE G e ρ S).bind fun x S1 => .ok (some x) S1
noncomputable def denC (G : Gm) : OE → Env → Store → R Bool
  | .none, _, S => .ok true S
  | .some e, ρ, S => denT G e ρ S
noncomputable def denI (G : Gm) : It → Env → Store → R (List Val × List (Nat × Cell))
  | .e a, ρ, S => (denE G a ρ S).bind fun x S1 => (ofO (seqOf S1 x) S1).bind fun xs S1 => .ok (xs, gdOf S1 x) S1
  | .range es, ρ, S => (denEs G es ρ S).bind fun xs S1 => rangeM xs S1
  | .enum a, ρ, S => (denE G a ρ S).bind fun x S1 => if isTup x then .bad else (ofO (seqOf S1 x) S1).bind fun xs S1 => .ok (xs.zipIdx.map fun p => .tup [.int (p.2 : Nat), p.1], gdOf S1 x) S1
  | .zip a b, ρ, S => (denE G a ρ S).bind fun x S1 => (denE G b ρ S1).bind fun y S2 => match seqOf S2 x, seqOf S2 y with
    | some xs, some ys => chk (isTup x = isTup y) (.ok ((xs.zip ys).map fun p => .tup [p.1, p.2], gdOf S2 x ++ gdOf S2 y) S2)
    | _, _ => .bad
  | .rev a, ρ, S => (denE G a ρ S).bind fun x S1 => (ofO (seqOf S1 x) S1).bind fun xs S1 => .ok (xs.reverse, gdOf S1 x) S1
  | .revr1 a, ρ, S => (denE G a ρ S).bind fun x S1 => match x with
    | .int j => chk (inR j) (.ok ((rangeL 0 j).reverse, []) S1)
    | _ => .bad
  | .revr2 a b, ρ, S => (denE G a ρ S).bind fun x S1 => (denE G b ρ S1).bind fun y S2 => match x, y with
    | .int i, .int j => chk (inR i ∧ inR j) (.ok ((rangeL i j).reverse, []) S2)
    | _, _ => .bad
noncomputable def denT (G : Gm) : E → Env → Store → R Bool
  | .not a, ρ, S => (denT G a ρ S).bind fun t S1 => .ok (!t) S1
  | .and a b, ρ, S => (denT G a ρ S).bind fun t S1 => if t = true then denT G b ρ S1 else .ok false S1
  | .or a b, ρ, S => (denT G a ρ S).bind fun t S1 => if t = true then .ok true S1 else denT G b ρ S1
  | .v i, ρ, S => match ρ[i]? with
    | some (some x) => ofO (truth S x) S
    | _ => .bad
  | .b t, _, S => .ok t S
  | .cmp op a b, ρ, S => (denE G a ρ S).bind fun x S1 => (denE G b ρ S1).bind fun y S2 => ofO (cmpV op x y S2) S2
  | .cmp2 o1 o2 a b c, ρ, S => (denE G a ρ S).bind fun x S1 => (denE G b ρ S1).bind fun y S2 => (ofO (cmpV o1 x y S2) S2).bind fun t S2 =>
      if t = true then (denE G c ρ S2).bind fun z S3 => ofO (cmpV o2 y z S3) S3 else .ok false S2
  | .ix a i, ρ, S => (denE G a ρ S).bind fun x S1 => (denE G i ρ S1).bind fun y S2 => (ofO (ixV x y S2) S2).bind fun v S2 => ofO (truth S2 v) S2
  | .fld a f, ρ, S => (denE G a ρ S).bind fun x S1 => (fldV G x f S1).bind fun v S2 => ofO (truth S2 v) S2
  | .call f sh es ks, ρ, S => (denEs G es ρ S).bind fun xs S1 => (denEs G ks ρ S1).bind fun ys S2 => match G.arr sh (xs ++ ys) with
    | some us => (G.call f us S2).bind fun v S3 => ofO (truth S3 v) S3
    | none => .bad
  | .meth a f sh es ks, ρ, S => (denE G a ρ S).bind fun x S0 => (denEs G es ρ S0).bind fun xs S1 => (denEs G ks ρ S1).bind fun ys S2 => (methV G x f sh (xs ++ ys) S0 S2).bind fun v S3 => ofO (truth S3 v) S3
  | .blt m f es, ρ, S => (denEs G es ρ S).bind fun xs S1 => (bltV m f xs S1).bind fun v S2 => ofO (truth S2 v) S2
  | .isi a ts, ρ, S => (denE G a ρ S).bind fun x S1 => ofO (isiV G S1 x ts) S1
  | _, _, _ => .bad
end
mutual
noncomputable def denS (G : Gm) : S_ → Env → Store → R Fl
  | .set i e, ρ, S => (denE G e ρ S).bind fun x S1 => .ok (.nx (ρ.set i (some x))) S1
  | .asg t e, ρ, S => (denE G e ρ S).bind fun x S1 => match asg S1 t x ρ with
    | some ρ1 => .ok (.nx ρ1) S1
    | none => .bad
  | .par i j a b, ρ, S => (denE G a ρ S).bind fun x S1 => (denE G b ρ S1).bind fun y S2 => .ok (.nx ((ρ.set i (some x)).set j (some y))) S2
  | .setix a i e, ρ, S => (denE G e ρ S).bind fun v S1 => (denE G a ρ S1).bind fun o S2 => (denE G i ρ S2).bind fun k S3 => match setixV o k v S3 with
    | some S4 => .ok (.nx ρ) S4
    | none => .bad
  | .setfld a f e, ρ, S => (denE G e ρ S).bind fun v S1 => (denE G a ρ S1).bind fun o S2 => match objOf S2 o with
    | some (c, _) => if G.fld c f = true then (match setfldV o f v S2 with
      | some S3 => .ok (.nx ρ) S3
      | none => .bad) else .bad
    | none => .bad
  | .aug i op e, ρ, S => match ρ[i]? with
    | some (some x) => (denE G e ρ S).bind fun y S1 => (augV op x y S1).bind fun z S2 => .ok (.nx (ρ.set i (some z))) S2
    | _ => .bad
  | .augix a i op e, ρ, S => (denE G a ρ S).bind fun o S1 => (denE G i ρ S1).bind fun k S2 => (ofO (ixV o k S2) S2).bind fun x S2 => (denE G e ρ S2).bind fun y S3 => (augV op x y S3).bind fun z S4 => match setixV o k z S4 with
    | some S5 => .ok (.nx ρ) S5
    | none => .bad
  | .augfld a f op e, ρ, S => (denE G a ρ S).bind fun o S1 => match objOf S1 o with
    | some (c, fs) => if G.fld c f = true then (ofO (fs.lookup f) S1).bind fun x S1 => (denE G e ρ S1).bind fun y S2 => (augV op x y S2).bind fun z S3 => (match objOf S3 o, setfldV o f z S3 with
      | some (c', _), some S4 => chk (c' = c) (.ok (.nx ρ) S4)
      | _, _ => .bad) else .bad
    | none => .bad
  | .ex e, ρ, S => (denE G e ρ S).bind fun _ S1 => .ok (.nx ρ) S1
  | .ret e, ρ, S => (denE G e ρ S).bind fun x S1 => .ok (.rt x) S1
  | .retn, _, S => .ok (.rt .non) S
  | .ite c a b, ρ, S => (denT G c ρ S).bind fun t S1 => if t = true then denSs G a ρ S1 else denSs G b ρ S1
  | .for_ t it body cl, ρ, S => (denI G it ρ S).bind fun p S1 => forL p.2 (fun x ρ S => match asg S t x ρ with
    | some ρ1 => (denSs G body ρ1 S).bind fun fl S2 => .ok (match fl with
      | .nx ρ2 => .nx (clr cl ρ2)
      | .ct ρ2 => .ct (clr cl ρ2)
      | .bk ρ2 => .bk (clr cl ρ2)
      | .rt v => .rt v) S2
    | none => .bad) p.1 (clr cl ρ) S1
  | .wh c body cl, ρ, S => whL (denT G c) (fun ρ S => (denSs G body ρ S).bind fun fl S2 => .ok (match fl with
      | .nx ρ2 => .nx (clr cl ρ2)
      | .ct ρ2 => .ct (clr cl ρ2)
      | .bk ρ2 => .bk (clr cl ρ2)
      | .rt v => .rt v) S2) G.fuel (clr cl ρ) S
  | .pass, ρ, S => .ok (.nx ρ) S
  | .brk, ρ, S => .ok (.bk ρ) S
  | .cnt, ρ, S => .ok (.ct ρ) S
  | .never, _, _ => .bad
noncomputable def denSs (G : Gm) : Ss → Env → Store → R Fl
  | .nil, ρ, S => .ok (.nx ρ) S
  | .cons s r, ρ, S => (denS G s ρ S).bind fun fl S1 => match fl with
    | .nx ρ1 => denSs G r ρ1 S1
    | fl => .ok fl S1
end
/-- a def: its qualified name, how many parameters and names, its body, whether its end forgets -/
structure Fn where
  qual : String
  n : Nat
  loc : Nat
  body : Ss
  tr : Bool
noncomputable def endV (tr : Bool) (S : Store) (v : Val) (S' : Store) : R Val := if tr then exitp S v S' else .ok v S'
noncomputable def runFn (G : Gm) (f : Fn) (vs : List Val) (S : Store) : R Val :=
  if vs.length = f.n then (denSs G f.body (vs.map some ++ List.replicate (f.loc - f.n) none) S).bind fun fl S1 => match fl with
    | .nx _ => endV f.tr S .non S1
    | .rt v => endV f.tr S v S1
    | _ => .bad
  else .bad
/-- a program -/
structure Prog where
  fns : List Fn
  con : String → Option Val
  meth : String → String → Option String
  init : String → Option String
  fld : String → String → Bool
  prop : String → String → Option String
  isi : TK → TK → Option Bool
  arr : Nat → List Val → Option (List Val)
noncomputable def lev (P : Prog) (fuel : Nat) : Nat → Gm
  | 0 => ⟨fun _ _ _ => .bad, P.con, P.meth, P.init, P.fld, P.prop, P.isi, P.arr, fuel⟩
  | k + 1 => ⟨fun q vs S => match P.fns.find? fun f => f.qual == q with
    | some f => runFn (lev P fuel k) f vs S
    | none => .bad, P.con, P.meth, P.init, P.fld, P.prop, P.isi, P.arr, fuel⟩
end Ev

set_option Elab.async false
set_option linter.all false
set_option maxRecDepth 100000
/-! ### How values and cells stand in the kit's heaps -/
namespace Ev
open PySem PySem.Spec PyProof.Rows L2
/-- the written part, the classes' and the defs' places -/
structure Gx where
  K : PySem.W.Frag
  cls : String → Addr
  fa : String → Addr
  fd : String → FuncData
  ps : String → List Str
  /-- places that no value here leads to (lists that are being made) -/
  blk : List Addr
/-- no cell's place, no barred one -/
def Out (G : Gx) (f : List Addr) (a : Addr) : Prop := a ∉ f ∧ a ∉ G.blk
def KT (K : PySem.W.Frag) (a : Addr) (xs : List V) : Prop :=
  ∃ (o : Obj) (its : Array Value) (n : Nat), K.lookup a = some o ∧ o.cls = .type "tuple" ∧ o.data = .seq its n ∧ its.size ≤ sizeLine ∧ Vals xs its.toList
def KL (K : PySem.W.Frag) (a : Addr) (xs : List V) : Prop :=
  ∃ (o : Obj) (its : Array Value) (n : Nat), K.lookup a = some o ∧ o.cls = .type "list" ∧ o.dict = none ∧ o.data = .seq its n ∧ its.size ≤ sizeLine ∧ Vals xs its.toList
def TupAt (G : Gx) (f : List Addr) (H : Hp) (a : Addr) (xs : List V) : Prop := (Rd H a (.tup xs) ∧ Out G f a) ∨ KT G.K a xs
def LstAt (G : Gx) (f : List Addr) (H : Hp) (a : Addr) (xs : List V) : Prop := (Rd H a (.lst xs) ∧ Out G f a) ∨ KL G.K a xs
theorem TupAt.sq {G : Gx} {f : List Addr} {H : Hp} {a : Addr} {xs : List V} (h : TupAt G f H a xs) : SqT G.K H a xs := by
  rcases h with ⟨h, _⟩ | h
  · exact .inl h
  · exact .inr h
theorem LstAt.sq {G : Gx} {f : List Addr} {H : Hp} {a : Addr} {xs : List V} (h : LstAt G f H a xs) : SqL G.K H a xs := by
  rcases h with ⟨h, _⟩ | h
  · exact .inl h
  · exact .inr h
mutual
def RV (G : Gx) (f : List Addr) (H : Hp) : Val → V → Prop
  | .non, x => x = .non
  | .bl b, x => x = .bl b
  | .int i, x => x = .int i
  | .str s, x => x = .str s
  | .tup vs, x => ∃ a xs, x = .ref a ∧ TupAt G f H a xs ∧ RVs G f H vs xs
  | .fl vs, x => ∃ a xs, x = .ref a ∧ H a = some (.lst xs) ∧ Out G f a ∧ RVs G f H vs xs
  | .rl vs, x => ∃ a xs, x = .ref a ∧ LstAt G f H a xs ∧ RVs G f H vs xs
  | .fo c fs, x => ∃ a dx hs, x = .ref a ∧ H a = some (.ins (G.cls c) dx hs) ∧ Out G f a ∧ RFs G f H fs hs
  | .ref n, x => ∃ a, x = .ref a ∧ f[n]? = some a
def RVs (G : Gx) (f : List Addr) (H : Hp) : List Val → List V → Prop
  | [], xs => xs = []
  | v :: vs, xs => ∃ x r, xs = x :: r ∧ RV G f H v x ∧ RVs G f H vs r
def RFs (G : Gx) (f : List Addr) (H : Hp) : List (String × Val) → List (Str × V) → Prop
  | [], hs => hs = []
  | (g, v) :: fs, hs => ∃ x r, hs = (Str.ofString g, x) :: r ∧ RV G f H v x ∧ RFs G f H fs r
end
/-- the heap grows; f's own places may be written -/
structure Ext (f : List Addr) (H : Hp) (f' : List Addr) (H' : Hp) : Prop where
  pre : ∃ g, f' = f ++ g ∧ ∀ a, a ∈ g → H a = none
  keep : ∀ a o, H a = some o → a ∉ f → H' a = some o
  live : ∀ a, a ∈ f → ∃ o, H' a = some o
section
variable {G : Gx} {f f' f'' : List Addr} {H H' H'' : Hp}
theorem Ext.nin (e : Ext f H f' H') {a : Addr} {o : HO} (h : H a = some o) (n : a ∉ f) : a ∉ f' := by
  obtain ⟨g, rfl, hg⟩ := e.pre
  intro hm
  rcases List.mem_append.mp hm with hm | hm
  · exact n hm
  · rw [hg a hm] at h
    cases h
theorem Ext.get (e : Ext f H f' H') {n : Nat} {a : Addr} (h : f[n]? = some a) : f'[n]? = some a := by
  obtain ⟨g, rfl, _⟩ := e.pre
  rw [List.getElem?_append_left (List.getElem?_eq_some_iff.mp h).1]
  exact h
theorem Ext.trans (e : Ext f H f' H') (e' : Ext f' H' f'' H'') : Ext f H f'' H'' := by
  obtain ⟨g, rfl, hg⟩ := e.pre
  obtain ⟨g', rfl, hg'⟩ := e'.pre
  refine ⟨⟨g ++ g', by rw [List.append_assoc], fun a ha => ?_⟩, fun a o h n => e'.keep a o (e.keep a o h n) (e.nin h n), fun a ha => ?_⟩
  · rcases List.mem_append.mp ha with ha | ha
    · exact hg a ha
    · cases q : H a with
      | none => rfl
      | some o =>
        by_cases hf : a ∈ f
        · obtain ⟨o', ho'⟩ := e.live a hf
          rw [hg' a ha] at ho'
          cases ho'
        · have := e.keep a o q hf
          rw [hg' a ha] at this
          cases this
  · by_cases hm : a ∈ f ++ g
    · exact e'.live a hm
    · exact absurd (List.mem_append_left _ ha) hm
theorem Rd.ext {a : Addr} {u : HO} (e : Ext f H f' H') (h : Rd H a u) (n : Out G f a) : Rd H' a u ∧ Out G f' a := by
  rcases h with h | ⟨o, h⟩
  · exact ⟨.inl (e.keep _ _ h n.1), e.nin h n.1, n.2⟩
  · exact ⟨.inr ⟨o, e.keep _ _ h n.1⟩, e.nin h n.1, n.2⟩
mutual
theorem RV.ext (e : Ext f H f' H') : ∀ {v : Val} {x : V}, RV G f H v x → RV G f' H' v x
  | .non, _, h => h
  | .bl _, _, h => h
  | .int _, _, h => h
  | .str _, _, h => h
  | .tup vs, x, h => by
    obtain ⟨a, xs, rfl, ht, hv⟩ := h
    refine ⟨a, xs, rfl, ?_, RVs.ext e hv⟩
    rcases ht with ⟨r, n⟩ | k
    · exact .inl (Rd.ext e r n)
    · exact .inr k
  | .fl vs, x, h => by
    obtain ⟨a, xs, rfl, ha, n, hv⟩ := h
    exact ⟨a, xs, rfl, e.keep _ _ ha n.1, ⟨e.nin ha n.1, n.2⟩, RVs.ext e hv⟩
  | .rl vs, x, h => by
    obtain ⟨a, xs, rfl, ht, hv⟩ := h
    refine ⟨a, xs, rfl, ?_, RVs.ext e hv⟩
    rcases ht with ⟨r, n⟩ | k
    · exact .inl (Rd.ext e r n)
    · exact .inr k
  | .fo c fs, x, h => by
    obtain ⟨a, dx, hs, rfl, ha, n, hv⟩ := h
    exact ⟨a, dx, hs, rfl, e.keep _ _ ha n.1, ⟨e.nin ha n.1, n.2⟩, RFs.ext e hv⟩
  | .ref n, x, h => by
    obtain ⟨a, rfl, ha⟩ := h
    exact ⟨a, rfl, e.get ha⟩
theorem RVs.ext (e : Ext f H f' H') : ∀ {vs : List Val} {xs : List V}, RVs G f H vs xs → RVs G f' H' vs xs
  | [], _, h => h
  | v :: vs, xs, h => by
    obtain ⟨x, r, rfl, h1, h2⟩ := h
    exact ⟨x, r, rfl, RV.ext e h1, RVs.ext e h2⟩
theorem RFs.ext (e : Ext f H f' H') : ∀ {vs : List (String × Val)} {xs : List (Str × V)}, RFs G f H vs xs → RFs G f' H' vs xs
  | [], _, h => h
  | (g, v) :: vs, xs, h => by
    obtain ⟨x, r, rfl, h1, h2⟩ := h
    exact ⟨x, r, rfl, RV.ext e h1, RFs.ext e h2⟩
end
/-- a key -/
def RK (k : Val) (q : Key) : Prop := match k, q with
  | .int i, .inl j => i = j
  | .str s, .inr z => s = z
  | _, _ => False
def RKs : List Val → List Key → Prop
  | [], qs => qs = []
  | k :: ks, qs => ∃ q r, qs = q :: r ∧ RK k q ∧ RKs ks r
def RD (G : Gx) (f : List Addr) (H : Hp) : List (Val × Val) → List (Key × V) → Prop
  | [], hs => hs = []
  | (k, v) :: kvs, hs => ∃ q x r, hs = (q, x) :: r ∧ RK k q ∧ RV G f H v x ∧ RD G f H kvs r
def RDT (G : Gx) (f : List Addr) (H : Hp) : List (Val × Val) → List (List Key × V) → Prop
  | [], hs => hs = []
  | (k, v) :: kvs, hs => ∃ q x r ks, hs = (q, x) :: r ∧ k = .tup ks ∧ RKs ks q ∧ RV G f H v x ∧ RDT G f H kvs r
/-- a cell at its place -/
def RC (G : Gx) (f : List Addr) (H : Hp) (c : Cell) (a : Addr) : Prop := match c with
  | .lst vs => ∃ xs, H a = some (.lst xs) ∧ RVs G f H vs xs
  | .obj c fs => ∃ dx hs, H a = some (.ins (G.cls c) dx hs) ∧ RFs G f H fs hs
  | .dict kvs => (∃ hs, H a = some (.dK hs) ∧ RD G f H kvs hs) ∨ ∃ hs, H a = some (.dT hs) ∧ RDT G f H kvs hs
theorem RC.some {c : Cell} {a : Addr} (h : RC G f H c a) : ∃ o, H a = some o := by
  cases c with
  | lst vs => obtain ⟨xs, h, _⟩ := h; exact ⟨_, h⟩
  | obj c fs => obtain ⟨dx, hs, h, _⟩ := h; exact ⟨_, h⟩
  | dict kvs =>
    rcases h with ⟨hs, h, _⟩ | ⟨hs, h, _⟩
    · exact ⟨_, h⟩
    · exact ⟨_, h⟩
theorem RD.ext (e : Ext f H f' H') : ∀ {kvs : List (Val × Val)} {hs : List (Key × V)}, RD G f H kvs hs → RD G f' H' kvs hs
  | [], _, h => h
  | (k, v) :: kvs, hs, h => by
    obtain ⟨q, x, r, rfl, h1, h2, h3⟩ := h
    exact ⟨q, x, r, rfl, h1, RV.ext e h2, RD.ext e h3⟩
theorem RDT.ext (e : Ext f H f' H') : ∀ {kvs : List (Val × Val)} {hs : List (List Key × V)}, RDT G f H kvs hs → RDT G f' H' kvs hs
  | [], _, h => h
  | (k, v) :: kvs, hs, h => by
    obtain ⟨q, x, r, ks, rfl, h0, h1, h2, h3⟩ := h
    exact ⟨q, x, r, ks, rfl, h0, h1, RV.ext e h2, RDT.ext e h3⟩
theorem RC.ext (e : Ext f H f' H') {c : Cell} {a : Addr} (h : RC G f H c a) (ha : H' a = H a) : RC G f' H' c a := by
  cases c with
  | lst vs =>
    obtain ⟨xs, h, r⟩ := h
    exact ⟨xs, ha.trans h, r.ext e⟩
  | obj c fs =>
    obtain ⟨dx, hs, h, r⟩ := h
    exact ⟨dx, hs, ha.trans h, r.ext e⟩
  | dict kvs =>
    rcases h with ⟨hs, h, r⟩ | ⟨hs, h, r⟩
    · exact .inl ⟨hs, ha.trans h, r.ext e⟩
    · exact .inr ⟨hs, ha.trans h, r.ext e⟩
/-- the store stands -/
structure RS (G : Gx) (f : List Addr) (H : Hp) (S : Store) : Prop where
  len : f.length = S.length
  nd : f.Nodup
  at_ : ∀ (n : Nat) (c : Cell) (a : Addr), S[n]? = some c → f[n]? = some a → RC G f H c a
  out : ∀ a, a ∈ G.blk → a ∉ f ∧ ∃ o, H a = some o
/-- the names stand -/
structure RE (G : Gx) (f : List Addr) (H : Hp) (ρ : Env) (σ : L2.St) : Prop where
  len : ρ.length = σ.length
  at_ : ∀ (i : Nat) (v : Val), ρ[i]? = some (some v) → ∃ x, σ[i]? = some (some x) ∧ RV G f H v x
theorem RE.ext {ρ : Env} {σ : L2.St} (r : RE G f H ρ σ) (e : Ext f H f' H') : RE G f' H' ρ σ := ⟨r.len, fun i v h => by
  obtain ⟨x, h1, h2⟩ := r.at_ i v h
  exact ⟨x, h1, h2.ext e⟩⟩
variable {S : Store}
theorem RS.live (r : RS G f H S) {a : Addr} (h : a ∈ f) : ∃ o, H a = some o := by
  obtain ⟨n, hn⟩ := List.getElem?_of_mem h
  have hl : n < S.length := by rw [← r.len]; exact (List.getElem?_eq_some_iff.mp hn).1
  exact (r.at_ n S[n] a (List.getElem?_eq_getElem hl) hn).some
theorem RS.ext (r : RS G f H S) : Ext f H f H := ⟨⟨[], by simp, by simp⟩, fun _ _ h _ => h, fun _ h => r.live h⟩
theorem RS.nin (r : RS G f H S) {p : Addr} (h : H p = none) : p ∉ f := fun hm => by
  obtain ⟨o, e⟩ := r.live hm
  rw [h] at e
  cases e
theorem RS.outp (r : RS G f H S) {p : Addr} (h : H p = none) : Out G f p := ⟨r.nin h, fun hm => by
  obtain ⟨_, o, e⟩ := r.out p hm
  rw [h] at e
  cases e⟩
theorem RS.get (r : RS G f H S) {n : Nat} {c : Cell} (h : S[n]? = some c) : ∃ a, f[n]? = some a ∧ a ∈ f ∧ RC G f H c a := by
  have hl : n < f.length := by rw [r.len]; exact (List.getElem?_eq_some_iff.mp h).1
  exact ⟨f[n], List.getElem?_eq_getElem hl, List.getElem_mem hl, r.at_ n c _ h (List.getElem?_eq_getElem hl)⟩
theorem RS.cell (r : RS G f H S) {n : Nat} {c : Cell} {a : Addr} (h : S[n]? = some c) (ha : f[n]? = some a) : RC G f H c a := r.at_ n c a h ha
/-- something new that is no cell -/
theorem Ext.new (r : RS G f H S) {p : Addr} {o : HO} (h : H p = none) : Ext f H f (upd H p o) :=
  ⟨⟨[], by simp, by simp⟩, fun a u e _ => by rw [upd_ne (ne_of_none e h)]; exact e, fun a ha => by
    obtain ⟨u, e⟩ := r.live ha
    exact ⟨u, by rw [upd_ne (ne_of_none e h)]; exact e⟩⟩
theorem RS.new (r : RS G f H S) {p : Addr} {o : HO} (h : H p = none) : RS G f (upd H p o) S := by
  have e : Ext f H f (upd H p o) := Ext.new r h
  refine ⟨r.len, r.nd, fun n c a hc ha => (r.at_ n c a hc ha).ext e ?_, fun a ha => ?_⟩
  · obtain ⟨u, q⟩ := r.live (List.mem_of_getElem? ha)
    exact upd_ne (ne_of_none q h)
  · obtain ⟨h1, o', h2⟩ := r.out a ha
    exact ⟨h1, o', by rw [upd_ne (ne_of_none h2 h)]; exact h2⟩
/-- a new cell -/
theorem Ext.cell (r : RS G f H S) {p : Addr} {o : HO} (h : H p = none) : Ext f H (f ++ [p]) (upd H p o) :=
  ⟨⟨[p], rfl, fun a ha => by
    rcases List.mem_singleton.mp ha with rfl
    exact h⟩, (Ext.new r h).keep, (Ext.new r h).live⟩
theorem RS.add (r : RS G f H S) {p : Addr} {o : HO} {c : Cell} (h : H p = none) (hc : RC G (f ++ [p]) (upd H p o) c p) : RS G (f ++ [p]) (upd H p o) (S ++ [c]) := by
  have e : Ext f H (f ++ [p]) (upd H p o) := Ext.cell r h
  have np := r.nin h
  refine ⟨by simp [r.len], ?_, fun n d a hd ha => ?_, fun a ha => ?_⟩
  · rw [List.nodup_append]
    refine ⟨r.nd, by simp, fun a ha b hb => ?_⟩
    rcases List.mem_singleton.mp hb with rfl
    exact fun q => np (q ▸ ha)
  · by_cases hn : n < S.length
    · rw [List.getElem?_append_left hn] at hd
      rw [List.getElem?_append_left (by rw [r.len]; exact hn)] at ha
      refine (r.at_ n d a hd ha).ext e ?_
      obtain ⟨u, q⟩ := r.live (List.mem_of_getElem? ha)
      exact upd_ne (ne_of_none q h)
    · rw [List.getElem?_append_right (by omega)] at hd
      rw [List.getElem?_append_right (by rw [r.len]; omega)] at ha
      rw [r.len] at ha
      generalize n - S.length = m at hd ha
      cases m with
      | zero =>
        have h1 : c = d := by simpa using hd
        have h2 : p = a := by simpa using ha
        subst h1 h2
        exact hc
      | succ m => simp at hd
  · obtain ⟨h1, o', h2⟩ := r.out a ha
    refine ⟨fun hm => ?_, o', by rw [upd_ne (ne_of_none h2 h)]; exact h2⟩
    rcases List.mem_append.mp hm with hm | hm
    · exact h1 hm
    · rcases List.mem_singleton.mp hm with rfl
      rw [h] at h2
      cases h2
/-- a cell is written -/
theorem Ext.write (r : RS G f H S) {p : Addr} {o : HO} (h : p ∈ f) : Ext f H f (upd H p o) :=
  ⟨⟨[], by simp, by simp⟩, fun a u e n => by rw [upd_ne (fun q => n (by rw [q]; exact h))]; exact e, fun a ha => by
    by_cases hp : a = p
    · exact ⟨o, by rw [hp]; exact upd_same⟩
    · obtain ⟨u, e⟩ := r.live ha
      exact ⟨u, by rw [upd_ne hp]; exact e⟩⟩
theorem RS.write (r : RS G f H S) {p : Addr} {o : HO} {k : Nat} {c : Cell} (h : f[k]? = some p) (hc : RC G f (upd H p o) c p) : RS G f (upd H p o) (S.set k c) := by
  have e : Ext f H f (upd H p o) := Ext.write r (List.mem_of_getElem? h)
  refine ⟨by rw [List.length_set]; exact r.len, r.nd, fun n d a hd ha => ?_, fun a ha => ?_⟩
  rotate_left
  · obtain ⟨h1, o', h2⟩ := r.out a ha
    exact ⟨h1, o', by rw [upd_ne (fun z => h1 (by rw [z]; exact List.mem_of_getElem? h))]; exact h2⟩
  by_cases hn : n = k
  · subst hn
    have ea : a = p := Option.some.inj (ha.symm.trans h)
    subst ea
    have hl : n < S.length := by rw [← r.len]; exact (List.getElem?_eq_some_iff.mp h).1
    rw [List.getElem?_set_self hl] at hd
    cases hd
    exact hc
  · rw [List.getElem?_set_ne (Ne.symm hn)] at hd
    refine (r.at_ n d a hd ha).ext e (upd_ne fun q => hn ?_)
    subst q
    have h1 := List.getElem?_eq_some_iff.mp ha
    have h2 := List.getElem?_eq_some_iff.mp h
    exact (List.getElem_inj r.nd).mp (h1.2.trans h2.2.symm)
/-! lists of values -/
theorem RVs.nil : RVs G f H [] [] := rfl
theorem RVs.cons {v : Val} {vs : List Val} {x : V} {xs : List V} (h : RV G f H v x) (hs : RVs G f H vs xs) : RVs G f H (v :: vs) (x :: xs) := ⟨x, xs, rfl, h, hs⟩
theorem RVs.len : ∀ {vs : List Val} {xs : List V}, RVs G f H vs xs → vs.length = xs.length
  | [], _, h => by cases h; rfl
  | v :: vs, xs, h => by
    obtain ⟨x, r, rfl, _, h2⟩ := h
    simp [h2.len]
theorem RVs.get : ∀ {vs : List Val} {xs : List V} {n : Nat} {v : Val}, RVs G f H vs xs → vs[n]? = some v → ∃ x, xs[n]? = some x ∧ RV G f H v x
  | [], _, n, v, h, e => by simp at e
  | w :: vs, xs, 0, v, h, e => by
    obtain ⟨x, r, rfl, h1, _⟩ := h
    simp at e
    subst e
    exact ⟨x, rfl, h1⟩
  | w :: vs, xs, n + 1, v, h, e => by
    obtain ⟨x, r, rfl, _, h2⟩ := h
    obtain ⟨y, h3, h4⟩ := h2.get (n := n) (by simpa using e)
    exact ⟨y, by simpa using h3, h4⟩
theorem RVs.app : ∀ {vs ws : List Val} {xs ys : List V}, RVs G f H vs xs → RVs G f H ws ys → RVs G f H (vs ++ ws) (xs ++ ys)
  | [], ws, xs, ys, h, h' => by cases h; exact h'
  | v :: vs, ws, xs, ys, h, h' => by
    obtain ⟨x, r, rfl, h1, h2⟩ := h
    exact RVs.cons h1 (h2.app h')
theorem RVs.take : ∀ {vs : List Val} {xs : List V} (n : Nat), RVs G f H vs xs → RVs G f H (vs.take n) (xs.take n)
  | vs, xs, 0, _ => by simp [RVs]
  | [], xs, n + 1, h => by cases h; simp [RVs]
  | v :: vs, xs, n + 1, h => by
    obtain ⟨x, r, rfl, h1, h2⟩ := h
    exact RVs.cons h1 (h2.take n)
theorem RVs.drop : ∀ {vs : List Val} {xs : List V} (n : Nat), RVs G f H vs xs → RVs G f H (vs.drop n) (xs.drop n)
  | vs, xs, 0, h => h
  | [], xs, n + 1, h => by cases h; simp [RVs]
  | v :: vs, xs, n + 1, h => by
    obtain ⟨x, r, rfl, h1, h2⟩ := h
    exact h2.drop n
theorem RVs.rev : ∀ {vs : List Val} {xs : List V}, RVs G f H vs xs → RVs G f H vs.reverse xs.reverse
  | [], xs, h => by cases h; exact rfl
  | v :: vs, xs, h => by
    obtain ⟨x, r, rfl, h1, h2⟩ := h
    rw [List.reverse_cons, List.reverse_cons]
    exact h2.rev.app (RVs.cons h1 rfl)
theorem RVs.set {v : Val} {x : V} (hv : RV G f H v x) : ∀ {vs : List Val} {xs : List V} (n : Nat), RVs G f H vs xs → RVs G f H (vs.set n v) (xs.set n x)
  | [], xs, n, h => by cases h; exact rfl
  | w :: vs, xs, 0, h => by
    obtain ⟨y, r, rfl, h1, h2⟩ := h
    exact RVs.cons hv h2
  | w :: vs, xs, n + 1, h => by
    obtain ⟨y, r, rfl, h1, h2⟩ := h
    exact RVs.cons h1 (h2.set hv n)
theorem RVs.eraseIdx : ∀ {vs : List Val} {xs : List V} (n : Nat), RVs G f H vs xs → RVs G f H (vs.eraseIdx n) (xs.eraseIdx n)
  | [], xs, n, h => by cases h; exact rfl
  | w :: vs, xs, 0, h => by
    obtain ⟨y, r, rfl, h1, h2⟩ := h
    exact h2
  | w :: vs, xs, n + 1, h => by
    obtain ⟨y, r, rfl, h1, h2⟩ := h
    exact RVs.cons h1 (h2.eraseIdx n)
theorem RVs.dropLast {vs : List Val} {xs : List V} (h : RVs G f H vs xs) : RVs G f H vs.dropLast xs.dropLast := by
  rw [List.dropLast_eq_take, List.dropLast_eq_take, h.len]
  exact h.take _
theorem RVs.ints : ∀ {vs : List Val} {xs : List V} {is : List Int}, RVs G f H vs xs → vs.mapM intOf = some is → xs = is.map V.int
  | [], xs, is, h, e => by
    cases h
    simp at e
    subst e
    rfl
  | v :: vs, xs, is, h, e => by
    obtain ⟨x, r, rfl, h1, h2⟩ := h
    rw [List.mapM_cons] at e
    cases v with
    | int i =>
      have hx : x = .int i := h1
      cases q : vs.mapM intOf with
      | none => simp [intOf, q] at e
      | some js =>
        simp [intOf, q] at e
        subst e
        rw [hx, h2.ints q]
        rfl
    | _ => simp [intOf] at e
theorem RVs.bools : ∀ {vs : List Val} {xs : List V} {bs : List Bool}, RVs G f H vs xs → vs.mapM boolOf = some bs → xs = bs.map V.bl
  | [], xs, bs, h, e => by
    cases h
    simp at e
    subst e
    rfl
  | v :: vs, xs, bs, h, e => by
    obtain ⟨x, r, rfl, h1, h2⟩ := h
    rw [List.mapM_cons] at e
    cases v with
    | bl i =>
      have hx : x = .bl i := h1
      cases q : vs.mapM boolOf with
      | none => simp [boolOf, q] at e
      | some js =>
        simp [boolOf, q] at e
        subst e
        rw [hx, h2.bools q]
        rfl
    | _ => simp [boolOf] at e
theorem RVs.ofInts : ∀ (is : List Int), RVs G f H (is.map Val.int) (is.map V.int)
  | [] => rfl
  | i :: is => RVs.cons (show RV G f H (.int i) (.int i) from rfl) (RVs.ofInts is)
end
end Ev

set_option Elab.async false
set_option linter.all false
set_option maxRecDepth 100000
set_option maxHeartbeats 4000000
/-! ### Operators by values -/
namespace Ev
open PySem PySem.Spec PyProof.Rows L2
theorem line_le {n : Nat} (h : n ≤ LINE) : n ≤ sizeLine := Nat.le_trans h (by decide)
theorem line_lt {n : Nat} (h : n ≤ LINE) : n < sizeLine := Nat.lt_of_le_of_lt h (by decide)
section
variable {G : Gx} {f f' : List Addr} {H H' : Hp} {S S' : Store} {v : Val} {x : V}
/-- what is wanted behind a value's making -/
abbrev Wk (G : Gx) (f : List Addr) (H : Hp) (S' : Store) (v : Val) (Q : VK) : Prop := ∀ z H' f', Ext f H f' H' → RS G f' H' S' → RV G f' H' v z → Q z H'
theorem Wk.here (r : RS G f H S) {Q : VK} {z : V} (k : Wk G f H S v Q) (h : RV G f H v z) : Q z H := k z H f r.ext r h
theorem seq_at (r : RS G f H S) (h : RV G f H v x) {vs : List Val} (e : seqOf S v = some vs) :
    ∃ a xs, x = .ref a ∧ RVs G f H vs xs ∧ ((isTup v = true ∧ SqT G.K H a xs) ∨ (isTup v = false ∧ SqL G.K H a xs)) := by
  cases v with
  | tup ws =>
    obtain ⟨a, xs, rfl, ht, hv⟩ := h
    have e' : ws = vs := Option.some.inj e
    subst e'
    exact ⟨a, xs, rfl, hv, .inl ⟨rfl, ht.sq⟩⟩
  | fl ws =>
    obtain ⟨a, xs, rfl, ha, _, hv⟩ := h
    have e' : ws = vs := Option.some.inj e
    subst e'
    exact ⟨a, xs, rfl, hv, .inr ⟨rfl, SqL.of ha⟩⟩
  | rl ws =>
    obtain ⟨a, xs, rfl, ht, hv⟩ := h
    have e' : ws = vs := Option.some.inj e
    subst e'
    exact ⟨a, xs, rfl, hv, .inr ⟨rfl, ht.sq⟩⟩
  | ref k =>
    obtain ⟨a, rfl, ha⟩ := h
    simp only [seqOf] at e
    cases q : S[k]? with
    | none => rw [q] at e; cases e
    | some c =>
      rw [q] at e
      cases c with
      | lst ws =>
        have e' : ws = vs := Option.some.inj e
        subst e'
        obtain ⟨xs, h1, h2⟩ := r.cell q ha
        exact ⟨a, xs, rfl, h2, .inr ⟨rfl, SqL.of h1⟩⟩
      | obj => cases e
      | dict => cases e
  | non => cases e
  | bl => cases e
  | int => cases e
  | str => cases e
  | fo => cases e
/-- .. a list of the heap -/
theorem lst_at (r : RS G f H S) (h : RV G f H v x) {vs : List Val} (e : seqOf S v = some vs) (n1 : isTup v = false) (n2 : ∀ ws, v ≠ .rl ws) :
    ∃ a xs, x = .ref a ∧ RVs G f H vs xs ∧ H a = some (.lst xs) := by
  cases v with
  | tup ws => cases n1
  | fl ws =>
    obtain ⟨a, xs, rfl, ha, _, hv⟩ := h
    have e' : ws = vs := Option.some.inj e
    subst e'
    exact ⟨a, xs, rfl, hv, ha⟩
  | rl ws => exact absurd rfl (n2 ws)
  | ref k =>
    obtain ⟨a, rfl, ha⟩ := h
    simp only [seqOf] at e
    cases q : S[k]? with
    | none => rw [q] at e; cases e
    | some c =>
      rw [q] at e
      cases c with
      | lst ws =>
        have e' : ws = vs := Option.some.inj e
        subst e'
        obtain ⟨xs, h1, h2⟩ := r.cell q ha
        exact ⟨a, xs, rfl, h2, h1⟩
      | obj => cases e
      | dict => cases e
  | non => cases e
  | bl => cases e
  | int => cases e
  | str => cases e
  | fo => cases e
/-- a new list's place -/
theorem new_list (r : RS G f H S) {m : Bool} {vs : List Val} {xs : List V} {p : Addr} (hp : H p = none) (hv : RVs G f H vs xs)
    (e : (if m then R.ok (.ref S.length) (S ++ [.lst vs]) else R.ok (.fl vs) S) = R.ok v S') : ∃ f', Ext f H f' (upd H p (.lst xs)) ∧ RS G f' (upd H p (.lst xs)) S' ∧ RV G f' (upd H p (.lst xs)) v (.ref p) := by
  cases m with
  | true =>
    rw [if_pos rfl] at e
    injection e with e1 e2
    subst e1 e2
    have x := Ext.cell (o := .lst xs) r hp
    refine ⟨f ++ [p], x, r.add hp ⟨xs, upd_same, hv.ext x⟩, p, rfl, ?_⟩
    rw [← r.len]
    simp
  | false =>
    rw [if_neg (by decide)] at e
    injection e with e1 e2
    subst e1 e2
    have x := Ext.new (o := .lst xs) r hp
    exact ⟨f, x, r.new hp, p, xs, rfl, upd_same, r.outp hp, hv.ext x⟩
theorem mk_list_len {m : Bool} {vs : List Val} (e : mkList m vs S = R.ok v S') : vs.length ≤ LINE ∧ (if m then R.ok (.ref S.length) (S ++ [.lst vs]) else R.ok (.fl vs) S) = R.ok v S' := by
  unfold mkList at e
  by_cases h : vs.length ≤ LINE
  · rw [if_pos h] at e
    exact ⟨h, e⟩
  · rw [if_neg h] at e
    cases e
theorem mk_tup_len {vs : List Val} (e : mkTup vs S = R.ok v S') : vs.length ≤ LINE ∧ v = .tup vs ∧ S' = S := by
  unfold mkTup at e
  by_cases h : vs.length ≤ LINE
  · rw [if_pos h] at e
    injection e with e1 e2
    exact ⟨h, e1.symm, e2.symm⟩
  · rw [if_neg h] at e
    cases e
theorem new_tup (r : RS G f H S) {vs : List Val} {xs : List V} {p : Addr} (hp : H p = none) (hv : RVs G f H vs xs) :
    Ext f H f (upd H p (.tup xs)) ∧ RS G f (upd H p (.tup xs)) S ∧ RV G f (upd H p (.tup xs)) (.tup vs) (.ref p) :=
  have x := Ext.new (o := .tup xs) r hp
  ⟨x, r.new hp, p, xs, rfl, .inl ⟨.inl upd_same, r.outp hp⟩, hv.ext x⟩
theorem RV.tupOf {a : Addr} {xs : List V} {vs : List Val} (ht : TupAt G f H a xs) (hv : RVs G f H vs xs) : RV G f H (.tup vs) (.ref a) := ⟨a, xs, rfl, ht, hv⟩
end

/-! #### data -/
section
variable {G : Gx} {f : List Addr} {H : Hp} {S : Store}
mutual
theorem RV.bel {n : Nat} (hn : n ≤ f.length) : ∀ {v : Val} {x : V}, RV G f H v x → v.bel n = true → RV G (f.take n) H v x
  | .non, _, h, _ => h
  | .bl _, _, h, _ => h
  | .int _, _, h, _ => h
  | .str _, _, h, _ => h
  | .tup vs, x, h, e => by
    obtain ⟨a, xs, rfl, ht, hv⟩ := h
    refine ⟨a, xs, rfl, ?_, RVs.bel hn hv (by simpa [Val.bel] using e)⟩
    rcases ht with ⟨r, m⟩ | k
    · exact .inl ⟨r, fun q => m.1 (List.mem_of_mem_take q), m.2⟩
    · exact .inr k
  | .fl vs, x, h, e => by
    obtain ⟨a, xs, rfl, ha, m, hv⟩ := h
    exact ⟨a, xs, rfl, ha, ⟨fun q => m.1 (List.mem_of_mem_take q), m.2⟩, RVs.bel hn hv (by simpa [Val.bel] using e)⟩
  | .rl vs, x, h, e => by
    obtain ⟨a, xs, rfl, ht, hv⟩ := h
    refine ⟨a, xs, rfl, ?_, RVs.bel hn hv (by simpa [Val.bel] using e)⟩
    rcases ht with ⟨r, m⟩ | k
    · exact .inl ⟨r, fun q => m.1 (List.mem_of_mem_take q), m.2⟩
    · exact .inr k
  | .fo c fs, x, h, e => by
    obtain ⟨a, dx, hs, rfl, ha, m, hv⟩ := h
    exact ⟨a, dx, hs, rfl, ha, ⟨fun q => m.1 (List.mem_of_mem_take q), m.2⟩, RFs.bel hn hv (by simpa [Val.bel] using e)⟩
  | .ref k, x, h, e => by
    obtain ⟨a, rfl, ha⟩ := h
    have hk : k < n := by simpa [Val.bel] using e
    exact ⟨a, rfl, by rw [List.getElem?_take_of_lt hk]; exact ha⟩
theorem RVs.bel {n : Nat} (hn : n ≤ f.length) : ∀ {vs : List Val} {xs : List V}, RVs G f H vs xs → Val.belL n vs = true → RVs G (f.take n) H vs xs
  | [], _, h, _ => h
  | v :: vs, xs, h, e => by
    obtain ⟨x, r, rfl, h1, h2⟩ := h
    rw [Val.belL, Bool.and_eq_true] at e
    exact ⟨x, r, rfl, RV.bel hn h1 e.1, RVs.bel hn h2 e.2⟩
theorem RFs.bel {n : Nat} (hn : n ≤ f.length) : ∀ {vs : List (String × Val)} {xs : List (Str × V)}, RFs G f H vs xs → Val.belF n vs = true → RFs G (f.take n) H vs xs
  | [], _, h, _ => h
  | (g, v) :: vs, xs, h, e => by
    obtain ⟨x, r, rfl, h1, h2⟩ := h
    rw [Val.belF, Bool.and_eq_true] at e
    exact ⟨x, r, rfl, RV.bel hn h1 e.1, RFs.bel hn h2 e.2⟩
end
theorem mapM_cons_some {α β : Type} {g : α → Option β} {a : α} {as : List α} {bs : List β} (h : (a :: as).mapM g = some bs) : ∃ b r, bs = b :: r ∧ g a = some b ∧ as.mapM g = some r := by
  rw [List.mapM_cons] at h
  cases q : g a with
  | none => simp [q] at h
  | some b =>
    cases q2 : as.mapM g with
    | none => simp [q, q2] at h
    | some r =>
      simp [q, q2] at h
      exact ⟨b, r, h.symm, rfl, rfl⟩
theorem mapM_nil_some {α β : Type} {g : α → Option β} {bs : List β} (h : ([] : List α).mapM g = some bs) : bs = [] := by
  simp at h
  exact h
theorem RVs.frz {n : Nat} {g : Val → Option Val} (hg : ∀ {v w : Val} {x : V}, RV G f H v x → g v = some w → RV G (f.take n) H w x) : ∀ {vs ws : List Val} {xs : List V}, RVs G f H vs xs → vs.mapM g = some ws → RVs G (f.take n) H ws xs
  | [], ws, xs, h, e => by
    rw [mapM_nil_some e]
    exact h
  | v :: vs, ws, xs, h, e => by
    obtain ⟨w, r, rfl, e1, e2⟩ := mapM_cons_some e
    obtain ⟨x, r', rfl, h1, h2⟩ := h
    exact ⟨x, r', rfl, hg h1 e1, RVs.frz hg h2 e2⟩
theorem RFs.frz {n : Nat} {g : Val → Option Val} (hg : ∀ {v w : Val} {x : V}, RV G f H v x → g v = some w → RV G (f.take n) H w x) : ∀ {vs ws : List (String × Val)} {xs : List (Str × V)}, RFs G f H vs xs →
    (vs.mapM fun p => (g p.2).map fun v' => (p.1, v')) = some ws → RFs G (f.take n) H ws xs
  | [], ws, xs, h, e => by
    rw [mapM_nil_some e]
    exact h
  | (q, v) :: vs, ws, xs, h, e => by
    obtain ⟨w, r, rfl, e1, e2⟩ := mapM_cons_some e
    obtain ⟨x, r', rfl, h1, h2⟩ := h
    obtain ⟨v', e3, rfl⟩ := Option.map_eq_some_iff.mp e1
    exact ⟨x, r', rfl, hg h1 e3, RFs.frz hg h2 e2⟩
theorem not_take {n k : Nat} {a : Addr} (nd : f.Nodup) (h : f[k]? = some a) (hk : ¬ k < n) : a ∉ f.take n := fun hm => by
  obtain ⟨j, hj⟩ := List.getElem?_of_mem hm
  have h1 := List.getElem?_eq_some_iff.mp hj
  have hl : j < n := by
    have := h1.1
    rw [List.length_take] at this
    omega
  rw [List.getElem?_take_of_lt hl] at hj
  have h2 := List.getElem?_eq_some_iff.mp hj
  have h3 := List.getElem?_eq_some_iff.mp h
  have : j = k := (List.getElem_inj nd).mp (h2.2.trans h3.2.symm)
  omega
theorem freeze_ok (r : RS G f H S) {n : Nat} (hn : n ≤ f.length) : ∀ (d : Nat) {v w : Val} {x : V}, RV G f H v x → freeze d n S v = some w → RV G (f.take n) H w x
  | 0, v, w, x, h, e => by
    unfold freeze at e
    by_cases hb : v.bel n = true
    · rw [if_pos hb] at e
      cases e
      exact h.bel hn hb
    · rw [if_neg hb] at e
      cases e
  | d + 1, v, w, x, h, e => by
    unfold freeze at e
    by_cases hb : v.bel n = true
    · rw [if_pos hb] at e
      cases e
      exact h.bel hn hb
    · rw [if_neg hb] at e
      have ih : ∀ {v w : Val} {x : V}, RV G f H v x → freeze d n S v = some w → RV G (f.take n) H w x := fun h e => freeze_ok r hn d h e
      cases v with
      | tup vs =>
        obtain ⟨ws, e1, rfl⟩ := Option.map_eq_some_iff.mp e
        obtain ⟨a, xs, rfl, ht, hv⟩ := h
        refine ⟨a, xs, rfl, ?_, hv.frz ih e1⟩
        rcases ht with ⟨q, m⟩ | k
        · exact .inl ⟨q, fun z => m.1 (List.mem_of_mem_take z), m.2⟩
        · exact .inr k
      | fl vs =>
        obtain ⟨ws, e1, rfl⟩ := Option.map_eq_some_iff.mp e
        obtain ⟨a, xs, rfl, ha, m, hv⟩ := h
        exact ⟨a, xs, rfl, ha, ⟨fun z => m.1 (List.mem_of_mem_take z), m.2⟩, hv.frz ih e1⟩
      | rl vs =>
        obtain ⟨ws, e1, rfl⟩ := Option.map_eq_some_iff.mp e
        obtain ⟨a, xs, rfl, ht, hv⟩ := h
        refine ⟨a, xs, rfl, ?_, hv.frz ih e1⟩
        rcases ht with ⟨q, m⟩ | k
        · exact .inl ⟨q, fun z => m.1 (List.mem_of_mem_take z), m.2⟩
        · exact .inr k
      | fo c fs =>
        obtain ⟨ws, e1, rfl⟩ := Option.map_eq_some_iff.mp e
        obtain ⟨a, dx, hs, rfl, ha, m, hv⟩ := h
        exact ⟨a, dx, hs, rfl, ha, ⟨fun z => m.1 (List.mem_of_mem_take z), m.2⟩, hv.frz ih e1⟩
      | ref k =>
        obtain ⟨a, rfl, ha⟩ := h
        have hk : ¬ k < n := by simpa [Val.bel] using hb
        have nt : Out G (f.take n) a := ⟨not_take r.nd ha hk, fun z => (r.out a z).1 (List.mem_of_getElem? ha)⟩
        simp only at e
        cases q : S[k]? with
        | none => rw [q] at e; cases e
        | some c =>
          rw [q] at e
          cases c with
          | lst vs =>
            obtain ⟨ws, e1, rfl⟩ := Option.map_eq_some_iff.mp e
            obtain ⟨xs, h1, h2⟩ := r.cell q ha
            exact ⟨a, xs, rfl, h1, nt, h2.frz ih e1⟩
          | obj c fs =>
            obtain ⟨ws, e1, rfl⟩ := Option.map_eq_some_iff.mp e
            obtain ⟨dx, hs, h1, h2⟩ := r.cell q ha
            exact ⟨a, dx, hs, rfl, h1, nt, h2.frz ih e1⟩
          | dict => cases e
      | non => cases e
      | bl => cases e
      | int => cases e
      | str => cases e
mutual
theorem RV.dp : ∀ {v : Val} {x : V}, RV G f H v x → v.pd.canLay0 = true → Dp G.K H x v.pd
  | .non, _, h, _ => by cases h; exact .non
  | .bl b, _, h, _ => by cases h; exact .bl b
  | .int i, _, h, _ => by cases h; exact .int i
  | .str s, _, h, _ => by cases h; exact .str s
  | .tup vs, x, h, e => by
    obtain ⟨a, xs, rfl, ht, hv⟩ := h
    exact .tup ht.sq (RVs.dp hv (by simpa [Val.pd, PyData.canLay0] using e))
  | .fl vs, x, h, e => by
    obtain ⟨a, xs, rfl, ha, m, hv⟩ := h
    exact .lst (SqL.of ha) (RVs.dp hv (by simpa [Val.pd, PyData.canLay0] using e))
  | .rl vs, x, h, e => by
    obtain ⟨a, xs, rfl, ht, hv⟩ := h
    exact .lst ht.sq (RVs.dp hv (by simpa [Val.pd, PyData.canLay0] using e))
  | .fo c fs, x, h, e => by simp [Val.pd, PyData.canLay0] at e
  | .ref k, x, h, e => by simp [Val.pd, PyData.canLay0] at e
theorem RVs.dp : ∀ {vs : List Val} {xs : List V}, RVs G f H vs xs → PyData.canLayAll0 (Val.pdL vs) = true → DpAll G.K H xs (Val.pdL vs)
  | [], _, h, _ => by cases h; exact .nil
  | v :: vs, xs, h, e => by
    obtain ⟨x, r, rfl, h1, h2⟩ := h
    rw [Val.pdL, PyData.canLayAll0, Bool.and_eq_true] at e
    exact .cons (RV.dp h1 e.1) (RVs.dp h2 e.2)
end
theorem datum_ok (r : RS G f H S) {v : Val} {x : V} {d : PyData} (h : RV G f H v x) (e : datum S v = some d) : Dp G.K H x d ∧ SeqAt.shaped d = true := by
  unfold datum at e
  cases q : freeze 8 0 S v with
  | none => rw [q] at e; cases e
  | some w =>
    rw [q] at e
    simp only at e
    by_cases hs : SeqAt.shaped w.pd = true
    · rw [if_pos hs] at e
      cases e
      exact ⟨(freeze_ok r (Nat.zero_le _) 8 h q).dp (SeqAt.canLay_of_shaped hs), hs⟩
    · rw [if_neg hs] at e
      cases e
theorem flat_ok {v : Val} {x y : V} (h : RV G f H v x) (e : flatOf v = some y) : x = y ∧ flatV x = true := by
  cases v with
  | non => cases h; cases e; exact ⟨rfl, rfl⟩
  | bl b => cases h; cases e; exact ⟨rfl, rfl⟩
  | int i => cases h; cases e; exact ⟨rfl, rfl⟩
  | str s => cases h; cases e; exact ⟨rfl, rfl⟩
  | _ => cases e
theorem flats_ok : ∀ {vs : List Val} {xs ys : List V}, RVs G f H vs xs → vs.mapM flatOf = some ys → xs = ys ∧ xs.all flatV = true
  | [], xs, ys, h, e => by
    rw [mapM_nil_some e]
    cases h
    exact ⟨rfl, rfl⟩
  | v :: vs, xs, ys, h, e => by
    obtain ⟨w, r, rfl, e1, e2⟩ := mapM_cons_some e
    obtain ⟨x, r', rfl, h1, h2⟩ := h
    obtain ⟨rfl, h3⟩ := flat_ok h1 e1
    obtain ⟨rfl, h4⟩ := flats_ok h2 e2
    exact ⟨rfl, by simp only [List.all_cons, h3, h4, Bool.and_self]⟩
end
def BOp.op : BOp → Operator
  | .add => .Add | .sub => .Sub | .mul => .Mult | .fdiv => .FloorDiv | .mod => .Mod | .pow => .Pow | .band => .BitAnd | .bor => .BitOr | .shl => .LShift | .shr => .RShift
def COp.op : COp → CmpOp
  | .eq => .Eq | .ne => .NotEq | .lt => .Lt | .le => .LtE | .gt => .Gt | .ge => .GtE | .is_ => .Is | .isnot => .IsNot | .in_ => .In | .notin => .NotIn
section
variable {G : Gx} {X : Cx}
def rB (G : Gx) (m : Val → Val → Store → R Val) : R2 := fun x y H Q => ∃ f S xv yv v S', RS G f H S ∧ RV G f H xv x ∧ RV G f H yv y ∧ m xv yv S = .ok v S' ∧ Wk G f H S' v Q
theorem ok_inj {α : Type} {a b : α} {S S' : Store} (h : (R.ok a S : R α) = .ok b S') : a = b ∧ S = S' := by
  injection h with h1 h2
  exact ⟨h1, h2⟩
theorem op_binI (op : BOp) : OpR X (binaryOp op.op) (fun x y H Q => ∃ f S i j v S', RS G f H S ∧ x = .int i ∧ y = .int j ∧ binI op i j S = .ok v S' ∧ Wk G f H S' v Q) := by
  intro pins s σ H x y v u Q I rx ry h
  obtain ⟨f, S, i, j, w, S', r, rfl, rfl, e, k⟩ := h
  have fin : ∀ {n : Int}, (R.ok (Val.int n) S : R Val) = .ok w S' → Q (.int n) H := fun {n} e => by
    obtain ⟨rfl, rfl⟩ := ok_inj e
    exact k.here r rfl
  cases op with
  | add => exact op_add pins s σ H _ _ v u Q I rx ry ⟨i, j, rfl, rfl, fin e⟩
  | sub => exact op_sub pins s σ H _ _ v u Q I rx ry ⟨i, j, rfl, rfl, fin e⟩
  | mul =>
    obtain ⟨hc, e⟩ := chk_eq e
    rcases hc with hc | hc
    · exact op_mul pins s σ H _ _ v u Q I rx ry ⟨i, j, rfl, rfl, hc, fin e⟩
    · exact op_mulW pins s σ H _ _ v u Q I rx ry ⟨i, j, rfl, rfl, hc, fin e⟩
  | fdiv =>
    obtain ⟨hc, e⟩ := chk_eq e
    rcases hc with hc | hc
    · exact op_fdivN pins s σ H _ _ v u Q I rx ry ⟨i, j, rfl, rfl, hc, fin e⟩
    · refine op_fdivW pins s σ H _ _ v u Q I rx ry ⟨i, j, rfl, rfl, hc, ?_⟩
      show Q (.int (i / j)) H
      rw [← Int.fdiv_eq_ediv_of_nonneg _ (Int.le_of_lt hc.1)]
      exact fin e
  | mod =>
    obtain ⟨hc, e⟩ := chk_eq e
    exact op_modN pins s σ H _ _ v u Q I rx ry ⟨i, j, rfl, rfl, hc, fin e⟩
  | pow =>
    obtain ⟨hc, e⟩ := chk_eq e
    exact op_pow pins s σ H _ _ v u Q I rx ry ⟨i, j, rfl, rfl, hc, fin e⟩
  | band => exact op_and pins s σ H _ _ v u Q I rx ry ⟨i, j, rfl, rfl, fin e⟩
  | bor => exact op_or pins s σ H _ _ v u Q I rx ry ⟨i, j, rfl, rfl, fin e⟩
  | shl =>
    obtain ⟨hc, e⟩ := chk_eq e
    exact op_shl pins s σ H _ _ v u Q I rx ry ⟨i, j, rfl, rfl, hc, fin e⟩
  | shr =>
    obtain ⟨hc, e⟩ := chk_eq e
    exact op_shr pins s σ H _ _ v u Q I rx ry ⟨i, j, rfl, rfl, hc, fin e⟩
theorem op_addT (hK : X.K = G.K) : OpR X (binaryOp .Add) (fun x y H Q => ∃ f S a b v S', RS G f H S ∧ RV G f H (.tup a) x ∧ RV G f H (.tup b) y ∧ mkTup (a ++ b) S = .ok v S' ∧ Wk G f H S' v Q) := by
  intro pins s σ H x y v u Q I rx ry h
  obtain ⟨f, S, a, b, w, S', r, ⟨a1, xs, rfl, t1, v1⟩, ⟨b1, ys, rfl, t2, v2⟩, e, k⟩ := h
  obtain ⟨hl, rfl, rfl⟩ := mk_tup_len e
  have l1 := v1.len
  have l2 := v2.len
  refine op_catA pins s σ H _ _ v u Q I rx ry ⟨a1, b1, xs, ys, rfl, rfl, hK ▸ t1.sq, hK ▸ t2.sq, line_le (by rw [List.length_append] at hl; omega), fun hx => ?_, fun hx hy => ?_, fun hx hy p hp => ?_⟩
  · subst hx
    have : a = [] := List.length_eq_zero_iff.mp l1
    subst this
    exact k.here r (RV.tupOf t2 v2)
  · subst hy
    have : b = [] := List.length_eq_zero_iff.mp l2
    subst this
    refine k.here r ?_
    rw [List.append_nil]
    exact RV.tupOf t1 v1
  · obtain ⟨x, r', h'⟩ := new_tup r hp (v1.app v2)
    exact k _ _ _ x r' h'
theorem op_addL : OpR X (binaryOp .Add) (fun x y H Q => ∃ f S xv yv a b m v S', RS G f H S ∧ RV G f H xv x ∧ RV G f H yv y ∧ seqOf S xv = some a ∧ seqOf S yv = some b ∧ (isTup xv = false ∧ ∀ ws, xv ≠ .rl ws) ∧ (isTup yv = false ∧ ∀ ws, yv ≠ .rl ws) ∧
    mkList m (a ++ b) S = .ok v S' ∧ Wk G f H S' v Q) := by
  intro pins s σ H x y v u Q I rx ry h
  obtain ⟨f, S, xv, yv, a, b, m, w, S', r, h1, h2, e1, e2, n1, n2, e, k⟩ := h
  obtain ⟨a1, xs, rfl, v1, t1⟩ := lst_at r h1 e1 n1.1 n1.2
  obtain ⟨b1, ys, rfl, v2, t2⟩ := lst_at r h2 e2 n2.1 n2.2
  obtain ⟨hl, e⟩ := mk_list_len e
  have l1 := v1.len
  have l2 := v2.len
  refine op_cat pins s σ H _ _ v u Q I rx ry ⟨a1, b1, xs, ys, rfl, rfl, t1, t2, line_le (by rw [List.length_append] at hl; omega), fun p hp => ?_⟩
  obtain ⟨f', x, r', h'⟩ := new_list r hp (v1.app v2) e
  exact k _ _ _ x r' h'
theorem binV_add {m : Bool} {op : BOp} {x y v : Val} {S S' : Store} (e : binV m op x y S = .ok v S') :
    (∃ i j, x = .int i ∧ y = .int j ∧ binI op i j S = .ok v S') ∨ (∃ a b, x = .str a ∧ y = .str b ∧ op = .add ∧ a.length + b.length ≤ LINE ∧ v = .str (a ++ b) ∧ S' = S) ∨
    (∃ a b, x = .tup a ∧ y = .tup b ∧ op = .add ∧ mkTup (a ++ b) S = .ok v S') ∨
    (∃ a b, op = .add ∧ seqOf S x = some a ∧ seqOf S y = some b ∧ (isTup x = false ∧ ∀ ws, x ≠ .rl ws) ∧ (isTup y = false ∧ ∀ ws, y ≠ .rl ws) ∧ mkList m (a ++ b) S = .ok v S') := by
  have lists : ∀ {x y : Val}, (if (isTup x || isTup y || isRl x || isRl y) = true then (R.bad : R Val) else addL m x y S) = .ok v S' → ∃ a b, BOp.add = BOp.add ∧ seqOf S x = some a ∧ seqOf S y = some b ∧ (isTup x = false ∧ ∀ ws, x ≠ .rl ws) ∧ (isTup y = false ∧ ∀ ws, y ≠ .rl ws) ∧ mkList m (a ++ b) S = .ok v S' := by
    intro x y e
    by_cases hc : (isTup x || isTup y || isRl x || isRl y) = true
    · rw [if_pos hc] at e
      cases e
    · rw [if_neg hc] at e
      simp only [Bool.or_eq_true, not_or, Bool.not_eq_true] at hc
      obtain ⟨⟨⟨h1, h3⟩, h2⟩, h4⟩ := hc
      unfold addL at e
      cases q1 : seqOf S x with
      | none => rw [q1] at e; cases e
      | some a =>
        cases q2 : seqOf S y with
        | none => rw [q1, q2] at e; cases e
        | some b =>
          rw [q1, q2] at e
          exact ⟨a, b, rfl, rfl, rfl, ⟨h1, fun ws z => by subst z; cases h2⟩, ⟨h3, fun ws z => by subst z; cases h4⟩, e⟩
  by_cases hadd : op = .add
  · subst hadd
    cases x <;> cases y <;> first
      | exact .inl ⟨_, _, rfl, rfl, e⟩
      | (obtain ⟨h1, e⟩ := chk_eq e
         obtain ⟨rfl, rfl⟩ := ok_inj e
         exact .inr (.inl ⟨_, _, rfl, rfl, rfl, h1, rfl, rfl⟩))
      | exact .inr (.inr (.inl ⟨_, _, rfl, rfl, rfl, e⟩))
      | (cases e; done)
      | exact .inr (.inr (.inr (lists e)))
  · cases x <;> cases y <;> first
      | exact .inl ⟨_, _, rfl, rfl, e⟩
      | (exfalso
         cases op <;> first
          | exact hadd rfl
          | (cases e; done))
theorem op_bin (hK : X.K = G.K) (m : Bool) (op : BOp) : OpR X (binaryOp op.op) (rB G (binV m op)) := by
  intro pins s σ H x y v u Q I rx ry h
  obtain ⟨f, S, xv, yv, w, S', r, h1, h2, e, k⟩ := h
  rcases binV_add e with ⟨i, j, rfl, rfl, e⟩ | ⟨a, b, rfl, rfl, rfl, hl, rfl, rfl⟩ | ⟨a, b, rfl, rfl, rfl, e⟩ | ⟨a, b, rfl, e1, e2, n1, n2, e⟩
  · exact op_binI (G := G) op pins s σ H x y v u Q I rx ry ⟨f, S, i, j, w, S', r, h1, h2, e, k⟩
  · cases h1
    cases h2
    exact op_add_str pins s σ H _ _ v u Q I rx ry ⟨a, b, rfl, rfl, line_le hl, k.here r rfl⟩
  · exact op_addT hK pins s σ H x y v u Q I rx ry ⟨f, S, a, b, w, S', r, h1, h2, e, k⟩
  · exact op_addL pins s σ H x y v u Q I rx ry ⟨f, S, xv, yv, a, b, m, w, S', r, h1, h2, e1, e2, n1, n2, e, k⟩
end
end Ev

set_option Elab.async false
set_option linter.all false
set_option maxRecDepth 100000
set_option maxHeartbeats 4000000
/-! ### Comparisons, truth, items, built-ins by values -/
namespace Ev
open PySem PySem.Spec PyProof.Rows L2
section
variable {G : Gx} {X : Cx}
theorem decV_int (i j : Int) : decide (V.int i = V.int j) = decide (i = j) := by
  by_cases h : i = j
  · subst h; simp
  · rw [decide_eq_false h, decide_eq_false (fun q => h (V.int.inj q))]
theorem fromB {P : Prop} [Decidable P] {b c : Bool} (h : decide P = b) (e : b = c) : decide P = c := h.trans e
def rCm (G : Gx) (op : COp) : R2 := fun x y H Q => ∃ f S xv yv b, RS G f H S ∧ RV G f H xv x ∧ RV G f H yv y ∧ cmpV op xv yv S = some b ∧ Q (.bl b) H
def isNonV : Val → Bool
  | .non => true
  | _ => false
theorem isnon {f : List Addr} {H : Hp} {v : Val} {x : V} (h : RV G f H v x) : decide (x = .non) = isNonV v := by
  cases v with
  | non => cases h; rfl
  | bl => cases h; rfl
  | int => cases h; rfl
  | str => cases h; rfl
  | tup => obtain ⟨_, _, rfl, _⟩ := h; rfl
  | fl => obtain ⟨_, _, rfl, _⟩ := h; rfl
  | rl => obtain ⟨_, _, rfl, _⟩ := h; rfl
  | fo => obtain ⟨_, _, _, rfl, _⟩ := h; rfl
  | ref => obtain ⟨_, rfl, _⟩ := h; rfl
theorem cm_is (hu : X.A.units + 65 < cLine) : OpR X (compareOp .Is) (rCm G .is_) := by
  intro pins s σ H x y v u Q I rx ry h
  obtain ⟨f, S, xv, yv, b, r, h1, h2, e, q⟩ := h
  cases yv with
  | non =>
    cases h2
    refine op_isN pins s σ H _ _ v u Q I rx ry ⟨rfl, ?_⟩
    rw [isnon h1]
    have e' : isNonV xv = b := by cases xv <;> exact Option.some.inj e
    rw [e']
    exact q
  | bl c =>
    cases h2
    cases xv with
    | bl a =>
      cases h1
      cases e
      exact op_isBl pins s σ H _ _ v u Q I rx ry ⟨a, c, rfl, rfl, q⟩
    | _ => cases e
  | _ => cases e
theorem cm_isnot (hu : X.A.units + 65 < cLine) : OpR X (compareOp .IsNot) (rCm G .isnot) := by
  intro pins s σ H x y v u Q I rx ry h
  obtain ⟨f, S, xv, yv, b, r, h1, h2, e, q⟩ := h
  cases yv with
  | non =>
    cases h2
    refine op_notN pins s σ H _ _ v u Q I rx ry ⟨rfl, ?_⟩
    rw [isnon h1]
    have e' : (!isNonV xv) = b := by cases xv <;> exact Option.some.inj e
    rw [e']
    exact q
  | bl c =>
    cases h2
    cases xv with
    | bl a =>
      cases h1
      cases e
      exact op_notBl pins s σ H _ _ v u Q I rx ry ⟨a, c, rfl, rfl, q⟩
    | _ => cases e
  | _ => cases e
theorem inVal_ok {f : List Addr} {H : Hp} {S : Store} {xv yv : Val} {x y : V} {b : Bool} (r : RS G f H S) (h1 : RV G f H xv x) (h2 : RV G f H yv y) (e : inVal xv yv S = some b) :
    (∃ p xs, y = .ref p ∧ SqT G.K H p xs ∧ flatV x = true ∧ xs.all flatV = true ∧ b = inV x xs) ∨ (∃ d ds, Dp G.K H x d ∧ Dp G.K H y (.list ds) ∧ SeqAt.shaped d = true ∧ SeqAt.shaped (.list ds) = true ∧ b = ds.any fun z => PyData.eqv z d) := by
  have rest : (match datum S xv, datum S yv with
    | some d, some (.list ds) => some (ds.any fun z => PyData.eqv z d)
    | _, _ => none) = some b → ∃ d ds, Dp G.K H x d ∧ Dp G.K H y (.list ds) ∧ SeqAt.shaped d = true ∧ SeqAt.shaped (.list ds) = true ∧ b = ds.any fun z => PyData.eqv z d := by
    intro e
    cases q1 : datum S xv with
    | none => rw [q1] at e; cases e
    | some d =>
      cases q2 : datum S yv with
      | none => rw [q1, q2] at e; cases e
      | some d2 =>
        rw [q1, q2] at e
        cases d2 with
        | list ds =>
          obtain ⟨a1, a2⟩ := datum_ok r h1 q1
          obtain ⟨b1, b2⟩ := datum_ok r h2 q2
          exact ⟨d, ds, a1, b1, a2, b2, (Option.some.inj e).symm⟩
        | _ => cases e
  cases yv with
  | tup ys =>
    obtain ⟨p, xs, rfl, ht, hv⟩ := h2
    simp only [inVal] at e
    cases q1 : flatOf xv with
    | none => rw [q1] at e; cases e
    | some a =>
      cases q2 : ys.mapM flatOf with
      | none => rw [q1, q2] at e; cases e
      | some bs =>
        rw [q1, q2] at e
        obtain ⟨rfl, c1⟩ := flat_ok h1 q1
        obtain ⟨rfl, c2⟩ := flats_ok hv q2
        exact .inl ⟨p, xs, rfl, ht.sq, c1, c2, (Option.some.inj e).symm⟩
  | _ => exact .inr (rest e)
theorem cm_in (hK : X.K = G.K) (hu : X.A.units + 65 < cLine) : OpR X (compareOp .In) (rCm G .in_) := by
  intro pins s σ H x y v u Q I rx ry h
  obtain ⟨f, S, xv, yv, b, r, h1, h2, e, q⟩ := h
  rcases inVal_ok r h1 h2 e with ⟨p, xs, rfl, a, b1, b2, rfl⟩ | ⟨d, ds, a, b1, c, d1, rfl⟩
  · exact op_in_seq pins s σ H _ _ v u Q I rx ry ⟨p, xs, rfl, .inr (hK ▸ a), b1, b2, q⟩
  · exact op_inD hu pins s σ H _ _ v u Q I rx ry ⟨d, ds, hK ▸ a, hK ▸ b1, c, d1, q⟩
theorem cm_notin (hK : X.K = G.K) (hu : X.A.units + 65 < cLine) : OpR X (compareOp .NotIn) (rCm G .notin) := by
  intro pins s σ H x y v u Q I rx ry h
  obtain ⟨f, S, xv, yv, b, r, h1, h2, e, q⟩ := h
  obtain ⟨b', e', rfl⟩ := Option.map_eq_some_iff.mp e
  rcases inVal_ok r h1 h2 e' with ⟨p, xs, rfl, a, b1, b2, rfl⟩ | ⟨d, ds, a, b1, c, d1, rfl⟩
  · exact op_notIn_seq pins s σ H _ _ v u Q I rx ry ⟨p, xs, rfl, .inr (hK ▸ a), b1, b2, q⟩
  · exact op_notInD hu pins s σ H _ _ v u Q I rx ry ⟨d, ds, hK ▸ a, hK ▸ b1, c, d1, q⟩
theorem eq_ok {f : List Addr} {H : Hp} {S : Store} {xv yv : Val} {x y : V} {g : PyData → PyData → Bool} {b : Bool} (r : RS G f H S) (h1 : RV G f H xv x) (h2 : RV G f H yv y) (e : (match datum S xv, datum S yv with
        | some d, some e => some (g d e)
        | _, _ => none) = some b) : ∃ d e, Dp G.K H x d ∧ Dp G.K H y e ∧ SeqAt.shaped d = true ∧ SeqAt.shaped e = true ∧ b = g d e := by
  cases q1 : datum S xv with
  | none => rw [q1] at e; cases e
  | some d =>
    cases q2 : datum S yv with
    | none => rw [q1, q2] at e; cases e
    | some d2 =>
      rw [q1, q2] at e
      obtain ⟨a1, a2⟩ := datum_ok r h1 q1
      obtain ⟨b1, b2⟩ := datum_ok r h2 q2
      exact ⟨d, d2, a1, b1, a2, b2, (Option.some.inj e).symm⟩
theorem cm_eq (hK : X.K = G.K) (hu : X.A.units + 65 < cLine) : OpR X (compareOp .Eq) (rCm G .eq) := by
  intro pins s σ H x y v u Q I rx ry h
  obtain ⟨f, S, xv, yv, b, r, h1, h2, e, q⟩ := h
  by_cases hi : ∃ i j, xv = .int i ∧ yv = .int j
  · obtain ⟨i, j, rfl, rfl⟩ := hi
    cases h1
    cases h2
    have e' : decide (i = j) = b := Option.some.inj e
    exact op_eq pins s σ H _ _ v u Q I rx ry ⟨rfl, by rw [decV_int, e']; exact q⟩
  · have e' : (match datum S xv, datum S yv with
        | some d, some e => some (PyData.eqv d e)
        | _, _ => none) = some b := by
      cases xv <;> cases yv <;> first | exact e | exact absurd ⟨_, _, rfl, rfl⟩ hi
    obtain ⟨d, e2, a, b1, c, d1, rfl⟩ := eq_ok r h1 h2 e'
    exact op_eqD (by omega) pins s σ H _ _ v u Q I rx ry ⟨d, e2, hK ▸ a, hK ▸ b1, c, d1, q⟩
theorem cm_ne (hK : X.K = G.K) (hu : X.A.units + 65 < cLine) : OpR X (compareOp .NotEq) (rCm G .ne) := by
  intro pins s σ H x y v u Q I rx ry h
  obtain ⟨f, S, xv, yv, b, r, h1, h2, e, q⟩ := h
  by_cases hi : ∃ i j, xv = .int i ∧ yv = .int j
  · obtain ⟨i, j, rfl, rfl⟩ := hi
    cases h1
    cases h2
    have e' : (!decide (i = j)) = b := Option.some.inj e
    exact op_ne pins s σ H _ _ v u Q I rx ry ⟨rfl, by rw [decV_int, e']; exact q⟩
  · have e' : (match datum S xv, datum S yv with
        | some d, some e => some (!PyData.eqv d e)
        | _, _ => none) = some b := by
      cases xv <;> cases yv <;> first | exact e | exact absurd ⟨_, _, rfl, rfl⟩ hi
    obtain ⟨d, e2, a, b1, c, d1, rfl⟩ := eq_ok (g := fun d e => !PyData.eqv d e) r h1 h2 e'
    exact op_neD (by omega) pins s σ H _ _ v u Q I rx ry ⟨d, e2, hK ▸ a, hK ▸ b1, c, d1, q⟩
theorem cm_lt (hK : X.K = G.K) (hu : X.A.units + 65 < cLine) : OpR X (compareOp .Lt) (rCm G .lt) := by
  intro pins s σ H x y v u Q I rx ry h
  obtain ⟨f, S, xv, yv, b, r, h1, h2, e, q⟩ := h
  cases xv with
  | int i =>
    cases yv with
    | int j =>
      cases h1
      cases h2
      have e' : decide (i < j) = b := Option.some.inj e
      exact op_lt pins s σ H _ _ v u Q I rx ry ⟨i, j, rfl, rfl, by show Q (.bl (decide (i < j))) H; rw [e']; exact q⟩
    | _ => cases e
  | tup xs =>
    cases yv with
    | tup ys =>
      simp only [cmpV] at e
      cases q1 : xs.mapM intOf with
      | none => rw [q1] at e; cases e
      | some ns =>
        cases q2 : ys.mapM intOf with
        | none => rw [q1, q2] at e; cases e
        | some ms =>
          rw [q1, q2] at e
          have e' : ltIs ns ms = b := Option.some.inj e
          obtain ⟨a, zs, rfl, t1, v1⟩ := h1
          obtain ⟨a2, zs2, rfl, t2, v2⟩ := h2
          have i1 := v1.ints q1
          have i2 := v2.ints q2
          subst i1 i2
          exact op_ltT (by omega) pins s σ H _ _ v u Q I rx ry ⟨a, a2, ns, ms, rfl, rfl, hK ▸ t1.sq, hK ▸ t2.sq, by rw [show HT.lexLt ns ms = b from e']; exact q⟩
    | _ => cases e
  | _ => cases yv <;> cases e
theorem cm_I {op : COp} {cop : CmpOp} {g : Int → Int → Bool} (ho : OpR X (compareOp cop) (rI0 fun i j => .bl (g i j))) (hg : ∀ i j, cmpI op i j = some (g i j)) (hn : ∀ xv yv S b, cmpV op xv yv S = some b → ∃ i j, xv = .int i ∧ yv = .int j ∧ cmpI op i j = some b) :
    OpR X (compareOp cop) (rCm G op) := by
  intro pins s σ H x y v u Q I rx ry h
  obtain ⟨f, S, xv, yv, b, r, h1, h2, e, q⟩ := h
  obtain ⟨i, j, rfl, rfl, e2⟩ := hn _ _ _ _ e
  cases h1
  cases h2
  rw [hg] at e2
  exact ho pins s σ H _ _ v u Q I rx ry ⟨i, j, rfl, rfl, by show Q (.bl (g i j)) H; rw [Option.some.inj e2]; exact q⟩
theorem cm_le : OpR X (compareOp .LtE) (rCm G .le) := cm_I op_le (fun _ _ => rfl) fun xv yv S b e => by
  cases xv <;> cases yv <;> first | exact ⟨_, _, rfl, rfl, e⟩ | cases e
theorem cm_gt : OpR X (compareOp .Gt) (rCm G .gt) := cm_I op_gt (fun _ _ => rfl) fun xv yv S b e => by
  cases xv <;> cases yv <;> first | exact ⟨_, _, rfl, rfl, e⟩ | cases e
theorem cm_ge : OpR X (compareOp .GtE) (rCm G .ge) := cm_I op_ge (fun _ _ => rfl) fun xv yv S b e => by
  cases xv <;> cases yv <;> first | exact ⟨_, _, rfl, rfl, e⟩ | cases e
theorem op_cmp (hK : X.K = G.K) (hu : X.A.units + 65 < cLine) (op : COp) : OpR X (compareOp op.op) (rCm G op) := by
  cases op with
  | eq => exact cm_eq hK hu
  | ne => exact cm_ne hK hu
  | lt => exact cm_lt hK hu
  | le => exact cm_le
  | gt => exact cm_gt
  | ge => exact cm_ge
  | is_ => exact cm_is hu
  | isnot => exact cm_isnot hu
  | in_ => exact cm_in hK hu
  | notin => exact cm_notin hK hu
/-! #### truth -/
theorem truth_ok {f : List Addr} {H : Hp} {S : Store} {v : Val} {x : V} {b : Bool} (r : RS G f H S) (h : RV G f H v x) (e : truth S v = some b) : TruV G.K x H b := by
  cases v with
  | non => cases h; exact (Option.some.inj e).symm
  | bl c => cases h; exact (Option.some.inj e).symm
  | int i => cases h; exact (Option.some.inj e).symm
  | str s =>
    cases h
    simp only [truth] at e
    by_cases hl : s.length ≤ LINE
    · rw [if_pos hl] at e
      refine ⟨line_le hl, ?_⟩
      rw [← Option.some.inj e]
      generalize s.length = n
      cases n with
      | zero => rfl
      | succ m =>
        rw [show (m + 1 != 0) = true from rfl]
        have : ((m + 1 : Nat) : Int) ≠ 0 := by omega
        exact (bne_iff_ne.mpr this).symm
    · rw [if_neg hl] at e
      cases e
  | tup vs =>
    obtain ⟨a, xs, rfl, ht, hv⟩ := h
    refine .inr (.inl ⟨xs, ht.sq, ?_⟩)
    rw [← Option.some.inj e]
    have := hv.len
    cases vs <;> cases xs <;> simp_all
  | fl vs =>
    obtain ⟨a, xs, rfl, ha, _, hv⟩ := h
    refine .inl ⟨xs, SqL.of ha, ?_⟩
    rw [← Option.some.inj e]
    have := hv.len
    cases vs <;> cases xs <;> simp_all
  | rl vs =>
    obtain ⟨a, xs, rfl, ht, hv⟩ := h
    refine .inl ⟨xs, ht.sq, ?_⟩
    rw [← Option.some.inj e]
    have := hv.len
    cases vs <;> cases xs <;> simp_all
  | fo => cases e
  | ref k =>
    obtain ⟨a, rfl, ha⟩ := h
    simp only [truth] at e
    cases q : S[k]? with
    | none => rw [q] at e; cases e
    | some c =>
      rw [q] at e
      cases c with
      | lst vs =>
        obtain ⟨xs, h1, hv⟩ := r.cell q ha
        refine .inl ⟨xs, SqL.of h1, ?_⟩
        rw [← Option.some.inj e]
        have := hv.len
        cases vs <;> cases xs <;> simp_all
      | _ => cases e
/-! #### items and slices -/
theorem atI_map {vs : List Val} {xs : List V} {f : List Addr} {H : Hp} {i : Int} {v : Val} (hv : RVs G f H vs xs) (e : atI vs i = some v) : ∃ x, atI xs i = some x ∧ RV G f H v x := by
  unfold atI at e ⊢
  rw [← hv.len]
  cases q : ixN vs.length i with
  | none => rw [q] at e; cases e
  | some j =>
    rw [q] at e
    exact hv.get e
def rIxV (G : Gx) : R2 := fun x y H Q => ∃ f S xv yv v, RS G f H S ∧ RV G f H xv x ∧ RV G f H yv y ∧ ixV xv yv S = some v ∧ ∀ z, RV G f H v z → Q z H
theorem ixV_eq {x y v : Val} {S : Store} (e : ixV x y S = some v) : ∃ i xs, y = .int i ∧ seqOf S x = some xs ∧ atI xs i = some v := by
  cases y with
  | int i =>
    simp only [ixV] at e
    cases q : seqOf S x with
    | none => rw [q] at e; cases e
    | some xs => rw [q] at e; exact ⟨i, xs, rfl, rfl, e⟩
  | _ => cases e
theorem ix_V (hK : X.K = G.K) : IxR X (rIxV G) := by
  intro value slice pins s σ H x y v u Q I rx ry h hs
  obtain ⟨f, S, xv, yv, w, r, h1, h2, e, k⟩ := h
  obtain ⟨i, vs, rfl, e1, e2⟩ := ixV_eq e
  cases h2
  obtain ⟨a, xs, rfl, hv, ht⟩ := seq_at r h1 e1
  obtain ⟨z, hz, rz⟩ := atI_map hv e2
  rcases ht with ⟨_, ht⟩ | ⟨_, ht⟩
  · exact ix_tup value slice pins s σ H _ _ v u Q I rx ry ⟨a, xs, i, z, rfl, rfl, hK ▸ ht, hz, k z rz⟩ hs
  · exact ix_list value slice pins s σ H _ _ v u Q I rx ry ⟨a, xs, i, z, rfl, rfl, hK ▸ ht, hz, k z rz⟩ hs
theorem cut_ok {vs : List Val} {xs : List V} {f : List Addr} {H : Hp} (hv : RVs G f H vs xs) (lo hi : Option Int) : RVs G f H (cutL vs lo hi) (cutV xs lo hi) := by
  unfold cutL cutV
  rw [← hv.len]
  exact (hv.drop _).take _
def rSlV (G : Gx) : V → Option Int → Option Int → Hp → VK → Prop := fun x lo hi H Q => ∃ f S m xv v S', RS G f H S ∧ RV G f H xv x ∧ slV m xv lo hi S = .ok v S' ∧ Wk G f H S' v Q
theorem slV_eq {m : Bool} {x v : Val} {lo hi : Option Int} {S S' : Store} (e : slV m x lo hi S = .ok v S') : (∃ vs, x = .tup vs ∧ v = .tup (cutL vs lo hi) ∧ S' = S) ∨
    ∃ vs, isTup x = false ∧ seqOf S x = some vs ∧ (if m then R.ok (.ref S.length) (S ++ [.lst (cutL vs lo hi)]) else R.ok (.fl (cutL vs lo hi)) S) = R.ok v S' := by
  cases x with
  | tup vs =>
    obtain ⟨rfl, rfl⟩ := ok_inj e
    exact .inl ⟨vs, rfl, rfl, rfl⟩
  | fl vs => exact .inr ⟨vs, rfl, rfl, e⟩
  | rl vs => exact .inr ⟨vs, rfl, rfl, e⟩
  | ref k =>
    simp only [slV] at e
    cases q : seqOf S (.ref k) with
    | none => rw [q] at e; cases e
    | some vs => rw [q] at e; exact .inr ⟨vs, rfl, rfl, e⟩
  | _ => cases e
theorem sl_V (hK : X.K = G.K) : SlR X (rSlV G) := by
  intro pins s σ H x v vl vu lo hi sl Q I rx hs pl pu h
  obtain ⟨f, S, m, xv, w, S', r, h1, e, k⟩ := h
  rcases slV_eq e with ⟨vs, rfl, rfl, rfl⟩ | ⟨vs, n, e1, e2⟩
  · obtain ⟨a, xs, rfl, ht, hv⟩ := h1
    refine sl_tupA pins s σ H _ v vl vu lo hi sl Q I rx hs pl pu ⟨a, xs, rfl, hK ▸ ht.sq, fun hw => ?_, fun _ p hp => ?_⟩
    · refine k.here r ?_
      have : cutL vs lo hi = vs := by
        unfold cutL
        rw [hv.len, hw.1, hw.2]
        simp [← hv.len]
      rw [this]
      exact RV.tupOf ht hv
    · obtain ⟨x', r', h'⟩ := new_tup r hp (cut_ok hv lo hi)
      exact k _ _ _ x' r' h'
  · obtain ⟨a, xs, rfl, hv, ht⟩ := seq_at r h1 e1
    rcases ht with ⟨t, _⟩ | ⟨_, ht⟩
    · rw [t] at n
      cases n
    refine sl_list pins s σ H _ v vl vu lo hi sl Q I rx hs pl pu ⟨a, xs, rfl, hK ▸ ht, fun p hp => ?_⟩
    obtain ⟨f', x', r', h'⟩ := new_list r hp (cut_ok hv lo hi) e2
    exact k _ _ _ x' r' h'
end
end Ev

set_option Elab.async false
set_option linter.all false
set_option maxRecDepth 100000
set_option maxHeartbeats 4000000
/-! ### Built-ins and stores by values -/
namespace Ev
open PySem PySem.Spec PyProof.Rows L2
section
variable {G : Gx} {X : Cx}
def rBl (G : Gx) (m : List Val → Store → R Val) : List V → Hp → VK → Prop := fun xs H Q => ∃ f S vs v S', RS G f H S ∧ RVs G f H vs xs ∧ m vs S = .ok v S' ∧ Wk G f H S' v Q
theorem RVs.one {f : List Addr} {H : Hp} {v : Val} {xs : List V} (h : RVs G f H [v] xs) : ∃ x, xs = [x] ∧ RV G f H v x := by
  obtain ⟨x, r, rfl, h1, h2⟩ := h
  cases h2
  exact ⟨x, rfl, h1⟩
theorem RVs.two {f : List Addr} {H : Hp} {v w : Val} {xs : List V} (h : RVs G f H [v, w] xs) : ∃ x y, xs = [x, y] ∧ RV G f H v x ∧ RV G f H w y := by
  obtain ⟨x, r, rfl, h1, h2⟩ := h
  obtain ⟨y, rfl, h3⟩ := h2.one
  exact ⟨x, y, rfl, h1, h3⟩
theorem bl_len (hK : X.K = G.K) : CallR X (.builtin "len") (rBl G lenB) := by
  intro pins s σ H xs us Q I r h
  obtain ⟨f, S, vs, w, S', rs, rv, e, k⟩ := h
  match vs, e with
  | [v], e =>
    obtain ⟨x, rfl, h1⟩ := rv.one
    have seq : (match seqOf S v with
      | some xs => R.ok (.int xs.length) S
      | none => .bad) = R.ok w S' → wpAny (model X.prog X.w) X.A (call (.builtin "len") us) (EP X pins σ Q) X.xe s := by
      intro e
      cases q : seqOf S v with
      | none => rw [q] at e; cases e
      | some ws =>
        rw [q] at e
        obtain ⟨rfl, rfl⟩ := ok_inj e
        obtain ⟨a, xs, rfl, hv, ht⟩ := seq_at rs h1 q
        refine call_len pins s σ H _ us Q I r ⟨.ref a, xs.length, rfl, ?_, ?_⟩
        · rcases ht with ⟨_, ht⟩ | ⟨_, ht⟩
          · exact .inr ⟨xs, hK ▸ ht, rfl⟩
          · exact .inl ⟨xs, hK ▸ ht, rfl⟩
        · rw [← hv.len]
          exact k.here rs rfl
    cases v with
    | str z =>
      cases h1
      obtain ⟨hl, e⟩ := chk_eq e
      obtain ⟨rfl, rfl⟩ := ok_inj e
      exact call_len pins s σ H _ us Q I r ⟨.str z, z.length, rfl, ⟨line_le hl, rfl⟩, k.here rs rfl⟩
    | _ => exact seq e
theorem bl_int : CallR X (.type "int") (rBl G intB) := by
  intro pins s σ H xs us Q I r h
  obtain ⟨f, S, vs, w, S', rs, rv, e, k⟩ := h
  match vs, e with
  | [v], e =>
    obtain ⟨x, rfl, h1⟩ := rv.one
    cases v with
    | int i =>
      cases h1
      obtain ⟨rfl, rfl⟩ := ok_inj e
      exact call_int1 pins s σ H _ us Q I r (.inl ⟨i, rfl, k.here rs rfl⟩)
    | bl b =>
      cases h1
      obtain ⟨rfl, rfl⟩ := ok_inj e
      exact call_int1 pins s σ H _ us Q I r (.inr ⟨b, rfl, k.here rs rfl⟩)
    | _ => cases e
theorem bl_abs : CallR X (.builtin "abs") (rBl G absB) := by
  intro pins s σ H xs us Q I r h
  obtain ⟨f, S, vs, w, S', rs, rv, e, k⟩ := h
  match vs, e with
  | [v], e =>
    obtain ⟨x, rfl, h1⟩ := rv.one
    cases v with
    | int i =>
      cases h1
      obtain ⟨rfl, rfl⟩ := ok_inj e
      exact call_abs pins s σ H _ us Q I r ⟨i, rfl, k.here rs rfl⟩
    | _ => cases e
theorem ints_ok {f : List Addr} {H : Hp} {S : Store} {v : Val} {x : V} {is : List Int} (r : RS G f H S) (h : RV G f H v x) (e : intsOf S v = some is) : ∃ a, x = .ref a ∧ SqL G.K H a (is.map V.int) := by
  unfold intsOf at e
  by_cases ht : isTup v = true
  · rw [if_pos ht] at e
    cases e
  · rw [if_neg ht] at e
    cases q : seqOf S v with
    | none => rw [q] at e; cases e
    | some vs =>
      rw [q] at e
      obtain ⟨a, xs, rfl, hv, hs⟩ := seq_at r h q
      rw [hv.ints e] at hs
      rcases hs with ⟨z, _⟩ | ⟨_, hs⟩
      · exact absurd z ht
      · exact ⟨a, rfl, hs⟩
theorem bools_ok {f : List Addr} {H : Hp} {S : Store} {v : Val} {x : V} {is : List Bool} (r : RS G f H S) (h : RV G f H v x) (e : boolsOf S v = some is) : ∃ a, x = .ref a ∧ SqL G.K H a (is.map V.bl) := by
  unfold boolsOf at e
  by_cases ht : isTup v = true
  · rw [if_pos ht] at e
    cases e
  · rw [if_neg ht] at e
    cases q : seqOf S v with
    | none => rw [q] at e; cases e
    | some vs =>
      rw [q] at e
      obtain ⟨a, xs, rfl, hv, hs⟩ := seq_at r h q
      rw [hv.bools e] at hs
      rcases hs with ⟨z, _⟩ | ⟨_, hs⟩
      · exact absurd z ht
      · exact ⟨a, rfl, hs⟩
theorem fold_max (xs : List Int) : ∀ x : Int, (xs.foldl (fun a b => if b > a then b else a) x) ∈ x :: xs ∧ ∀ y ∈ x :: xs, y ≤ xs.foldl (fun a b => if b > a then b else a) x := by
  induction xs with
  | nil => intro x; simp
  | cons z zs ih =>
    intro x
    rw [List.foldl_cons]
    obtain ⟨h1, h2⟩ := ih (if z > x then z else x)
    refine ⟨?_, fun y hy => ?_⟩
    · rcases List.mem_cons.mp h1 with h | h
      · rw [h]
        split <;> simp
      · simp [h]
    · have h3 := h2 _ List.mem_cons_self
      have h4 : x ≤ (if z > x then z else x) ∧ z ≤ (if z > x then z else x) := by split <;> omega
      rcases List.mem_cons.mp hy with rfl | hy
      · omega
      · rcases List.mem_cons.mp hy with rfl | hy
        · omega
        · exact h2 y (List.mem_cons_of_mem _ hy)
theorem fold_min (xs : List Int) : ∀ x : Int, (xs.foldl (fun a b => if b < a then b else a) x) ∈ x :: xs ∧ ∀ y ∈ x :: xs, xs.foldl (fun a b => if b < a then b else a) x ≤ y := by
  induction xs with
  | nil => intro x; simp
  | cons z zs ih =>
    intro x
    rw [List.foldl_cons]
    obtain ⟨h1, h2⟩ := ih (if z < x then z else x)
    refine ⟨?_, fun y hy => ?_⟩
    · rcases List.mem_cons.mp h1 with h | h
      · rw [h]
        split <;> simp
      · simp [h]
    · have h3 := h2 _ List.mem_cons_self
      have h4 : x ≥ (if z < x then z else x) ∧ z ≥ (if z < x then z else x) := by split <;> omega
      rcases List.mem_cons.mp hy with rfl | hy
      · omega
      · rcases List.mem_cons.mp hy with rfl | hy
        · omega
        · exact h2 y (List.mem_cons_of_mem _ hy)
theorem maxIs_ok {is : List Int} {m : Int} (e : maxIs is = some m) : 0 < is.length ∧ ∀ n, n ∈ is → (∀ y ∈ is, y ≤ n) → n = m := by
  cases is with
  | nil => cases e
  | cons x xs =>
    obtain ⟨h1, h2⟩ := fold_max xs x
    have e' := Option.some.inj e
    refine ⟨by simp, fun n hn hy => ?_⟩
    have h3 := hy _ h1
    have h4 := h2 n hn
    rw [e'] at h3 h4
    omega
theorem minIs_ok {is : List Int} {m : Int} (e : minIs is = some m) : 0 < is.length ∧ ∀ n, n ∈ is → (∀ y ∈ is, n ≤ y) → n = m := by
  cases is with
  | nil => cases e
  | cons x xs =>
    obtain ⟨h1, h2⟩ := fold_min xs x
    have e' := Option.some.inj e
    refine ⟨by simp, fun n hn hy => ?_⟩
    have h3 := hy _ h1
    have h4 := h2 n hn
    rw [e'] at h3 h4
    omega
theorem bl_max (hK : X.K = G.K) (hc : X.calm = true) : CallR X (.builtin "max") (rBl G maxB) := by
  intro pins s σ H xs us Q I r h
  obtain ⟨f, S, vs, w, S', rs, rv, e, k⟩ := h
  match vs, e with
  | [v1, v2], e =>
    obtain ⟨x, y, rfl, h1, h2⟩ := rv.two
    obtain ⟨e1, rfl⟩ := ofO_eq e
    cases v1 with
    | int i =>
      cases v2 with
      | int j =>
        cases h1
        cases h2
        have e' : Val.int (if j > i then j else i) = w := Option.some.inj e1
        subst e'
        exact call_max2 hc pins s σ H _ us Q I r ⟨i, j, rfl, k.here rs rfl⟩
      | _ => cases e1
    | _ => cases v2 <;> cases e1
  | [v], e =>
    obtain ⟨x, rfl, h1⟩ := rv.one
    obtain ⟨e1, rfl⟩ := ofO_eq e
    unfold max1 at e1
    cases q : intsOf S' v with
    | none => rw [q] at e1; cases e1
    | some is =>
      rw [q] at e1
      obtain ⟨m, em, rfl⟩ := Option.map_eq_some_iff.mp e1
      obtain ⟨a, rfl, hs⟩ := ints_ok rs h1 q
      obtain ⟨z1, z2⟩ := maxIs_ok em
      refine cr_max hc pins s σ H _ us Q I r ⟨a, is, rfl, hK ▸ hs, z1, fun n hn hy => ?_⟩
      rw [z2 n hn hy]
      exact k.here rs rfl
theorem cr_minT (hc : X.calm = true) (hu : X.A.units + 1 < cLine) : CallR X (.builtin "min") (fun vs H Q => ∃ (a : Addr) (zs : List V) (ks : List (List Int)), vs = [.ref a] ∧ SqL X.K H a zs ∧ zs ≠ [] ∧ ks.length = zs.length ∧ (∀ (i : Nat) (z : V) (k : List Int), zs[i]? = some z → ks[i]? = some k → ∃ p, z = .ref p ∧ SqT X.K H p (k.map V.int)) ∧
    ∀ z, zs[argBest (fun i j => HT.lexLt (ks.getD i []) (ks.getD j [])) (zs.length - 1)]? = some z → Q z H) := by
  intro pins s σ H xs us Q I r h
  obtain ⟨a, zs, ks, rfl, hs, hne, hlen, hk, hQ⟩ := h
  obtain ⟨its, rv, hl, _⟩ := I.list hs
  rw [Vals.ref1 r]
  have hn : its.length = zs.length := rv.length.symm
  have hpos : 0 < zs.length := List.length_pos_iff.mpr hne
  refine call_min_walkH (PySem.W.iter_listW (A := X.A.in1) (I.ok.hd hc) hl.isList fun s₂ e W st hfp hw hkp => ?_)
  refine ⟨_, _, _, _, _, _, _, s.heap, (fun i j => HT.lexLt (ks.getD i []) (ks.getD j [])), rfl, W, st, hfp, by rw [List.size_toArray, hn]; exact hpos, hw, hkp, fun i j vi vj s' Q' E' hkeep hi hj hq => ?_, fun v s' hP m => ?_⟩
  · have item : ∀ (i : Nat) (v : Value), its.toArray[i]? = some v → ∃ p, v = .ref p ∧ ∃ jts : List Value, IsTup s'.heap p jts.toArray ∧ IntsAre jts.toArray.toList (ks.getD i []) := by
      intro i v hv
      have hv : its[i]? = some v := by simpa using hv
      have hil : i < its.length := (List.getElem?_eq_some_iff.mp hv).1
      obtain ⟨z, hz⟩ : ∃ z, zs[i]? = some z := ⟨zs[i], List.getElem?_eq_getElem (by omega)⟩
      obtain ⟨k, hkk⟩ : ∃ k, ks[i]? = some k := ⟨ks[i], List.getElem?_eq_getElem (by omega)⟩
      obtain ⟨p, rfl, ht⟩ := hk i z k hz hkk
      obtain ⟨u, hu2, ru⟩ := rv.get hz
      rw [hv] at hu2
      cases hu2
      obtain rfl : v = Value.ref p := ru
      obtain ⟨jts, rj, pj, _⟩ := I.tuple ht
      refine ⟨p, rfl, jts, ?_, ?_⟩
      · obtain ⟨o, ho, hc2, n, hd⟩ := pj
        exact ⟨o, hkeep _ _ ho, hc2, n, hd⟩
      · rw [List.getD_eq_getElem?_getD, hkk]
        exact intsAre_of rj
    obtain ⟨p, rfl, j1, t1, i1⟩ := item i vi hi
    obtain ⟨q, rfl, j2, t2, i2⟩ := item j vj hj
    exact (HT.lt_tupInts t1 t2 i1 i2 (by show X.A.units + 1 < cLine; exact hu) hq : wpAny (model X.prog X.w) X.A.in1 (compareOp .Lt (.ref p) (.ref q)) Q' E' s')
  · obtain ⟨h', tk, rfl, hk'⟩ := PySem.W.moved_old e rfl m
    have hv : its[argBest (fun i j => HT.lexLt (ks.getD i []) (ks.getD j [])) (its.toArray.size - 1)]? = some v := by simpa using hP
    rw [List.size_toArray, hn] at hv
    have hil := (List.getElem?_eq_some_iff.mp hv).1
    obtain ⟨z, hz⟩ : ∃ z, zs[argBest (fun i j => HT.lexLt (ks.getD i []) (ks.getD j [])) (zs.length - 1)]? = some z := ⟨_, List.getElem?_eq_getElem (by omega)⟩
    obtain ⟨u, hu2, ru⟩ := rv.get hz
    rw [hv] at hu2
    cases hu2
    exact ⟨z, H, I.kept hk', ru, hQ z hz⟩
theorem ti_ok {f : List Addr} {H : Hp} {v : Val} {x : V} (h : RV G f H v x) (e : isTI v = true) : ∃ p, x = .ref p ∧ SqT G.K H p ((tiOf v).map V.int) := by
  cases v with
  | tup ws =>
    obtain ⟨a, xs, rfl, ht, hv⟩ := h
    have e : (ws.mapM intOf).isSome = true := e
    obtain ⟨is, hi⟩ := Option.isSome_iff_exists.mp e
    have := hv.ints hi
    subst this
    refine ⟨a, rfl, ?_⟩
    show SqT G.K H a (((ws.mapM intOf).getD []).map V.int)
    rw [hi]
    exact ht.sq
  | _ => cases e
theorem bl_min (hK : X.K = G.K) (hc : X.calm = true) (hu : X.A.units + 65 < cLine) : CallR X (.builtin "min") (rBl G minB) := by
  intro pins s σ H xs us Q I r h
  obtain ⟨f, S, vs, w, S', rs, rv, e, k⟩ := h
  match vs, e with
  | [v1, v2], e =>
    obtain ⟨x, y, rfl, h1, h2⟩ := rv.two
    obtain ⟨e1, rfl⟩ := ofO_eq e
    cases v1 with
    | int i =>
      cases v2 with
      | int j =>
        cases h1
        cases h2
        have e' : Val.int (if j < i then j else i) = w := Option.some.inj e1
        subst e'
        exact call_min2 hc pins s σ H _ us Q I r ⟨i, j, rfl, k.here rs rfl⟩
      | _ => cases e1
    | _ => cases v2 <;> cases e1
  | [v], e =>
    obtain ⟨x, rfl, h1⟩ := rv.one
    obtain ⟨e1, rfl⟩ := ofO_eq e
    unfold min1 at e1
    cases q : intsOf S' v with
    | none =>
      rw [q] at e1
      simp only at e1
      by_cases ht : isTup v = true
      · rw [if_pos ht] at e1; cases e1
      · rw [if_neg ht] at e1
        cases q2 : seqOf S' v with
        | none => rw [q2] at e1; cases e1
        | some zs =>
          rw [q2] at e1
          have e1 : minT zs = some w := e1
          obtain ⟨a, xs, rfl, hv, hs⟩ := seq_at rs h1 q2
          have hs : SqL G.K H a xs := by
            rcases hs with ⟨t, _⟩ | ⟨_, hs⟩
            · exact absurd t ht
            · exact hs
          cases zs with
          | nil => cases e1
          | cons z zr =>
            have e1 : (if (z :: zr).all isTI = true then some (zr.foldl (fun a y => if HT.lexLt (tiOf y) (tiOf a) then y else a) z) else none) = some w := e1
            by_cases hall : (z :: zr).all isTI = true
            · rw [if_pos hall] at e1
              have hfold := PySem.W.argBest_fold (fun a y => HT.lexLt (tiOf a) (tiOf y)) Val.non z zr zr.length (Nat.le_refl _)
              rw [List.take_length] at hfold
              have hl := hv.len
              refine cr_minT hc (by omega) pins s σ H _ us Q I r ⟨a, xs, (z :: zr).map tiOf, rfl, hK ▸ hs, ?_, by rw [List.length_map, hl], fun i x' kk hx hkk => ?_, fun x' hx => ?_⟩
              · intro q3
                rw [q3] at hl
                cases hl
              · rw [List.getElem?_map] at hkk
                obtain ⟨vv, hvv, rfl⟩ := Option.map_eq_some_iff.mp hkk
                obtain ⟨x2, hx2, rx2⟩ := hv.get hvv
                rw [hx] at hx2
                cases hx2
                rw [hK]
                exact ti_ok rx2 (List.all_eq_true.mp hall _ (List.mem_of_getElem? hvv))
              · have hbt : (fun i j => HT.lexLt (((z :: zr).map tiOf).getD i []) (((z :: zr).map tiOf).getD j [])) = fun i j => HT.lexLt (tiOf ((z :: zr).getD i .non)) (tiOf ((z :: zr).getD j .non)) := by
                  have hg : ∀ n, ((z :: zr).map tiOf).getD n [] = tiOf ((z :: zr).getD n .non) := fun n => by
                    rw [List.getD_eq_getElem?_getD, List.getD_eq_getElem?_getD, List.getElem?_map]
                    cases (z :: zr)[n]? <;> rfl
                  funext i j
                  rw [hg, hg]
                have hlen2 : xs.length - 1 = zr.length := by rw [← hl]; simp
                rw [hbt, hlen2] at hx
                obtain ⟨hle, hval⟩ := hfold
                have hlt : argBest (fun i j => HT.lexLt (tiOf ((z :: zr).getD i .non)) (tiOf ((z :: zr).getD j .non))) zr.length < (z :: zr).length := by rw [List.length_cons]; exact Nat.lt_succ_of_le hle
                have hvv := List.getElem?_eq_getElem hlt
                obtain ⟨x2, hx2, rx2⟩ := hv.get hvv
                rw [hx] at hx2
                cases hx2
                have hw : (z :: zr)[argBest (fun i j => HT.lexLt (tiOf ((z :: zr).getD i .non)) (tiOf ((z :: zr).getD j .non))) zr.length] = w := by
                  rw [← Option.some.inj e1, ← hval, List.getD_eq_getElem?_getD, List.getElem?_eq_getElem hlt]
                  rfl
                rw [hw] at rx2
                exact k.here rs rx2
            · rw [if_neg hall] at e1; cases e1
    | some is =>
      rw [q] at e1
      obtain ⟨m, em, rfl⟩ := Option.map_eq_some_iff.mp e1
      obtain ⟨a, rfl, hs⟩ := ints_ok rs h1 q
      obtain ⟨z1, z2⟩ := minIs_ok em
      refine cr_min hc pins s σ H _ us Q I r ⟨a, is, rfl, hK ▸ hs, z1, fun n hn hy => ?_⟩
      rw [z2 n hn hy]
      exact k.here rs rfl
theorem bl_sum (hK : X.K = G.K) (hc : X.calm = true) : CallR X (.builtin "sum") (rBl G sumB) := by
  intro pins s σ H xs us Q I r h
  obtain ⟨f, S, vs, w, S', rs, rv, e, k⟩ := h
  match vs, e with
  | [v], e =>
    obtain ⟨x, rfl, h1⟩ := rv.one
    simp only [sumB] at e
    cases q : intsOf S v with
    | none => rw [q] at e; cases e
    | some is =>
      rw [q] at e
      obtain ⟨rfl, rfl⟩ := ok_inj e
      obtain ⟨a, rfl, hs⟩ := ints_ok rs h1 q
      exact cr_sum hc pins s σ H _ us Q I r ⟨a, is, rfl, hK ▸ hs, k.here rs rfl⟩
theorem bl_all (hK : X.K = G.K) (hc : X.calm = true) : CallR X (.builtin "all") (rBl G allB) := by
  intro pins s σ H xs us Q I r h
  obtain ⟨f, S, vs, w, S', rs, rv, e, k⟩ := h
  match vs, e with
  | [v], e =>
    obtain ⟨x, rfl, h1⟩ := rv.one
    simp only [allB] at e
    cases q : boolsOf S v with
    | none => rw [q] at e; cases e
    | some is =>
      rw [q] at e
      obtain ⟨rfl, rfl⟩ := ok_inj e
      obtain ⟨a, rfl, hs⟩ := bools_ok rs h1 q
      exact cr_all hc pins s σ H _ us Q I r ⟨a, is, rfl, hK ▸ hs, k.here rs rfl⟩
theorem bl_any (hK : X.K = G.K) (hc : X.calm = true) : CallR X (.builtin "any") (rBl G anyB) := by
  intro pins s σ H xs us Q I r h
  obtain ⟨f, S, vs, w, S', rs, rv, e, k⟩ := h
  match vs, e with
  | [v], e =>
    obtain ⟨x, rfl, h1⟩ := rv.one
    simp only [anyB] at e
    cases q : boolsOf S v with
    | none => rw [q] at e; cases e
    | some is =>
      rw [q] at e
      obtain ⟨rfl, rfl⟩ := ok_inj e
      obtain ⟨a, rfl, hs⟩ := bools_ok rs h1 q
      exact cr_any hc pins s σ H _ us Q I r ⟨a, is, rfl, hK ▸ hs, k.here rs rfl⟩
theorem insI_perm (x : Int) : ∀ ys, (insI x ys).Perm (x :: ys)
  | [] => .refl _
  | y :: ys => by
    unfold insI
    split
    · exact .refl _
    · exact ((insI_perm x ys).cons y).trans (.swap x y ys)
theorem sortI_perm : ∀ xs, (sortI xs).Perm xs
  | [] => .refl _
  | x :: xs => (insI_perm x _).trans ((sortI_perm xs).cons x)
theorem insI_sorted (x : Int) : ∀ ys, ys.Pairwise (· ≤ ·) → (insI x ys).Pairwise (· ≤ ·)
  | [], _ => by simp [insI]
  | y :: ys, h => by
    unfold insI
    have h' := List.pairwise_cons.mp h
    split
    · refine List.pairwise_cons.mpr ⟨fun z hz => ?_, h⟩
      rcases List.mem_cons.mp hz with rfl | hz
      · assumption
      · have := h'.1 z hz
        omega
    · refine List.pairwise_cons.mpr ⟨fun z hz => ?_, insI_sorted x ys h'.2⟩
      have := (insI_perm x ys).mem_iff.mp hz
      rcases List.mem_cons.mp this with rfl | hz
      · omega
      · exact h'.1 z hz
theorem sortI_sorted : ∀ xs, (sortI xs).Pairwise (· ≤ ·)
  | [] => List.Pairwise.nil
  | x :: xs => insI_sorted x _ (sortI_sorted xs)
theorem sorted_same : ∀ {a b : List Int}, a.Perm b → a.Pairwise (· ≤ ·) → b.Pairwise (· ≤ ·) → a = b
  | [], b, hp, _, _ => (List.Perm.nil_eq hp)
  | x :: a, [], hp, _, _ => by have := hp.length_eq; simp at this
  | x :: a, y :: b, hp, ha, hb => by
    have ha' := List.pairwise_cons.mp ha
    have hb' := List.pairwise_cons.mp hb
    have e : x = y := by
      have h1 : x ∈ y :: b := hp.mem_iff.mp List.mem_cons_self
      have h2 : y ∈ x :: a := hp.mem_iff.mpr List.mem_cons_self
      rcases List.mem_cons.mp h1 with h1 | h1
      · exact h1
      · rcases List.mem_cons.mp h2 with h2 | h2
        · exact h2.symm
        · have := hb'.1 x h1
          have := ha'.1 y h2
          omega
    subst e
    rw [sorted_same (List.Perm.cons_inv hp) ha'.2 hb'.2]
theorem bl_sorted (hK : X.K = G.K) (m : Bool) : CallR X (.builtin "sorted") (rBl G (sortedB m)) := by
  intro pins s σ H xs us Q I r h
  obtain ⟨f, S, vs, w, S', rs, rv, e, k⟩ := h
  match vs, e with
  | [v], e =>
    obtain ⟨x, rfl, h1⟩ := rv.one
    simp only [sortedB] at e
    cases q : intsOf S v with
    | none => rw [q] at e; cases e
    | some is =>
      rw [q] at e
      obtain ⟨a, rfl, hs⟩ := ints_ok rs h1 q
      refine cr_sortedI pins s σ H _ us Q I r ⟨a, is, rfl, hK ▸ hs, fun ns' p hp hw hn => ?_⟩
      rw [sorted_same (hp.trans (sortI_perm is).symm) hw (sortI_sorted is)]
      obtain ⟨f', x', r', h'⟩ := new_list rs hn (RVs.ofInts (sortI is)) e
      exact k _ _ _ x' r' h'
theorem bl_tuple (hK : X.K = G.K) : CallR X (.type "tuple") (rBl G tupleB) := by
  intro pins s σ H xs us Q I r h
  obtain ⟨f, S, vs, w, S', rs, rv, e, k⟩ := h
  match vs, e with
  | [v], e =>
    obtain ⟨x, rfl, h1⟩ := rv.one
    simp only [tupleB] at e
    cases q : seqOf S v with
    | none => rw [q] at e; cases e
    | some ws =>
      rw [q] at e
      obtain ⟨rfl, rfl⟩ := ok_inj e
      obtain ⟨a, xs, rfl, hv, ht⟩ := seq_at rs h1 q
      refine call_tuple_of pins s σ H _ us Q I r ⟨a, xs, rfl, ?_⟩
      rcases ht with ⟨t, ht⟩ | ⟨_, ht⟩
      · refine .inr ⟨hK ▸ ht, ?_⟩
        cases v with
        | tup zs =>
          cases q
          exact k.here rs h1
        | _ => cases t
      · refine .inl ⟨hK ▸ ht, fun l hl => ?_⟩
        obtain ⟨x', r', h'⟩ := new_tup rs hl hv
        exact k _ _ _ x' r' h'
theorem bl_list (hK : X.K = G.K) (m : Bool) : CallR X (.type "list") (rBl G (listB m)) := by
  intro pins s σ H xs us Q I r h
  obtain ⟨f, S, vs, w, S', rs, rv, e, k⟩ := h
  match vs, e with
  | [v], e =>
    obtain ⟨x, rfl, h1⟩ := rv.one
    simp only [listB] at e
    cases q : seqOf S v with
    | none => rw [q] at e; cases e
    | some ws =>
      rw [q] at e
      obtain ⟨a, xs, rfl, hv, ht⟩ := seq_at rs h1 q
      refine call_list_of pins s σ H _ us Q I r ⟨a, xs, rfl, ?_, fun l hl => ?_⟩
      · rcases ht with ⟨_, ht⟩ | ⟨_, ht⟩
        · exact .inr (hK ▸ ht)
        · exact .inl (hK ▸ ht)
      · obtain ⟨f', x', r', h'⟩ := new_list rs hl hv e
        exact k _ _ _ x' r' h'
theorem bl_str : CallR X (.type "str") (rBl G strB) := by
  intro pins s σ H xs us Q I r h
  obtain ⟨f, S, vs, w, S', rs, rv, e, k⟩ := h
  match vs, e with
  | [v], e =>
    obtain ⟨x, rfl, h1⟩ := rv.one
    cases v with
    | int i =>
      cases h1
      obtain ⟨hc, e⟩ := chk_eq e
      obtain ⟨rfl, rfl⟩ := ok_inj e
      exact call_str_int pins s σ H _ us Q I r ⟨i, rfl, hc, k.here rs rfl⟩
    | _ => cases e
theorem repr_seq (hK : X.K = G.K) (hg : X.A.guards = some []) (hu : X.A.units + 65 < cLine) {pins : List (Addr × Obj)} {s : Shared} {σ : L2.St} {H : Hp} {us : List Value} {Q : VK} {f : List Addr} {S S' : Store} {v w : Val} {x : V} {vs : List Val} {d : PyData} (I : L2.Inv X pins σ H s) (r : Vals [x] us) (rs : RS G f H S) (h1 : RV G f H v x)
    (e1 : seqOf S v = some vs) (e2 : datum S v = some d) (e : chk (d.showable = true ∧ d.shown.length ≤ 16000000) (R.ok (.str d.shown) S) = R.ok w S') (k : Wk G f H S' w Q) : wpAny (model X.prog X.w) X.A (call (.builtin "repr") us) (EP X pins σ Q) X.xe s := by
  obtain ⟨hc, e⟩ := chk_eq e
  obtain ⟨rfl, rfl⟩ := ok_inj e
  obtain ⟨a, xs, rfl, _, _⟩ := seq_at rs h1 e1
  obtain ⟨dp, hs⟩ := datum_ok rs h1 e2
  rw [Vals.ref1 r]
  obtain ⟨as, rd⟩ := Dp.reads I d (.ref a) (.ref a) (hK ▸ dp) rfl
  have hdep := SeqAt.depth_of_shaped hs
  exact repr_of_reads' rd hc.1 (PyData.noDict_hsm (PyData.hasDict_of_canLay _ (SeqAt.canLay_of_shaped hs))) hg (by omega) (fun _ _ e => e) (fun h' u tk hk => ⟨.str d.shown, H, I.kept hk, ⟨_, rfl⟩, k.here rs rfl⟩) (by rw [sizeLine_eq]; have := hc.2; omega)
theorem bl_repr (hK : X.K = G.K) (hg : X.A.guards = some []) (hu : X.A.units + 65 < cLine) : CallR X (.builtin "repr") (rBl G reprB) := by
  intro pins s σ H xs us Q I r h
  obtain ⟨f, S, vs, w, S', rs, rv, e, k⟩ := h
  match vs, e with
  | [v], e =>
    obtain ⟨x, rfl, h1⟩ := rv.one
    have go : (match seqOf S v, datum S v with
      | some _, some d => chk (d.showable = true ∧ d.shown.length ≤ 16000000) (.ok (.str d.shown) S)
      | _, _ => .bad) = R.ok w S' → wpAny (model X.prog X.w) X.A (call (.builtin "repr") us) (EP X pins σ Q) X.xe s := by
      intro e
      cases q1 : seqOf S v with
      | none => rw [q1] at e; cases e
      | some zs =>
        cases q2 : datum S v with
        | none => rw [q1, q2] at e; cases e
        | some d =>
          rw [q1, q2] at e
          exact repr_seq hK hg hu I r rs h1 q1 q2 e k
    cases v with
    | int i =>
      cases h1
      obtain ⟨hc, e⟩ := chk_eq e
      obtain ⟨rfl, rfl⟩ := ok_inj e
      exact SkE.call_repr_int pins s σ H _ us Q I r ⟨i, rfl, hc, k.here rs rfl⟩
    | _ => exact go e
end
end Ev

set_option Elab.async false
set_option linter.all false
set_option maxRecDepth 100000
set_option maxHeartbeats 4000000
/-! ### Methods of lists, stores, by values -/
namespace Ev
open PySem PySem.Spec PyProof.Rows L2
section
variable {G : Gx} {X : Cx}
def rBM (G : Gx) (m : Val → List Val → Store → R Val) : V → List V → Hp → VK → Prop := fun x xs H Q => ∃ f S ov vs v S', RS G f H S ∧ RV G f H ov x ∧ RVs G f H vs xs ∧ m ov vs S = .ok v S' ∧ Wk G f H S' v Q
theorem wr_list {f : List Addr} {H : Hp} {S : Store} {k : Nat} {a : Addr} {ws : List Val} {ys : List V} (r : RS G f H S) (ha : f[k]? = some a) (hv : RVs G f H ws ys) :
    Ext f H f (upd H a (.lst ys)) ∧ RS G f (upd H a (.lst ys)) (S.set k (.lst ws)) :=
  have x := Ext.write (o := .lst ys) r (List.mem_of_getElem? ha)
  ⟨x, r.write ha ⟨ys, upd_same, hv.ext x⟩⟩
theorem bmV_list {f : BM} (hf : f ≠ .index) {o v : Val} {vs : List Val} {S S' : Store} (e : bmV f o vs S = .ok v S') : ∃ k xs, o = .ref k ∧ S[k]? = some (.lst xs) ∧ bmL f k xs vs S = .ok v S' := by
  have e' : bmO f o vs S = R.ok v S' := by
    cases f with
    | index => exact absurd rfl hf
    | _ => exact e
  cases o with
  | ref k =>
    simp only [bmO] at e'
    cases q : S[k]? with
    | none => rw [q] at e'; cases e'
    | some c =>
      rw [q] at e'
      cases c with
      | lst xs => exact ⟨k, xs, rfl, q, e'⟩
      | _ => cases e'
  | _ => cases e'
section
variable {f : List Addr} {H : Hp} {S : Store}
theorem bm_append : MtR X "list.append" (rBM G (bmV .append)) := by
  intro pins s σ H x xs v us Q I rx rv h
  obtain ⟨f, S, ov, vs, w, S', r, h1, h2, e, k⟩ := h
  obtain ⟨n, zs, rfl, q, e⟩ := bmV_list (by intro z; cases z) e
  obtain ⟨a, rfl, ha⟩ := h1
  obtain ⟨ys, hy, hv⟩ := r.cell q ha
  match vs, e with
  | [y], e =>
    obtain ⟨hl, e⟩ := chk_eq e
    obtain ⟨rfl, rfl⟩ := ok_inj e
    obtain ⟨z, rfl, hz⟩ := h2.one
    obtain ⟨x', r'⟩ := wr_list r ha (hv.app (RVs.cons hz RVs.nil))
    exact mt_append pins s σ H _ _ v us Q I rx rv ⟨a, ys, z, rfl, rfl, hy, by rw [← hv.len]; exact Nat.lt_of_lt_of_le hl (by decide), k _ _ _ x' r' rfl⟩
theorem bm_pop : MtR X "list.pop" (rBM G (bmV .pop)) := by
  intro pins s σ H x xs v us Q I rx rv h
  obtain ⟨f, S, ov, vs, w, S', r, h1, h2, e, k⟩ := h
  obtain ⟨n, zs, rfl, q, e⟩ := bmV_list (by intro z; cases z) e
  obtain ⟨a, rfl, ha⟩ := h1
  obtain ⟨ys, hy, hv⟩ := r.cell q ha
  match vs, e with
  | [], e =>
    cases h2
    simp only [bmL] at e
    cases q2 : zs[zs.length - 1]? with
    | none => rw [q2] at e; cases e
    | some z =>
      rw [q2] at e
      obtain ⟨rfl, rfl⟩ := ok_inj e
      obtain ⟨zv, hz, rz⟩ := hv.get q2
      obtain ⟨x', r'⟩ := wr_list r ha hv.dropLast
      exact mt_pop pins s σ H _ _ v us Q I rx rv ⟨a, ys, zv, rfl, rfl, hy, by rw [← hv.len]; exact hz, k _ _ _ x' r' (rz.ext x')⟩
  | [i], e =>
    obtain ⟨z, rfl, hz⟩ := h2.one
    cases i with
    | int i =>
      cases hz
      obtain ⟨hb, e⟩ := chk_eq e
      cases q2 : ixN zs.length i with
      | none => rw [q2] at e; cases e
      | some j =>
        rw [q2] at e
        simp only at e
        cases q3 : zs[j]? with
        | none => rw [q3] at e; cases e
        | some y =>
          rw [q3] at e
          obtain ⟨rfl, rfl⟩ := ok_inj e
          obtain ⟨zv, hz, rz⟩ := hv.get q3
          obtain ⟨x', r'⟩ := wr_list r ha (hv.eraseIdx j)
          obtain ⟨s1, _⟩ := ixN_seq q2
          exact mt_popAt pins s σ H _ _ v us Q I rx rv ⟨a, ys, i, j, zv, rfl, rfl, hy, by omega, by omega, by rw [← hv.len]; exact s1, hz, k _ _ _ x' r' (rz.ext x')⟩
    | _ => cases e
  | a :: _ :: _, e => cases a <;> cases e
theorem bm_reverse : MtR X "list.reverse" (rBM G (bmV .reverse)) := by
  intro pins s σ H x xs v us Q I rx rv h
  obtain ⟨f, S, ov, vs, w, S', r, h1, h2, e, k⟩ := h
  obtain ⟨n, zs, rfl, q, e⟩ := bmV_list (by intro z; cases z) e
  obtain ⟨a, rfl, ha⟩ := h1
  obtain ⟨ys, hy, hv⟩ := r.cell q ha
  match vs, e with
  | [], e =>
    cases h2
    obtain ⟨rfl, rfl⟩ := ok_inj e
    obtain ⟨x', r'⟩ := wr_list r ha hv.rev
    exact mt_reverse pins s σ H _ _ v us Q I rx rv ⟨a, ys, rfl, rfl, hy, k _ _ _ x' r' rfl⟩
theorem bm_clear : MtR X "list.clear" (rBM G (bmV .clear)) := by
  intro pins s σ H x xs v us Q I rx rv h
  obtain ⟨f, S, ov, vs, w, S', r, h1, h2, e, k⟩ := h
  obtain ⟨n, zs, rfl, q, e⟩ := bmV_list (by intro z; cases z) e
  obtain ⟨a, rfl, ha⟩ := h1
  obtain ⟨ys, hy, hv⟩ := r.cell q ha
  match vs, e with
  | [], e =>
    cases h2
    obtain ⟨rfl, rfl⟩ := ok_inj e
    obtain ⟨x', r'⟩ := wr_list r ha (RVs.nil (G := G) (f := f) (H := H))
    exact mt_clear pins s σ H _ _ v us Q I rx rv ⟨a, ys, rfl, rfl, hy, k _ _ _ x' r' rfl⟩
theorem bm_insert : MtR X "list.insert" (rBM G (bmV .insert)) := by
  intro pins s σ H x xs v us Q I rx rv h
  obtain ⟨f, S, ov, vs, w, S', r, h1, h2, e, k⟩ := h
  obtain ⟨n, zs, rfl, q, e⟩ := bmV_list (by intro z; cases z) e
  obtain ⟨a, rfl, ha⟩ := h1
  obtain ⟨ys, hy, hv⟩ := r.cell q ha
  match vs, e with
  | [i, y], e =>
    obtain ⟨z, z2, rfl, hz, hz2⟩ := h2.two
    cases i with
    | int i =>
      cases hz
      obtain ⟨hl, e⟩ := chk_eq e
      obtain ⟨rfl, rfl⟩ := ok_inj e
      obtain ⟨x', r'⟩ := wr_list r ha (((hv.take i.toNat).app (RVs.cons hz2 RVs.nil)).app (hv.drop i.toNat))
      exact mt_insert pins s σ H _ _ v us Q I rx rv ⟨a, ys, i, z2, rfl, rfl, hy, by rw [← hv.len]; exact Nat.lt_of_lt_of_le hl.1 (by decide), hl.2.1, by omega, k _ _ _ x' r' rfl⟩
    | _ => cases e
  | [], e => cases e
  | [a], e => cases a <;> cases e
  | a :: _ :: _ :: _, e => cases a <;> cases e
theorem ext_at {S : Store} {f : List Addr} {H : Hp} (r : RS G f H S) {k : Nat} {w : Val} {z : V} {zs : List Val} (h : RV G f H w z) (e : extOf k S w = some zs) : ∃ b ys, z = .ref b ∧ H b = some (.lst ys) ∧ RVs G f H zs ys := by
  cases w with
  | fl ws =>
    cases e
    obtain ⟨b, ys, rfl, hb, _, hv⟩ := h
    exact ⟨b, ys, rfl, hb, hv⟩
  | ref j =>
    obtain ⟨b, rfl, hb⟩ := h
    simp only [extOf] at e
    by_cases hj : j = k
    · rw [if_pos hj] at e
      cases e
    · rw [if_neg hj] at e
      cases q : S[j]? with
      | none => rw [q] at e; cases e
      | some c =>
        rw [q] at e
        cases c with
        | lst ws =>
          cases e
          obtain ⟨ys, h1, h2⟩ := r.cell q hb
          exact ⟨b, ys, rfl, h1, h2⟩
        | _ => cases e
  | _ => cases e
theorem bm_extend : MtR X "list.extend" (rBM G (bmV .extend)) := by
  intro pins s σ H x xs v us Q I rx rv h
  obtain ⟨f, S, ov, vs, w, S', r, h1, h2, e, k⟩ := h
  obtain ⟨n, zs, rfl, q, e⟩ := bmV_list (by intro z; cases z) e
  obtain ⟨a, rfl, ha⟩ := h1
  obtain ⟨ys, hy, hv⟩ := r.cell q ha
  match vs, e with
  | [y], e =>
    obtain ⟨z, rfl, hz⟩ := h2.one
    simp only [bmL] at e
    cases q2 : extOf n S y with
    | none => rw [q2] at e; cases e
    | some ws =>
      rw [q2] at e
      obtain ⟨hl, e⟩ := chk_eq e
      obtain ⟨rfl, rfl⟩ := ok_inj e
      obtain ⟨b, bs, rfl, hb, hbv⟩ := ext_at r hz q2
      obtain ⟨x', r'⟩ := wr_list r ha (hv.app hbv)
      exact mt_extend pins s σ H _ _ v us Q I rx rv ⟨a, b, ys, bs, rfl, rfl, hy, hb, by rw [← hv.len, ← hbv.len]; exact line_le hl, k _ _ _ x' r' rfl⟩
theorem findIdx_at {α : Type} {p : α → Bool} : ∀ {xs : List α} {j : Nat}, xs.findIdx? p = some j → ∃ z, xs[j]? = some z ∧ p z = true ∧ ∀ (m : Nat) (z' : α), m < j → xs[m]? = some z' → p z' = false := by
  intro xs j h
  obtain ⟨hj, h1, h2⟩ := List.findIdx?_eq_some_iff_getElem.mp h
  refine ⟨xs[j], List.getElem?_eq_getElem hj, h1, fun m z' hm hz => ?_⟩
  have h3 := h2 m hm
  obtain ⟨hl, rfl⟩ := List.getElem?_eq_some_iff.mp hz
  simpa using h3
theorem bm_index (hK : X.K = G.K) (hu : X.A.units + 65 < cLine) : MtR X "list.index" (rBM G (bmV .index)) := by
  intro pins s σ H x xs v us Q I rx rv h
  obtain ⟨f, S, ov, vs, w, S', r, h1, h2, e, k⟩ := h
  match vs, e with
  | [y], e =>
    obtain ⟨z, rfl, hz⟩ := h2.one
    have e : idxV ov y S = R.ok w S' := e
    unfold idxV at e
    cases q1 : datum S ov with
    | none => rw [q1] at e; cases e
    | some d =>
      cases q2 : datum S y with
      | none => rw [q1, q2] at e; cases d <;> cases e
      | some d2 =>
        rw [q1, q2] at e
        cases d with
        | list ds =>
          simp only at e
          cases q3 : idxD ds d2 with
          | none => rw [q3] at e; cases e
          | some j =>
            rw [q3] at e
            obtain ⟨rfl, rfl⟩ := ok_inj e
            obtain ⟨a1, a2⟩ := datum_ok r h1 q1
            obtain ⟨b1, b2⟩ := datum_ok r hz q2
            obtain ⟨zd, c1, c2, c3⟩ := findIdx_at q3
            cases a1 with
            | lst hs ha =>
              exact mt_indexD hu pins s σ H _ _ v us Q I rx rv ⟨_, z, d2, ds, j, zd, rfl, rfl, hK ▸ Dp.lst hs ha, hK ▸ b1, a2, b2, c1, c2, c3, k.here r rfl⟩
        | _ => cases e
theorem isLst_ty {x : V} {v : Val} (r : RS G f H S) (h : RV G f H v x) (e : isLst S v = true) : tyV G.K "list" x H := by
  cases v with
  | fl ws =>
    obtain ⟨b, ys, rfl, hb, _, hv⟩ := h
    exact .inl ⟨rfl, ys, SqL.of hb⟩
  | ref j =>
    obtain ⟨b, rfl, hb⟩ := h
    simp only [isLst] at e
    cases q : S[j]? with
    | none => rw [q] at e; cases e
    | some c =>
      rw [q] at e
      cases c with
      | lst ws =>
        obtain ⟨ys, h1, h2⟩ := r.cell q hb
        exact .inl ⟨rfl, ys, SqL.of h1⟩
      | _ => cases e
  | _ => cases e
/-- o[i] = v -/
def rSetV (G : Gx) : TSet := fun o i v H Q => ∃ f S ov iv vv S', RS G f H S ∧ RV G f H ov o ∧ RV G f H iv i ∧ RV G f H vv v ∧ setixV ov iv vv S = some S' ∧ ∀ H', Ext f H f H' → RS G f H' S' → Q H'
theorem set_V : PSet X (rSetV G) := by
  intro pins s σ H o i v ov iv u Q I ro ri rv h
  obtain ⟨f, S, o', i', v', S', r, h1, h2, h3, e, k⟩ := h
  cases o' with
  | ref n =>
    cases i' with
    | int j =>
      obtain ⟨a, rfl, ha⟩ := h1
      cases h2
      simp only [setixV] at e
      cases q : S[n]? with
      | none => rw [q] at e; cases e
      | some c =>
        rw [q] at e
        cases c with
        | lst xs =>
          simp only at e
          cases q2 : ixN xs.length j with
          | none => rw [q2] at e; cases e
          | some m =>
            rw [q2] at e
            cases e
            obtain ⟨ys, hy, hv⟩ := r.cell q ha
            obtain ⟨x', r'⟩ := wr_list r ha (hv.set h3 m)
            exact set_list pins s σ H _ _ v ov iv u Q I ro ri rv ⟨a, ys, j, m, rfl, rfl, hy, by rw [← hv.len]; exact q2, k _ x' r'⟩
        | _ => cases e
    | _ => cases e
  | _ => cases e
/-- x op= y -/
def rAugV (G : Gx) (op : BOp) : TIp := fun x y H Q => ∃ f S xv yv v S', RS G f H S ∧ RV G f H xv x ∧ RV G f H yv y ∧ augV op xv yv S = .ok v S' ∧ Wk G f H S' v Q
theorem aug_V (op : BOp) : PIp X op.op (rAugV G op) := by
  intro pins s σ H x y v u Q I rx ry h
  obtain ⟨f, S, xv, yv, w, S', r, h1, h2, e, k⟩ := h
  cases xv with
  | int i =>
    cases yv with
    | int j =>
      cases h1
      cases h2
      cases op with
      | add =>
        obtain ⟨rfl, rfl⟩ := ok_inj e
        exact iop_add pins s σ H _ _ v u Q I rx ry ⟨i, j, rfl, rfl, k.here r rfl⟩
      | sub =>
        obtain ⟨rfl, rfl⟩ := ok_inj e
        exact iop_sub pins s σ H _ _ v u Q I rx ry ⟨i, j, rfl, rfl, k.here r rfl⟩
      | mul =>
        obtain ⟨hc, e⟩ := chk_eq e
        obtain ⟨rfl, rfl⟩ := ok_inj e
        exact iop_mul pins s σ H _ _ v u Q I rx ry ⟨i, j, rfl, rfl, hc, k.here r rfl⟩
      | _ => cases e
    | _ => cases e
  | str a =>
    cases yv with
    | str b =>
      cases h1
      cases h2
      cases op with
      | add =>
        obtain ⟨hc, e⟩ := chk_eq e
        obtain ⟨rfl, rfl⟩ := ok_inj e
        exact iop_add_str pins s σ H _ _ v u Q I rx ry ⟨a, b, rfl, rfl, line_le hc, k.here r rfl⟩
      | _ => cases e
    | _ => cases e
  | _ => cases yv <;> cases e
/-- fields -/
theorem RFs.look (hs : ∀ a b : String, Str.ofString a = Str.ofString b → a = b) : ∀ {fs : List (String × Val)} {hs' : List (Str × V)} {g : String} {v : Val}, RFs G f H fs hs' → fs.lookup g = some v → ∃ x, hs'.lookup (Str.ofString g) = some x ∧ RV G f H v x
  | [], _, g, v, _, e => by cases e
  | (k, w) :: fs, hs', g, v, h, e => by
    obtain ⟨x, r, rfl, h1, h2⟩ := h
    rw [List.lookup_cons] at e ⊢
    by_cases hk : g = k
    · subst hk
      simp at e ⊢
      subst e
      exact h1
    · rw [show (g == k) = false from beq_eq_false_iff_ne.mpr hk] at e
      rw [show (Str.ofString g == Str.ofString k) = false from beq_eq_false_iff_ne.mpr fun z => hk (hs _ _ z)]
      exact RFs.look hs h2 e
theorem RFs.lookN (hs : ∀ a b : String, Str.ofString a = Str.ofString b → a = b) : ∀ {fs : List (String × Val)} {hs' : List (Str × V)} {g : String}, RFs G f H fs hs' → fs.lookup g = none → hs'.lookup (Str.ofString g) = none
  | [], _, g, h, _ => by cases h; rfl
  | (k, w) :: fs, hs', g, h, e => by
    obtain ⟨x, r, rfl, h1, h2⟩ := h
    rw [List.lookup_cons] at e ⊢
    by_cases hk : g = k
    · subst hk
      simp at e
    · rw [show (g == k) = false from beq_eq_false_iff_ne.mpr hk] at e
      rw [show (Str.ofString g == Str.ofString k) = false from beq_eq_false_iff_ne.mpr fun z => hk (hs _ _ z)]
      exact RFs.lookN hs h2 e
theorem RFs.put (hs : ∀ a b : String, Str.ofString a = Str.ofString b → a = b) {g : String} {v : Val} {x : V} (hv : RV G f H v x) : ∀ {fs : List (String × Val)} {hs' : List (Str × V)}, RFs G f H fs hs' → RFs G f H (putFs g v fs) (putF (Str.ofString g) x hs')
  | [], _, h => by
    cases h
    exact ⟨x, [], rfl, hv, rfl⟩
  | (k, w) :: fs, hs', h => by
    obtain ⟨y, r, rfl, h1, h2⟩ := h
    unfold putFs putF
    by_cases hk : k = g
    · subst hk
      rw [if_pos rfl, if_pos rfl]
      exact ⟨x, r, rfl, hv, h2⟩
    · rw [if_neg hk, if_neg (fun z => hk (hs _ _ z))]
      exact ⟨y, _, rfl, h1, RFs.put hs hv h2⟩
theorem RFs.len : ∀ {fs : List (String × Val)} {hs' : List (Str × V)}, RFs G f H fs hs' → fs.length = hs'.length
  | [], _, h => by cases h; rfl
  | (k, w) :: fs, hs', h => by
    obtain ⟨y, r, rfl, h1, h2⟩ := h
    simp [RFs.len h2]
theorem obj_at {x : V} {v : Val} {c : String} {fs : List (String × Val)} (r : RS G f H S) (h : RV G f H v x) (e : objOf S v = some (c, fs)) : ∃ a dx hs, x = .ref a ∧ H a = some (.ins (G.cls c) dx hs) ∧ RFs G f H fs hs := by
  cases v with
  | fo d gs =>
    cases e
    obtain ⟨a, dx, hs, rfl, ha, _, hf⟩ := h
    exact ⟨a, dx, hs, rfl, ha, hf⟩
  | ref k =>
    obtain ⟨a, rfl, ha⟩ := h
    simp only [objOf] at e
    cases q : S[k]? with
    | none => rw [q] at e; cases e
    | some d =>
      rw [q] at e
      cases d with
      | obj d gs =>
        cases e
        obtain ⟨dx, hs, h1, h2⟩ := r.cell q ha
        exact ⟨a, dx, hs, rfl, h1, h2⟩
      | _ => cases e
  | _ => cases e
end
end
theorem ofString_inj (a b : String) (h : Str.ofString a = Str.ofString b) : a = b := by
  rw [Str.ofString_eq_toList, Str.ofString_eq_toList] at h
  injection h with h
  have h2 : a.toList.map Char.toNat = b.toList.map Char.toNat := by simpa using congrArg Array.toList h
  have h3 : a.toList = b.toList := List.map_inj_right (fun x y q => Char.toNat_inj.mp q) |>.mp h2
  exact String.toList_inj.mp h3
end Ev

set_option Elab.async false
set_option linter.all false
set_option maxRecDepth 100000
set_option maxHeartbeats 4000000
/-! ### The check that a term is the text's -/
namespace Ev
open PySem PySem.Spec PyProof.Rows L2
/-- the names by slot, the scope, the names whose cells are the block's own -/
structure CC where
  N : List Str
  sc : Scope
  fnb : Str → Bool
def CC.blk (cc : CC) (scope : Scope) : CC := ⟨cc.N, relS scope cc.sc, fun x => scope.names.lookup x == some .cell⟩
/-- what calls may name -/
structure Tab where
  quals : List String
  tops : List String
  shs : List (String × Nat × List Str × Nat)
  meths : List (String × String × String)
  inits : List (String × String)
  clss : List String
def kindB (sc : Scope) (x : Str) (k : NameKind) : Bool := match sc.names.lookup x with
  | some k' => k' == k
  | none => false
def visB (sc : Scope) (x : Str) : Bool := kindB sc x .local || kindB sc x .cell || kindB sc x .free
def glB (sc : Scope) (x : Str) : Bool := kindB sc x .globalImplicit
def okN (x : Str) : Bool := !(x == ("__debug__" : Str)) && !(x == ("__classdict__" : Str)) && !(x == ("__name__" : Str))
def notStar : Expr → Bool
  | .Starred _ _ => false
  | _ => true
def notSuper : Expr → Bool
  | .Call (.Name id _) _ _ _ => !(id == ("super" : Str))
  | _ => true
def notSlice : Expr → Bool
  | .Slice _ _ _ _ => false
  | _ => true
def notSet : Expr → Bool
  | .Set _ _ _ => false
  | _ => true
def Blt.nm : Blt → String
  | .len => "len" | .int => "int" | .str => "str" | .repr => "repr" | .tuple => "tuple" | .list => "list" | .max => "max" | .min => "min" | .sum => "sum" | .sorted => "sorted" | .abs => "abs" | .all => "all" | .any => "any"
def BM.nm : BM → String
  | .append => "append" | .pop => "pop" | .extend => "extend" | .insert => "insert" | .index => "index" | .reverse => "reverse" | .clear => "clear" | .remove => "remove" | .count => "count"
def BM.ok : BM → Bool
  | .remove => false | .count => false | _ => true
/-- how many arguments a method takes -/
def BM.ar : BM → Nat → Bool
  | .append, n => n == 1 | .pop, n => n ≤ 1 | .extend, n => n == 1 | .insert, n => n == 2 | .index, n => n == 1 | .reverse, n => n == 0 | .clear, n => n == 0 | _, _ => false
def kwN : List Keyword → List Str
  | [] => []
  | k :: ks => (k.arg.getD Str.empty) :: kwN ks
def opB (o : Operator) (p : BOp) : Bool := match o, p with
  | .Add, .add => true | .Sub, .sub => true | .Mult, .mul => true | .FloorDiv, .fdiv => true | .Mod, .mod => true | .Pow, .pow => true | .BitAnd, .band => true | .BitOr, .bor => true | .LShift, .shl => true | .RShift, .shr => true
  | _, _ => false
theorem opB_eq {o : Operator} {p : BOp} (h : opB o p = true) : o = p.op := by
  cases o <;> cases p <;> first | rfl | cases h
def copB (o : CmpOp) (p : COp) : Bool := match o, p with
  | .Eq, .eq => true | .NotEq, .ne => true | .Lt, .lt => true | .LtE, .le => true | .Gt, .gt => true | .GtE, .ge => true | .Is, .is_ => true | .IsNot, .isnot => true | .In, .in_ => true | .NotIn, .notin => true
  | _, _ => false
theorem copB_eq {o : CmpOp} {p : COp} (h : copB o p = true) : o = p.op := by
  cases o <;> cases p <;> first | rfl | cases h
/-- a class in isinstance's second place -/
def ckTK (T : Tab) (cc : CC) : TK → Expr → Bool
  | .b n, .Name x _ => Str.ofString n == x && glB cc.sc x && okN x && ["int", "bool", "str", "list", "tuple", "dict"].contains n
  | .c n, .Name x _ => Str.ofString n == x && glB cc.sc x && okN x && T.clss.contains n
  | _, _ => false
def ckTKs (T : Tab) (cc : CC) : List TK → List Expr → Bool
  | [], [] => true
  | t :: ts, e :: es => ckTK T cc t e && ckTKs T cc ts es
  | _, _ => false
def ckTys (T : Tab) (cc : CC) (ts : List TK) (e : Expr) : Bool := match ts, e with
  | [t], .Name x p => ckTK T cc t (.Name x p)
  | t :: ts, .Tuple es _ _ => ckTKs T cc (t :: ts) es && es.length ≤ 100
  | _, _ => false
mutual
/-- a target of names; own: the slots that may be stored to -/
def ckTg (cc : CC) (ok : Nat → Bool) : Tg → Expr → Bool
  | .nm i, .Name x _ => decide (cc.N[i]? = some x) && ok i && (kindB cc.sc x .local || (kindB cc.sc x .cell && cc.fnb x))
  | .tup ts, .Tuple es _ _ => ckTgs cc ok ts es
  | _, _ => false
def ckTgs (cc : CC) (ok : Nat → Bool) : List Tg → List Expr → Bool
  | [], [] => true
  | t :: ts, e :: es => notStar e && ckTg cc ok t e && ckTgs cc ok ts es
  | _, _ => false
end
/-- a comprehension's own names -/
def ownN (N : List Str) : List Nat → List (Str × Nat)
  | [] => []
  | i :: is => (N.getD i Str.empty, i) :: ownN N is
mutual
def ckE (T : Tab) : E → CC → Expr → Bool
  | .v i, cc, e => match e with
    | .Name x _ => decide (cc.N[i]? = some x) && visB cc.sc x && okN x
    | _ => false
  | .i n, _, e => match e with
    | .Constant (.int m) _ _ => n == m
    | _ => false
  | .b t, _, e => match e with
    | .Constant (.bool m) _ _ => t == m
    | _ => false
  | .s x, _, e => match e with
    | .Constant (.str m) _ _ => Str.ofString x == m
    | _ => false
  | .n, _, e => match e with
    | .Constant .none _ _ => true
    | _ => false
  | .g y, cc, e => match e with
    | .Name x _ => Str.ofString y == x && glB cc.sc x && okN x
    | _ => false
  | .bin _ op a b, cc, e => match e with
    | .BinOp l o r _ => opB o op && ckE T a cc l && ckE T b cc r
    | _ => false
  | .neg a, cc, e => match e with
    | .UnaryOp .USub x _ => ckE T a cc x
    | _ => false
  | .not a, cc, e => match e with
    | .UnaryOp .Not x _ => ckE T a cc x
    | _ => false
  | .and a b, cc, e => match e with
    | .BoolOp .And [x, y] _ => ckE T a cc x && ckE T b cc y
    | .BoolOp .And (x :: y :: z :: r) p => ckE T a cc x && ckE T b cc (.BoolOp .And (y :: z :: r) p)
    | _ => false
  | .or a b, cc, e => match e with
    | .BoolOp .Or [x, y] _ => ckE T a cc x && ckE T b cc y
    | .BoolOp .Or (x :: y :: z :: r) p => ckE T a cc x && ckE T b cc (.BoolOp .Or (y :: z :: r) p)
    | _ => false
  | .cmp op a b, cc, e => match e with
    | .Compare l [o] [r] _ => copB o op && ckE T a cc l && ckE T b cc r && notSet r
    | _ => false
  | .cmp2 o1 o2 a b c, cc, e => match e with
    | .Compare l [p1, p2] [m, r] _ => copB p1 o1 && copB p2 o2 && ckE T a cc l && ckE T b cc m && ckE T c cc r && notSet m && notSet r
    | _ => false
  | .ite c a b, cc, e => match e with
    | .IfExp t x y _ => ckE T c cc t && ckE T a cc x && ckE T b cc y
    | _ => false
  | .tup es, cc, e => match e with
    | .Tuple xs _ _ => ckEs T es cc xs
    | _ => false
  | .lst _ es, cc, e => match e with
    | .List xs _ => ckEs T es cc xs
    | _ => false
  | .ix a i, cc, e => match e with
    | .Subscript x s _ => ckE T a cc x && ckE T i cc s && notSlice s
    | _ => false
  | .sl _ a lo hi, cc, e => match e with
    | .Subscript x (.Slice l h none _) _ => ckE T a cc x && ckO T lo cc l && ckO T hi cc h
    | _ => false
  | .fld a f, cc, e => match e with
    | .Attribute x g _ => Str.ofString f == g && ckE T a cc x && notSuper x
    | _ => false
  | .call f sh es ks, cc, e => match e with
    | .Call (.Name x _) args kws _ => Str.ofString f == x && glB cc.sc x && okN x && T.tops.contains f && ckEs T es cc args && ckKs T ks cc kws && T.shs.contains (f, args.length, kwN kws, sh)
    | _ => false
  | .make _ c sh es ks, cc, e => match e with
    | .Call (.Name x _) args kws _ => Str.ofString c == x && glB cc.sc x && okN x && ckEs T es cc args && ckKs T ks cc kws && (T.inits.all fun p => p.1 != c || T.shs.contains (p.2, args.length + 1, kwN kws, sh))
    | _ => false
  | .meth a f sh es ks, cc, e => match e with
    | .Call (.Attribute x g ap) args kws cp => Str.ofString f == g && ckE T a cc x && notSuper x && ap.endLine == cp.line && decide (args.length + kws.length < 29) && ckEs T es cc args && ckKs T ks cc kws &&
        (T.meths.all fun p => p.2.1 != f || T.shs.contains (p.2.2, args.length + 1, kwN kws, sh))
    | _ => false
  | .blt _ f es, cc, e => match e with
    | .Call (.Name x _) args [] _ => Str.ofString f.nm == x && glB cc.sc x && ckEs T es cc args && !args.isEmpty
    | _ => false
  | .isi a ts, cc, e => match e with
    | .Call (.Name x _) [y, t] [] _ => Str.ofString "isinstance" == x && glB cc.sc x && ckE T a cc y && ckTys T cc ts t
    | _ => false
  | .bm a f es, cc, e => match e with
    | .Call (.Attribute x g ap) args [] cp => f.ok && f.ar args.length && Str.ofString f.nm == g && ckE T a cc x && notSuper x && ap.endLine == cp.line && ckEs T es cc args
    | _ => false
  | .lc _ own tg it cond elt, cc, e => match e with
    | .ListComp el [⟨t, iter, ifs, 0⟩] scope _ => blkC cc.N cc.sc scope (ownN cc.N own) && ckTg (cc.blk scope) (fun i => own.contains i) tg t && ckI T it cc t iter && notSet iter && ckC T cond (cc.blk scope) ifs && ckE T elt (cc.blk scope) el
    | _ => false
def ckEs (T : Tab) : Es → CC → List Expr → Bool
  | .nil, _, l => match l with
    | [] => true
    | _ => false
  | .cons a as, cc, l => match l with
    | e :: es => notStar e && ckE T a cc e && ckEs T as cc es
    | _ => false
def ckKs (T : Tab) : Es → CC → List Keyword → Bool
  | .nil, _, l => match l with
    | [] => true
    | _ => false
  | .cons a as, cc, l => match l with
    | ⟨some _, e, _⟩ :: es => ckE T a cc e && ckKs T as cc es
    | _ => false
def ckO (T : Tab) : OE → CC → Option Expr → Bool
  | .none, _, o => match o with
    | none => true
    | _ => false
  | .some a, cc, o => match o with
    | some e => ckE T a cc e
    | _ => false
def ckC (T : Tab) : OE → CC → List Expr → Bool
  | .none, _, o => match o with
    | [] => true
    | _ => false
  | .some a, cc, o => match o with
    | [e] => ckE T a cc e
    | _ => false
def ckI (T : Tab) : It → CC → Expr → Expr → Bool
  | .e a, cc, _, e => ckE T a cc e
  | .range es, cc, _, e => match e with
    | .Call (.Name x _) args [] _ => Str.ofString "range" == x && glB cc.sc x && ckEs T es cc args && (args.length == 1 || args.length == 2)
    | _ => false
  | .enum a, cc, t, e => match t, e with
    | .Tuple _ _ _, .Call (.Name x _) [y] [] _ => Str.ofString "enumerate" == x && glB cc.sc x && notStar y && ckE T a cc y
    | _, _ => false
  | .zip a b, cc, t, e => match t, e with
    | .Tuple _ _ _, .Call (.Name x _) [y, z] [] _ => Str.ofString "zip" == x && glB cc.sc x && notStar y && notStar z && ckE T a cc y && ckE T b cc z
    | _, _ => false
  | .rev a, cc, _, e => match e with
    | .Call (.Name x _) [y] [] _ => Str.ofString "reversed" == x && glB cc.sc x && notStar y && ckE T a cc y
    | _ => false
  | .revr1 a, cc, _, e => match e with
    | .Call (.Name x _) [.Call (.Name z _) [y] [] _] [] _ => Str.ofString "reversed" == x && glB cc.sc x && Str.ofString "range" == z && glB cc.sc z && notStar y && ckE T a cc y
    | _ => false
  | .revr2 a b, cc, _, e => match e with
    | .Call (.Name x _) [.Call (.Name z _) [y, w] [] _] [] _ => Str.ofString "reversed" == x && glB cc.sc x && Str.ofString "range" == z && glB cc.sc z && notStar y && notStar w && ckE T a cc y && ckE T b cc w
    | _ => false
end
/-! a statement -/
def notComp : Expr → Bool
  | .ListComp _ _ _ _ => false
  | .SetComp _ _ _ _ => false
  | .DictComp _ _ _ _ _ => false
  | _ => true
/-- the stores are not exchanged -/
def noSwp (ts : List Expr) : Expr → Bool
  | .Tuple vs _ _ => vs.all (foldedForSure 8) || !(ts.length == 2 || ts.length == 3)
  | _ => true
def parT : List Expr → Option (Str × Pos × Str × Pos)
  | [.Name x px, .Name y py] => some (x, px, y, py)
  | _ => none
def parE : Expr → Option (Expr × Expr)
  | .Tuple [e1, e2] _ _ => some (e1, e2)
  | _ => none
/-- a list comprehension on the store's line that does not own the name -/
def lcOn (x : Str) (px : Pos) : Expr → Bool
  | .ListComp _ _ scope p => px.line == p.line && !(scope.names.any fun (n, k) => n == x && (k == .local || k == .cell))
  | _ => false
/-- a name's store: a list comprehension on the same line to a local wants its own rule -/
def nmB (cc : CC) (i : Nat) (x : Str) : Bool := decide (cc.N[i]? = some x) && (kindB cc.sc x .local || (kindB cc.sc x .cell && cc.fnb x))
mutual
def ckS (T : Tab) : S_ → CC → Stmt → Bool
  | .set i a, cc, s => match s with
    | .Assign [.Name x px] e pos => nmB cc i x && ckE T a cc e && (notComp e || !kindB cc.sc x .local || lcOn x px e)
    | _ => false
  | .asg t a, cc, s => match s with
    | .Assign [.Tuple ts k p] e _ => ckTg cc (fun _ => true) t (.Tuple ts k p) && ckE T a cc e && noSwp ts e
    | _ => false
  | .par i j a b, cc, s => match s with
    | .Assign [.Tuple ts _ _] e _ => (match parT ts, parE e with
      | some (x, px, y, py), some (e1, e2) => decide (cc.N[i]? = some x) && decide (cc.N[j]? = some y) && decide (i ≠ j) && kindB cc.sc x .local && kindB cc.sc y .local && notStar e1 && notStar e2 && ckE T a cc e1 && ckE T b cc e2 &&
        px.line == py.line && !(x == y) && !foldedForSure 8 e1 && !constantsAlone 8 e1
      | _, _ => false)
    | _ => false
  | .setix a i v, cc, s => match s with
    | .Assign [.Subscript x k _] e _ => ckE T v cc e && ckE T a cc x && ckE T i cc k && notSlice k
    | _ => false
  | .setfld a f v, cc, s => match s with
    | .Assign [.Attribute x g _] e _ => ckE T v cc e && ckE T a cc x && Str.ofString f == g && notSuper x
    | _ => false
  | .aug i op a, cc, s => match s with
    | .AugAssign (.Name x _) o e _ => nmB cc i x && opB o op && ckE T a cc e && okN x
    | _ => false
  | .augix a i op v, cc, s => match s with
    | .AugAssign (.Subscript x k _) o e _ => opB o op && ckE T v cc e && ckE T a cc x && ckE T i cc k && notSlice k
    | _ => false
  | .augfld a f op v, cc, s => match s with
    | .AugAssign (.Attribute x g _) o e _ => opB o op && ckE T v cc e && ckE T a cc x && Str.ofString f == g && notSuper x
    | _ => false
  | .ex a, cc, s => match s with
    | .Expr e _ => ckE T a cc e && notComp e
    | _ => false
  | .ret a, cc, s => match s with
    | .Return (some e) _ => ckE T a cc e
    | _ => false
  | .retn, _, s => match s with
    | .Return none _ => true
    | _ => false
  | .ite c a b, cc, s => match s with
    | .If t x y _ => ckE T c cc t && ckSs T a cc x && ckSs T b cc y
    | _ => false
  | .for_ t it body _, cc, s => match s with
    | .For tg iter b [] _ => ckTg cc (fun _ => true) t tg && ckI T it cc tg iter && notSet iter && ckSs T body cc b
    | _ => false
  | .wh c body _, cc, s => match s with
    | .While t b [] _ => ckE T c cc t && ckSs T body cc b
    | _ => false
  | .pass, _, s => match s with
    | .Pass _ => true
    | _ => false
  | .brk, _, s => match s with
    | .Break _ => true
    | _ => false
  | .cnt, _, s => match s with
    | .Continue _ => true
    | _ => false
  | .never, _, _ => true
def ckSs (T : Tab) : Ss → CC → List Stmt → Bool
  | .nil, _, l => match l with
    | [] => true
    | _ => false
  | .cons a as, cc, l => match l with
    | s :: ss => ckS T a cc s && ckSs T as cc ss
    | _ => false
end
end Ev

set_option Elab.async false
set_option linter.all false
set_option maxRecDepth 100000
set_option maxHeartbeats 4000000
/-! ### What a term's meaning promises -/
namespace Ev
open PySem PySem.Spec PyProof.Rows L2
abbrev tEv (G : Gx) (m : Env → Store → R Val) : TE := fun σ H Q => ∃ f ρ S v S', RE G f H ρ σ ∧ RS G f H S ∧ m ρ S = .ok v S' ∧ Wk G f H S' v Q
abbrev tTv (G : Gx) (m : Env → Store → R Bool) : TT := fun σ H Q => ∃ f ρ S b S', RE G f H ρ σ ∧ RS G f H S ∧ m ρ S = .ok b S' ∧ ∀ H' f', Ext f H f' H' → RS G f' H' S' → Q b H'
abbrev tAv (G : Gx) (m : Env → Store → R (List Val)) : TA := fun σ H Q => ∃ f ρ S vs S', RE G f H ρ σ ∧ RS G f H S ∧ m ρ S = .ok vs S' ∧ ∀ xs H' f', Ext f H f' H' → RS G f' H' S' → RVs G f' H' vs xs → Q xs H'
/-- what is walked (with other places barred, too, if they were not there yet) -/
def Wlk (G : Gx) (f : List Addr) (H : Hp) (items : List Val) (gs : List (Nat × Cell)) (J : L2.It) : Prop :=
  ∀ blk : List Addr, (∀ a, a ∈ blk → a ∈ G.blk ∨ H a = none) → ∀ f2 H2 S2, Ext f H f2 H2 → RS { G with blk := blk } f2 H2 S2 → gdOk gs S2 →
    J.stop items.length H2 ∧ ∀ (i : Nat) (v : Val), items[i]? = some v → J.go i H2 ∧ ∀ x H3, J.yld i H2 x H3 → Ext f2 H2 f2 H3 ∧ RS { G with blk := blk } f2 H3 S2 ∧ RV { G with blk := blk } f2 H3 v x
abbrev tIv (G : Gx) (m : Env → Store → R (List Val × List (Nat × Cell))) : TI := fun σ H Q => ∃ f ρ S p S', RE G f H ρ σ ∧ RS G f H S ∧ m ρ S = .ok p S' ∧ ∀ J H' f', Ext f H f' H' → RS G f' H' S' → Wlk G f' H' p.1 p.2 J → Q J H'
theorem PE.imp {X : Cx} {e : Expr} {t t' : TE} (h : PE X e t) (k : ∀ σ H Q, t' σ H Q → t σ H Q) : PE X e t' := ⟨fun pins s σ H Q I q => h.run pins s σ H Q I (k _ _ _ q)⟩
theorem PT.imp {X : Cx} {e : Expr} {t t' : TT} (h : PT X e t) (k : ∀ σ H Q, t' σ H Q → t σ H Q) : PT X e t' := ⟨fun pins s σ H Q I q => h.run pins s σ H Q I (k _ _ _ q)⟩
theorem PW.imp {X : Cx} {e : Expr} {t t' : TT} (h : PW X e t) (k : ∀ σ H Q, t' σ H Q → t σ H Q) : PW X e t' := ⟨fun w pins s σ H Q I q => h.run w pins s σ H Q I (k _ _ _ q)⟩
theorem PA.imp {X : Cx} {e : List Expr} {t t' : TA} (h : PA X e t) (k : ∀ σ H Q, t' σ H Q → t σ H Q) : PA X e t' := ⟨fun p pins s σ H Q I q => h.run p pins s σ H Q I (k _ _ _ q)⟩
theorem PK.imp {X : Cx} {e : List Keyword} {t t' : TA} (h : PK X e t) (k : ∀ σ H Q, t' σ H Q → t σ H Q) : PK X e t' := ⟨fun p pins s σ H Q I q => h.run p pins s σ H Q I (k _ _ _ q)⟩
theorem PI.imp {X : Cx} {tg e : Expr} {t t' : TI} (h : PI X tg e t) (k : ∀ σ H Q, t' σ H Q → t σ H Q) : PI X tg e t' := ⟨fun pins s σ H Q I q => h.run pins s σ H Q I (k _ _ _ q)⟩
theorem PS.imp {X : Cx} {e : Stmt} {t t' : TS} (h : PS X e t) (k : ∀ D σ H, t' D σ H → t D σ H) : PS X e t' := ⟨fun pins s σ H D I q => h.run pins s σ H D I (k _ _ _ q)⟩
theorem PSs.imp {X : Cx} {e : List Stmt} {t t' : TS} (h : PSs X e t) (k : ∀ D σ H, t' D σ H → t D σ H) : PSs X e t' := ⟨fun pins s σ H D I q => h.run pins s σ H D I (k _ _ _ q)⟩
/-! what the top has written -/
def tkv (G : Gx) : TK → Value
  | .b n => .type n
  | .c c => .ref (G.cls c)
def bltNames : List String := ["len", "int", "str", "repr", "tuple", "list", "max", "min", "sum", "sorted", "abs", "all", "any", "isinstance", "range", "enumerate", "zip", "reversed", "bool", "dict"]
/-- how a call's values come to the parameters -/
def ShOk (G : Gx) (Gm : Gm) (q : String) (n : Nat) (ks : List Str) (sh : Nat) : Prop := ∀ (blk : List Addr) (s : Shared) (us ws : List Value) (f : List Addr) (H : Hp) (vals vals' : List Val) (xs : List V),
  G.K.In s.heap → us.length = n → ws.length = ks.length → RVs { G with blk := blk } f H vals xs → Vals xs (us ++ ws) → Gm.arr sh vals = some vals' →
    ∃ (xs' : List V) (ds : List Value), RVs { G with blk := blk } f H vals' xs' ∧ Vals xs' ds ∧ xs'.length = (G.ps q).length ∧ BindsTo s (G.fd q) ⟨us, ks.zip ws⟩ ((G.ps q).zip ds)
structure Facts (T : Tab) (G : Gx) (Gm : Gm) (mg : Str → Option Value) : Prop where
  top : ∀ f : String, T.tops.contains f = true → mg (Str.ofString f) = some (.ref (G.fa f)) ∧ PySem.W.keepIn G.K (.ref (G.fa f)) = true
  sh : ∀ q n ks sh, T.shs.contains (q, n, ks, sh) = true → T.quals.contains q = true ∧ ShOk G Gm q n ks sh
  blt : ∀ b : String, bltNames.contains b = true → mg (Str.ofString b) = none
  con : ∀ x v, Gm.con x = some v → ∃ z u, mg (Str.ofString x) = some u ∧ RelV z u ∧ ∀ blk f H, RV { G with blk := blk } f H v z
  fld : ∀ c f, Gm.fld c f = true → Cls G.K (G.cls c) ∧ NoAttr G.K (G.cls c) (Str.ofString f)
  prop : ∀ c f q, Gm.prop c f = some q → False
  meth : ∀ c f q, Gm.meth c f = some q → (c, f, q) ∈ T.meths ∧ Cls G.K (G.cls c) ∧ Meth G.K (G.cls c) (Str.ofString f) (G.fa q)
  init : ∀ c q, Gm.init c = some q → (c, q) ∈ T.inits ∧ Mk G.K (G.cls c) (G.fa q) ∧ mg (Str.ofString c) = some (.ref (G.cls c))
  isi : ∀ t u b, Gm.isi t u = some b → PySem.W.kitOne G.K (tkv G t) (tkv G u) = some b ∧ (∀ c, t = .c c → Cls G.K (G.cls c) ∧ PySem.W.findIn G.K (.ref (G.cls c)) "__class__" = some (some (.builtin "object.__class__")) ∧
    PySem.W.specialIn G.K (.builtin "object.__class__") "__get__" = some (some (.builtin "getset_descriptor.__get__")) ∧ PySem.W.takesIn G.K (.builtin "object.__class__") = some true ∧ PySem.W.mroIn G.K (G.cls c) (.type "object") = some true)
  cls : ∀ c : String, T.clss.contains c = true → mg (Str.ofString c) = some (.ref (G.cls c))
/-- a def's promise -/
def spF (G : Gx) (Gm : Gm) (q : String) : Sp := fun vs H Q _ => ∃ blk f S us v S', RS { G with blk := blk } f H S ∧ RVs { G with blk := blk } f H us vs ∧ Gm.call q us S = .ok v S' ∧ vs.length = (G.ps q).length ∧ Wk { G with blk := blk } f H S' v Q
/-- where one stands -/
structure Good (T : Tab) (G : Gx) (Gm : Gm) (L : Nat) (cc : CC) (X : Cx) : Prop where
  K : X.K = G.K
  N : X.N = cc.N
  sc : X.env.scope = cc.sc
  fn : X.fn = cc.fnb
  calm : X.calm = true
  nd : cc.N.Nodup
  kind : cc.sc.kind = .function
  xe : X.xe = fun _ _ => False
  room : Room (L + 1) X.A
  fac : Facts T G Gm X.mg
  grd : X.A.guards = some []
  call : ∀ q : String, T.quals.contains q = true → FnG X.prog X.w X.K X.mg X.base L (G.fa q) (G.fd q) (G.ps q) (spF G Gm q)
theorem Facts.bar {T : Tab} {G : Gx} {Gm : Gm} {mg : Str → Option Value} (F : Facts T G Gm mg) (b : List Addr) : Facts T { G with blk := b } Gm mg :=
  ⟨F.top, F.sh, F.blt, F.con, F.fld, F.prop, F.meth, F.init, F.isi, F.cls⟩
theorem Good.bar {T : Tab} {G : Gx} {Gm : Gm} {L : Nat} {cc : CC} {X : Cx} (g : Good T G Gm L cc X) (b : List Addr) : Good T { G with blk := b } Gm L cc X :=
  ⟨g.K, g.N, g.sc, g.fn, g.calm, g.nd, g.kind, g.xe, g.room, g.fac.bar b, g.grd, g.call⟩
theorem Good.blk {T : Tab} {G : Gx} {Gm : Gm} {L : Nat} {cc : CC} {X : Cx} (g : Good T G Gm L cc X) {scope : Scope} (hk : scope.kind = .function) (s : Shared) (H : Hp) (C : Addr) (cl : List (Str × Addr)) (fp : List Addr) :
    Good T G Gm L (cc.blk scope) (X.blk s H scope (compEnvC scope cl C X.env) fp) :=
  ⟨g.K, g.N, by show relS scope X.env.scope = relS scope cc.sc; rw [g.sc], rfl, g.calm, g.nd, hk, rfl, g.room, g.fac, g.grd, g.call⟩
theorem Good.hu {T : Tab} {G : Gx} {Gm : Gm} {L : Nat} {cc : CC} {X : Cx} (g : Good T G Gm L cc X) : X.A.units + 65 < cLine := by
  have := g.room.un
  omega
theorem Good.never {T : Tab} {G : Gx} {Gm : Gm} {L : Nat} {cc : CC} {X : Cx} (g : Good T G Gm L cc X) : PassesOwn (model X.prog X.w) X.A X.env X.xe := by
  rw [g.xe]
  exact PassesOwn.never
/-! names -/
theorem kindB_eq {sc : Scope} {x : Str} {k : NameKind} (h : kindB sc x k = true) : sc.names.lookup x = some k := by
  unfold kindB at h
  cases q : sc.names.lookup x with
  | none => rw [q] at h; cases h
  | some k' =>
    rw [q] at h
    have : k' = k := by cases k' <;> cases k <;> first | rfl | cases h
    rw [this]
theorem kindB_of {sc : Scope} {x : Str} {k : NameKind} (h : sc.names.lookup x = some k) : kindB sc x k = true := by
  unfold kindB
  rw [h]
  cases k <;> rfl
theorem visB_eq {sc : Scope} {x : Str} (h : visB sc x = true) : Vis sc x := by
  simp only [visB, Bool.or_eq_true] at h
  rcases h with (h | h) | h
  · exact .inl (kindB_eq h)
  · exact .inr (.inl (kindB_eq h))
  · exact .inr (.inr (kindB_eq h))
theorem okN_eq {x : Str} (h : okN x = true) : (x == ("__debug__" : Str)) = false ∧ (x == ("__classdict__" : Str)) = false ∧ x ≠ "__name__" := by
  simp only [okN, Bool.and_eq_true, Bool.not_eq_true'] at h
  exact ⟨h.1.1, h.1.2, fun z => by rw [z] at h; exact absurd h.2 (by simp)⟩
theorem Good.gl {T : Tab} {G : Gx} {Gm : Gm} {L : Nat} {cc : CC} {X : Cx} (g : Good T G Gm L cc X) {x : Str} (h : glB cc.sc x = true) : Gl X x := by
  show X.env.scope.names.lookup x = some .globalImplicit
  rw [g.sc]
  exact kindB_eq h
theorem starEach_cons {e : Expr} {es : List Expr} {env : PySem.Env} (h : notStar e = true) : starEach (e :: es) env = (false, eval e env) :: starEach es env := by
  cases e <;> first | rfl | cases h
def noStars : List Expr → Bool
  | [] => true
  | e :: es => notStar e && noStars es
theorem starEach_any {env : PySem.Env} {pos : Pos} : ∀ {es : List Expr}, noStars es = true → (backTo pos (starEach es env)).any (·.1) = false
  | [], _ => rfl
  | e :: es, h => by
    rw [noStars, Bool.and_eq_true] at h
    rw [starEach_cons h.1]
    have := starEach_any (env := env) (pos := pos) h.2
    unfold backTo at this ⊢
    rw [List.map_cons, List.any_cons, this]
    rfl
theorem attr_plain {o : Expr} {attr : Str} {env : PySem.Env} {whole : Sem Value} (h : notSuper o = true) : attributeBase o attr env whole = whole := by
  unfold attributeBase
  split
  · rename_i id p pos
    have h' : (id == ("super" : Str)) = false := by simpa [notSuper] using h
    have : (id != ("super" : Str)) = true := by rw [bne, h']; rfl
    rw [this]
    simp
  · rfl
theorem plainIx {b : Expr} (h : notSlice b = true) : PlainIx b := fun o i => by
  cases b <;> first | rfl | cases h
theorem noMark {op : CmpOp} {b : Expr} (h : notSet b = true) : behindInMarks op b = false := by
  cases b <;> first | rfl | cases h
theorem foldedSet {e : Expr} {env : PySem.Env} (h : notSet e = true) : ∀ x, foldedSetIterable e env x = pure x := fun x => by
  cases e <;> first | rfl | cases h
/-- isTrue has no arm of its own for this -/
def genT : Expr → Bool
  | .UnaryOp .Not _ _ => false
  | .BoolOp _ _ _ => false
  | .IfExp _ _ _ _ => false
  | .Compare _ _ _ _ => false
  | _ => true
theorem isTrue_gen {e : Expr} {env : PySem.Env} (h : genT e = true) : ∀ whole, isTrue e env whole = (do let v ← whole; standAt e.pos; holding [v] (truthy v)) := fun whole => by
  cases e with
  | UnaryOp op x p => cases op <;> first | rfl | cases h
  | BoolOp => cases h
  | IfExp => cases h
  | Compare => cases h
  | _ => rfl
section
variable {T : Tab} {G : Gx} {Gm : Gm} {L : Nat} {cc : CC} {X : Cx}
/-- a test by its value -/
theorem pt_of {e : Expr} {m : Env → Store → R Val} (g : Good T G Gm L cc X) (h : PE X e (tEv G m)) (hg : genT e = true) : PT X e (tTv G fun ρ S => (m ρ S).bind fun v S1 => ofO (truth S1 v) S1) := by
  refine PT.imp (pt_truth h (isTrue_gen hg)) fun σ H Q => ?_
  rintro ⟨f, ρ, S, b, S', re, rs, e, k⟩
  obtain ⟨v, S1, e1, e2⟩ := R.bind_eq e
  obtain ⟨e2, rfl⟩ := ofO_eq e2
  refine ⟨f, ρ, S, v, _, re, rs, e1, fun x H1 f1 x1 r1 rv1 => ?_⟩
  exact ⟨b, by rw [g.K]; exact truth_ok r1 rv1 e2, k H1 f1 x1 r1⟩
theorem pa_of_nil : PA X [] (tAv G fun _ S => .ok [] S) := PA.imp pa_nil fun σ H Q => by
  rintro ⟨f, ρ, S, vs, S', re, rs, e, k⟩
  obtain ⟨rfl, rfl⟩ := ok_inj e
  exact k [] H f rs.ext rs rfl
theorem pa_of_cons {e : Expr} {es : List Expr} {m : Env → Store → R Val} {ms : Env → Store → R (List Val)} (h : PE X e (tEv G m)) (hs : PA X es (tAv G ms)) (hn : notStar e = true) :
    PA X (e :: es) (tAv G fun ρ S => (m ρ S).bind fun x S1 => (ms ρ S1).bind fun xs S2 => .ok (x :: xs) S2) := PA.imp (pa_cons h hs (starEach_cons hn)) fun σ H Q => by
  rintro ⟨f, ρ, S, vs, S', re, rs, e, k⟩
  obtain ⟨v, S1, e1, e2⟩ := R.bind_eq e
  obtain ⟨ws, S2, e3, e4⟩ := R.bind_eq e2
  obtain ⟨rfl, rfl⟩ := ok_inj e4
  refine ⟨f, ρ, S, v, S1, re, rs, e1, fun x H1 f1 x1 r1 rv1 => ⟨f1, ρ, S1, ws, S2, re.ext x1, r1, e3, fun xs H2 f2 x2 r2 rv2 => ?_⟩⟩
  exact k _ _ _ (x1.trans x2) r2 (RVs.cons (rv1.ext x2) rv2)
theorem pk_of_nil : PK X [] (tAv G fun _ S => .ok [] S) := PK.imp pk_nil fun σ H Q => by
  rintro ⟨f, ρ, S, vs, S', re, rs, e, k⟩
  obtain ⟨rfl, rfl⟩ := ok_inj e
  exact k [] H f rs.ext rs rfl
theorem pk_of_cons {nm : Option Str} {kp : Pos} {e : Expr} {es : List Keyword} {m : Env → Store → R Val} {ms : Env → Store → R (List Val)} (h : PE X e (tEv G m)) (hs : PK X es (tAv G ms)) :
    PK X (⟨nm, e, kp⟩ :: es) (tAv G fun ρ S => (m ρ S).bind fun x S1 => (ms ρ S1).bind fun xs S2 => .ok (x :: xs) S2) := PK.imp (pk_cons h hs) fun σ H Q => by
  rintro ⟨f, ρ, S, vs, S', re, rs, e, k⟩
  obtain ⟨v, S1, e1, e2⟩ := R.bind_eq e
  obtain ⟨ws, S2, e3, e4⟩ := R.bind_eq e2
  obtain ⟨rfl, rfl⟩ := ok_inj e4
  refine ⟨f, ρ, S, v, S1, re, rs, e1, fun x H1 f1 x1 r1 rv1 => ⟨f1, ρ, S1, ws, S2, re.ext x1, r1, e3, fun xs H2 f2 x2 r2 rv2 => ?_⟩⟩
  exact k _ _ _ (x1.trans x2) r2 (RVs.cons (rv1.ext x2) rv2)
/-! calls of defs -/
theorem run_sh {pins : List (Addr × Obj)} {σ : L2.St} {H : Hp} {s : Shared} {Q : VK} {us ws : List Value} {vals vals' : List Val} {xs : List V} {q : String} {n sh : Nat} {ks : List Str} {f : List Addr} {S S' : Store} {v : Val}
    (g : Good T G Gm L cc X) (hs : T.quals.contains q = true) (hb : ShOk G Gm q n ks sh) (I : L2.Inv X pins σ H s) (lu : us.length = n) (lw : ws.length = ks.length) (rs : RS G f H S) (rv : RVs G f H vals xs) (r : Vals xs (us ++ ws))
    (ha : Gm.arr sh vals = some vals') (e : Gm.call q vals' S = .ok v S') (k : Wk G f H S' v Q) : wpAny (model X.prog X.w) X.A (call (.ref (G.fa q)) us (ks.zip ws)) (EP X pins σ Q) X.xe s := by
  obtain ⟨xs', ds, h1, h2, h3, h4⟩ := hb G.blk s us ws f H vals vals' xs (g.K ▸ I.kIn) lu lw rv r ha
  refine wpAny_call (codeAny_mono ((g.call q hs).run X.A X.stack s H ⟨us, ks.zip ws⟩ ds xs' Q E0 g.grd (g.room.mono (Nat.le_succ _)) I.env0 h4 h2 ⟨G.blk, f, S, vals', v, S', rs, h1, e, h3, k⟩) fun r s' hq => ?_)
  cases r with
  | error e => exact hq.elim
  | ok fl =>
    cases fl with
    | ret u => exact I.after hq
    | next => exact hq.elim
    | brk => exact hq.elim
    | cont => exact hq.elim
theorem kw_all {pos : Pos} {env : PySem.Env} : ∀ {kws : List Keyword}, (kws.all fun k => k.arg.isSome) = true → (backToKw pos (keywordEach kws env)).all (·.1.isSome) = true ∧ (backToKw pos (keywordEach kws env)).filterMap (·.1) = kwN kws ∧ (backToKw pos (keywordEach kws env)).any (·.1.isNone) = false
  | [], _ => ⟨rfl, rfl, rfl⟩
  | ⟨some x, e, p⟩ :: kws, h => by
    simp only [List.all_cons, Option.isSome_some, Bool.true_and] at h
    obtain ⟨h1, h2, h3⟩ := kw_all (pos := pos) (env := env) h
    unfold keywordEach backToKw
    unfold backToKw at h1 h2 h3
    refine ⟨?_, ?_, ?_⟩
    · rw [List.map_cons, List.all_cons, h1]
      rfl
    · rw [List.map_cons, List.filterMap_cons]
      simp only [kwN, Option.getD_some]
      rw [h2]
    · rw [List.map_cons, List.any_cons, h3]
      rfl
  | ⟨none, e, p⟩ :: kws, h => by simp at h
theorem kwN_len : ∀ kws : List Keyword, (kwN kws).length = kws.length
  | [] => rfl
  | k :: ks => by simp [kwN, kwN_len ks]
/-- f(.., k = ..): the values, then the call -/
theorem call_args {pins : List (Addr × Obj)} {σ : L2.St} {H : Hp} {s : Shared} {Qv : Value → Shared → Prop} {pos : Pos} {fv : Value} {first : List Value} {args : List Expr} {kws : List Keyword} {ma mk : Env → Store → R (List Val)} {f : List Addr} {ρ : Env} {S S1 S2 : Store} {xs ys : List Val}
    (g : Good T G Gm L cc X) (hk : PySem.W.keepIn G.K fv = true) (ha : PA X args (tAv G ma)) (hkw : PK X kws (tAv G mk)) (n1 : noStars args = true) (n2 : (kws.all fun k => k.arg.isSome) = true) (I : L2.Inv X pins σ H s) (re : RE G f H ρ σ) (rs : RS G f H S)
    (e1 : ma ρ S = .ok xs S1) (e2 : mk ρ S1 = .ok ys S2) (hnil : args = [] → xs = [] ∧ S1 = S)
    (k : ∀ us ws s2 H2 f2 vs zs, L2.Inv X pins σ H2 s2 → Ext f H f2 H2 → RS G f2 H2 S2 → RVs G f2 H2 xs vs → RVs G f2 H2 ys zs → Vals vs us → Vals zs ws → wpAny (model X.prog X.w) X.A (call fv (first ++ us) ((kwN kws).zip ws)) Qv X.xe s2) :
    wpAny (model X.prog X.w) X.A (callWith pos fv first (backTo pos (starEach args X.env)) (backToKw pos (keywordEach kws X.env))) Qv X.xe s := by
  obtain ⟨k1, k2, k3⟩ := kw_all (pos := pos) (env := X.env) n2
  have hkK : PySem.W.keepIn X.K fv = true := by rw [g.K]; exact hk
  have kwp : ∀ {s1 : Shared} {H1 : Hp} {f1 : List Addr} {us : List Value} {vs : List V}, L2.Inv X pins σ H1 s1 → Ext f H f1 H1 → RS G f1 H1 S1 → RVs G f1 H1 xs vs → Vals vs us →
      wpAny (model X.prog X.w) X.A (evalAll ((backToKw pos (keywordEach kws X.env)).map (·.2))) (fun ks s2 => X.K.In s2.heap ∧ wpAny (model X.prog X.w) X.A (call fv (first ++ us) (((backToKw pos (keywordEach kws X.env)).filterMap (·.1)).zip ks)) Qv X.xe s2) X.xe s1 := by
    intro s1 H1 f1 us vs I1 x1 r1 rv1 r
    refine thn (hkw.run pos pins s1 σ H1 (fun zs H2 => ∃ f2, Ext f1 H1 f2 H2 ∧ RS G f2 H2 S2 ∧ RVs G f2 H2 ys zs) I1 ⟨f1, ρ, S1, ys, S2, re.ext x1, r1, e2, fun zs H2 f2 x2 r2 rv2 => ⟨f2, x2, r2, rv2⟩⟩) fun ws s2 ⟨zs, H2, I2, rz, f2, x2, r2, rv2⟩ => ⟨I2.kIn, ?_⟩
    rw [k2]
    exact k us ws s2 H2 f2 vs zs I2 (x1.trans x2) r2 (rv1.ext x2) rv2 r rz
  cases args with
  | nil =>
    refine PySem.W.callWith_KW0 (h₀ := X.base) I.ok.mod.kin hkK k1 ?_ (by rw [k3]; rfl)
    obtain ⟨rfl, rfl⟩ := hnil rfl
    exact kwp I rs.ext rs rfl .nil
  | cons e es =>
    rw [noStars, Bool.and_eq_true] at n1
    refine PySem.W.callWith_KW (h₀ := X.base) I.ok.mod.kin hkK k1 (thn (ha.run pos pins s σ H (fun vs H1 => ∃ f1, Ext f H f1 H1 ∧ RS G f1 H1 S1 ∧ RVs G f1 H1 xs vs) I ⟨f, ρ, S, xs, S1, re, rs, e1, fun vs H1 f1 x1 r1 rv1 => ⟨f1, x1, r1, rv1⟩⟩) fun us s1 ⟨vs, H1, I1, r, f1, x1, r1, rv1⟩ => ?_) ?_ (starEach_cons n1.1)
    · exact kwp I1 x1 r1 rv1 r
    · have := starEach_any (env := X.env) (pos := pos) (es := e :: es) (by rw [noStars, Bool.and_eq_true]; exact n1)
      rw [this, k3]
      rfl
end
end Ev

set_option Elab.async false
set_option linter.all false
set_option maxRecDepth 100000
set_option maxHeartbeats 4000000
/-! ### Each construct by itself -/
namespace Ev
open PySem PySem.Spec PyProof.Rows L2
section
variable {T : Tab} {G : Gx} {Gm : Gm} {L : Nat} {cc : CC} {X : Cx} {a b c : Expr} {pos : Pos} {ma mb mc : Env → Store → R Val}
theorem c_var (g : Good T G Gm L cc X) {i : Nat} {x : Str} (h1 : cc.N[i]? = some x) (h2 : visB cc.sc x = true) (h3 : okN x = true) :
    PE X (.Name x pos) (tEv G fun ρ S => match ρ[i]? with
      | some (some v) => .ok v S
      | _ => .bad) := by
  obtain ⟨n1, n2, _⟩ := okN_eq h3
  refine PE.imp (pe_var (i := i) (by rw [g.N]; exact h1) (by rw [g.sc]; exact visB_eq h2) n1 n2) fun σ H Q => ?_
  rintro ⟨f, ρ, S, v, S', re, rs, e, k⟩
  cases q : ρ[i]? with
  | none => simp only [q] at e; cases e
  | some o =>
    cases o with
    | none => simp only [q] at e; cases e
    | some w =>
      simp only [q] at e
      obtain ⟨rfl, rfl⟩ := ok_inj e
      obtain ⟨x, h4, h5⟩ := re.at_ i w q
      exact ⟨x, h4, k.here rs h5⟩
theorem c_const {e : Expr} {x : V} {v : Val} (h : PE X e (tC x)) (hv : ∀ f H, RV G f H v x) : PE X e (tEv G fun _ S => .ok v S) := PE.imp h fun σ H Q => by
  rintro ⟨f, ρ, S, w, S', re, rs, e, k⟩
  obtain ⟨rfl, rfl⟩ := ok_inj e
  exact k.here rs (hv _ _)
theorem c_glob (g : Good T G Gm L cc X) {y : String} {x : Str} (h1 : Str.ofString y = x) (h2 : glB cc.sc x = true) (h3 : okN x = true) : PE X (.Name x pos) (tEv G fun _ S => ofO (Gm.con y) S) := by
  subst h1
  obtain ⟨n1, _, _⟩ := okN_eq h3
  refine ⟨fun pins s σ H Q I => ?_⟩
  rintro ⟨f, ρ, S, w, S', re, rs, e, k⟩
  obtain ⟨e1, rfl⟩ := ofO_eq e
  obtain ⟨z, u, hm, r, hv⟩ := g.fac.con y w e1
  exact (pe_glob (v := z) (g.gl h2) hm r n1).run pins s σ H Q I (k.here rs (hv G.blk f H))
theorem c_bin (g : Good T G Gm L cc X) (m : Bool) (op : BOp) (ha : PE X a (tEv G ma)) (hb : PE X b (tEv G mb)) :
    PE X (.BinOp a op.op b pos) (tEv G fun ρ S => (ma ρ S).bind fun x S1 => (mb ρ S1).bind fun y S2 => binV m op x y S2) := PE.imp (pe_op (op_bin (G := G) g.K m op) ha hb) fun σ H Q => by
  rintro ⟨f, ρ, S, v, S', re, rs, e, k⟩
  obtain ⟨x, S1, e1, e⟩ := R.bind_eq e
  obtain ⟨y, S2, e2, e3⟩ := R.bind_eq e
  exact ⟨f, ρ, S, x, S1, re, rs, e1, fun xv H1 f1 x1 r1 rv1 => ⟨f1, ρ, S1, y, S2, re.ext x1, r1, e2, fun yv H2 f2 x2 r2 rv2 => ⟨f2, S2, x, y, v, S', r2, rv1.ext x2, rv2, e3, fun z H3 f3 x3 r3 rv3 => k z H3 f3 ((x1.trans x2).trans x3) r3 rv3⟩⟩⟩
theorem c_neg (ha : PE X a (tEv G ma)) : PE X (.UnaryOp .USub a pos) (tEv G fun ρ S => (ma ρ S).bind fun x S1 => match x with
    | .int i => .ok (.int (-i)) S1
    | _ => .bad) := PE.imp (pe_un un_neg ha) fun σ H Q => by
  rintro ⟨f, ρ, S, v, S', re, rs, e, k⟩
  obtain ⟨x, S1, e1, e⟩ := R.bind_eq e
  cases x with
  | int i =>
    obtain ⟨rfl, rfl⟩ := ok_inj e
    refine ⟨f, ρ, S, .int i, _, re, rs, e1, fun xv H1 f1 x1 r1 rv1 => ?_⟩
    cases rv1
    exact ⟨i, rfl, k _ _ _ x1 r1 rfl⟩
  | _ => cases e
theorem c_not (g : Good T G Gm L cc X) (ha : PE X a (tEv G ma)) : PE X (.UnaryOp .Not a pos) (tEv G fun ρ S => (ma ρ S).bind fun x S1 => (ofO (truth S1 x) S1).bind fun t S1 => .ok (.bl (!t)) S1) := PE.imp (pe_notT ha) fun σ H Q => by
  rintro ⟨f, ρ, S, v, S', re, rs, e, k⟩
  obtain ⟨x, S1, e1, e⟩ := R.bind_eq e
  obtain ⟨t, e2, e⟩ := bind_ofO e
  obtain ⟨rfl, rfl⟩ := ok_inj e
  exact ⟨f, ρ, S, x, _, re, rs, e1, fun xv H1 f1 x1 r1 rv1 => ⟨t, by rw [g.K]; exact truth_ok r1 rv1 e2, k _ _ _ x1 r1 rfl⟩⟩
theorem c_and (g : Good T G Gm L cc X) {rest : List Expr} (ha : PE X a (tEv G ma)) (hb : PE X (.BoolOp .And (b :: rest) pos) (tEv G mb)) :
    PE X (.BoolOp .And (a :: b :: rest) pos) (tEv G fun ρ S => (ma ρ S).bind fun x S1 => (ofO (truth S1 x) S1).bind fun t S1 => if t = true then mb ρ S1 else .ok x S1) := PE.imp (pe_andT ha hb) fun σ H Q => by
  rintro ⟨f, ρ, S, v, S', re, rs, e, k⟩
  obtain ⟨x, S1, e1, e⟩ := R.bind_eq e
  obtain ⟨t, e2, e⟩ := bind_ofO e
  refine ⟨f, ρ, S, x, _, re, rs, e1, fun xv H1 f1 x1 r1 rv1 => ⟨t, by rw [g.K]; exact truth_ok r1 rv1 e2, ?_⟩⟩
  cases t with
  | true =>
    rw [if_pos rfl] at e ⊢
    exact ⟨f1, ρ, S1, v, S', re.ext x1, r1, e, fun z H3 f3 x3 r3 rv3 => k z H3 f3 (x1.trans x3) r3 rv3⟩
  | false =>
    rw [if_neg Bool.false_ne_true] at e ⊢
    obtain ⟨rfl, rfl⟩ := ok_inj e
    exact k _ _ _ x1 r1 rv1
theorem c_or (g : Good T G Gm L cc X) {rest : List Expr} (ha : PE X a (tEv G ma)) (hb : PE X (.BoolOp .Or (b :: rest) pos) (tEv G mb)) :
    PE X (.BoolOp .Or (a :: b :: rest) pos) (tEv G fun ρ S => (ma ρ S).bind fun x S1 => (ofO (truth S1 x) S1).bind fun t S1 => if t = true then .ok x S1 else mb ρ S1) := PE.imp (pe_orT ha hb) fun σ H Q => by
  rintro ⟨f, ρ, S, v, S', re, rs, e, k⟩
  obtain ⟨x, S1, e1, e⟩ := R.bind_eq e
  obtain ⟨t, e2, e⟩ := bind_ofO e
  refine ⟨f, ρ, S, x, _, re, rs, e1, fun xv H1 f1 x1 r1 rv1 => ⟨t, by rw [g.K]; exact truth_ok r1 rv1 e2, ?_⟩⟩
  cases t with
  | false =>
    rw [if_neg Bool.false_ne_true] at e ⊢
    exact ⟨f1, ρ, S1, v, S', re.ext x1, r1, e, fun z H3 f3 x3 r3 rv3 => k z H3 f3 (x1.trans x3) r3 rv3⟩
  | true =>
    rw [if_pos rfl] at e ⊢
    obtain ⟨rfl, rfl⟩ := ok_inj e
    exact k _ _ _ x1 r1 rv1
theorem c_cmp (g : Good T G Gm L cc X) (op : COp) (ha : PE X a (tEv G ma)) (hb : PE X b (tEv G mb)) (hm : notSet b = true) :
    PE X (.Compare a [op.op] [b] pos) (tEv G fun ρ S => (ma ρ S).bind fun x S1 => (mb ρ S1).bind fun y S2 => (ofO (cmpV op x y S2) S2).bind fun t S2 => .ok (.bl t) S2) := PE.imp (pe_cmpR (op_cmp (G := G) g.K g.hu op) ha hb (noMark hm)) fun σ H Q => by
  rintro ⟨f, ρ, S, v, S', re, rs, e, k⟩
  obtain ⟨x, S1, e1, e⟩ := R.bind_eq e
  obtain ⟨y, S2, e2, e⟩ := R.bind_eq e
  obtain ⟨t, e3, e⟩ := bind_ofO e
  obtain ⟨rfl, rfl⟩ := ok_inj e
  exact ⟨f, ρ, S, x, S1, re, rs, e1, fun xv H1 f1 x1 r1 rv1 => ⟨f1, ρ, S1, y, _, re.ext x1, r1, e2, fun yv H2 f2 x2 r2 rv2 => ⟨f2, _, x, y, t, r2, rv1.ext x2, rv2, e3, k _ _ _ (x1.trans x2) r2 rfl⟩⟩⟩
theorem t_cmp (g : Good T G Gm L cc X) (op : COp) (ha : PE X a (tEv G ma)) (hb : PE X b (tEv G mb)) (hm : notSet b = true) :
    PT X (.Compare a [op.op] [b] pos) (tTv G fun ρ S => (ma ρ S).bind fun x S1 => (mb ρ S1).bind fun y S2 => ofO (cmpV op x y S2) S2) := PT.imp (pt_cmpR (op_cmp (G := G) g.K g.hu op) ha hb (noMark hm)) fun σ H Q => by
  rintro ⟨f, ρ, S, t, S', re, rs, e, k⟩
  obtain ⟨x, S1, e1, e⟩ := R.bind_eq e
  obtain ⟨y, S2, e2, e⟩ := R.bind_eq e
  obtain ⟨e3, rfl⟩ := ofO_eq e
  exact ⟨f, ρ, S, x, S1, re, rs, e1, fun xv H1 f1 x1 r1 rv1 => ⟨f1, ρ, S1, y, _, re.ext x1, r1, e2, fun yv H2 f2 x2 r2 rv2 => ⟨f2, _, x, y, t, r2, rv1.ext x2, rv2, e3, t, rfl, k _ _ (x1.trans x2) r2⟩⟩⟩
theorem c_cmp2 (g : Good T G Gm L cc X) (o1 o2 : COp) (ha : PE X a (tEv G ma)) (hb : PE X b (tEv G mb)) (hc : PE X c (tEv G mc)) (hm : notSet b = true) (hm2 : notSet c = true) :
    PE X (.Compare a [o1.op, o2.op] [b, c] pos) (tEv G fun ρ S => (ma ρ S).bind fun x S1 => (mb ρ S1).bind fun y S2 => (ofO (cmpV o1 x y S2) S2).bind fun t S2 =>
      if t = true then (mc ρ S2).bind fun z S3 => (ofO (cmpV o2 y z S3) S3).bind fun t S3 => .ok (.bl t) S3 else .ok (.bl false) S2) :=
    PE.imp (pe_chain (op_cmp (G := G) g.K g.hu o1) (op_cmp (G := G) g.K g.hu o2) ha hb hc (show behindInMarks o2.op c = false from noMark hm2)) fun σ H Q => by
  rintro ⟨f, ρ, S, v, S', re, rs, e, k⟩
  obtain ⟨x, S1, e1, e⟩ := R.bind_eq e
  obtain ⟨y, S2, e2, e⟩ := R.bind_eq e
  obtain ⟨t, e3, e⟩ := bind_ofO e
  refine ⟨f, ρ, S, x, S1, re, rs, e1, fun xv H1 f1 x1 r1 rv1 => ⟨f1, ρ, S1, y, _, re.ext x1, r1, e2, fun yv H2 f2 x2 r2 rv2 => ⟨f2, _, x, y, t, r2, rv1.ext x2, rv2, e3, t, rfl, ?_⟩⟩⟩
  cases t with
  | true =>
    rw [if_pos rfl] at e ⊢
    obtain ⟨z, S4, e4, e⟩ := R.bind_eq e
    obtain ⟨t, e5, e⟩ := bind_ofO e
    obtain ⟨rfl, rfl⟩ := ok_inj e
    exact ⟨f2, ρ, _, z, _, (re.ext x1).ext x2, r2, e4, fun zv H4 f4 x4 r4 rv4 => ⟨f4, _, y, z, t, r4, rv2.ext x4, rv4, e5, k _ _ _ ((x1.trans x2).trans x4) r4 rfl⟩⟩
  | false =>
    rw [if_neg Bool.false_ne_true] at e ⊢
    obtain ⟨rfl, rfl⟩ := ok_inj e
    exact k _ _ _ (x1.trans x2) r2 rfl
theorem t_cmp2 (g : Good T G Gm L cc X) (o1 o2 : COp) (ha : PE X a (tEv G ma)) (hb : PE X b (tEv G mb)) (hc : PE X c (tEv G mc)) (hm : notSet b = true) (hm2 : notSet c = true) :
    PT X (.Compare a [o1.op, o2.op] [b, c] pos) (tTv G fun ρ S => (ma ρ S).bind fun x S1 => (mb ρ S1).bind fun y S2 => (ofO (cmpV o1 x y S2) S2).bind fun t S2 =>
      if t = true then (mc ρ S2).bind fun z S3 => ofO (cmpV o2 y z S3) S3 else .ok false S2) :=
    PT.imp (pt_chain (op_cmp (G := G) g.K g.hu o1) (op_cmp (G := G) g.K g.hu o2) ha hb hc (show behindInMarks o2.op c = false from noMark hm2)) fun σ H Q => by
  rintro ⟨f, ρ, S, v, S', re, rs, e, k⟩
  obtain ⟨x, S1, e1, e⟩ := R.bind_eq e
  obtain ⟨y, S2, e2, e⟩ := R.bind_eq e
  obtain ⟨t, e3, e⟩ := bind_ofO e
  refine ⟨f, ρ, S, x, S1, re, rs, e1, fun xv H1 f1 x1 r1 rv1 => ⟨f1, ρ, S1, y, _, re.ext x1, r1, e2, fun yv H2 f2 x2 r2 rv2 => ⟨f2, _, x, y, t, r2, rv1.ext x2, rv2, e3, t, rfl, ?_⟩⟩⟩
  cases t with
  | true =>
    rw [if_pos rfl] at e ⊢
    obtain ⟨z, S4, e4, e⟩ := R.bind_eq e
    obtain ⟨e5, rfl⟩ := ofO_eq e
    exact ⟨f2, ρ, _, z, _, (re.ext x1).ext x2, r2, e4, fun zv H4 f4 x4 r4 rv4 => ⟨f4, _, y, z, v, r4, rv2.ext x4, rv4, e5, v, rfl, k _ _ ((x1.trans x2).trans x4) r4⟩⟩
  | false =>
    rw [if_neg Bool.false_ne_true] at e ⊢
    obtain ⟨rfl, rfl⟩ := ok_inj e
    exact ⟨false, rfl, k _ _ (x1.trans x2) r2⟩
theorem c_ite {mt : Env → Store → R Bool} (hc : PT X c (tTv G mt)) (ha : PE X a (tEv G ma)) (hb : PE X b (tEv G mb)) :
    PE X (.IfExp c a b pos) (tEv G fun ρ S => (mt ρ S).bind fun t S1 => if t = true then ma ρ S1 else mb ρ S1) := PE.imp (pe_ifExp hc ha hb) fun σ H Q => by
  rintro ⟨f, ρ, S, v, S', re, rs, e, k⟩
  obtain ⟨t, S1, e1, e⟩ := R.bind_eq e
  refine ⟨f, ρ, S, t, S1, re, rs, e1, fun H1 f1 x1 r1 => ?_⟩
  cases t with
  | true =>
    rw [if_pos rfl] at e ⊢
    exact ⟨f1, ρ, S1, v, S', re.ext x1, r1, e, fun z H3 f3 x3 r3 rv3 => k z H3 f3 (x1.trans x3) r3 rv3⟩
  | false =>
    rw [if_neg Bool.false_ne_true] at e ⊢
    exact ⟨f1, ρ, S1, v, S', re.ext x1, r1, e, fun z H3 f3 x3 r3 rv3 => k z H3 f3 (x1.trans x3) r3 rv3⟩
theorem t_not {mt : Env → Store → R Bool} (ha : PT X a (tTv G mt)) : PT X (.UnaryOp .Not a pos) (tTv G fun ρ S => (mt ρ S).bind fun t S1 => .ok (!t) S1) := PT.imp (pt_not ha) fun σ H Q => by
  rintro ⟨f, ρ, S, v, S', re, rs, e, k⟩
  obtain ⟨t, S1, e1, e⟩ := R.bind_eq e
  obtain ⟨rfl, rfl⟩ := ok_inj e
  exact ⟨f, ρ, S, t, S1, re, rs, e1, fun H1 f1 x1 r1 => k _ _ x1 r1⟩
theorem t_and {mt mu : Env → Store → R Bool} {rest : List Expr} (ha : PT X a (tTv G mt)) (hb : PW X (.BoolOp .And (b :: rest) pos) (tTv G mu)) :
    PW X (.BoolOp .And (a :: b :: rest) pos) (tTv G fun ρ S => (mt ρ S).bind fun t S1 => if t = true then mu ρ S1 else .ok false S1) := PW.imp (pw_and ha hb) fun σ H Q => by
  rintro ⟨f, ρ, S, v, S', re, rs, e, k⟩
  obtain ⟨t, S1, e1, e⟩ := R.bind_eq e
  refine ⟨f, ρ, S, t, S1, re, rs, e1, fun H1 f1 x1 r1 => ?_⟩
  cases t with
  | true =>
    rw [if_pos rfl] at e ⊢
    exact ⟨f1, ρ, S1, v, S', re.ext x1, r1, e, fun H3 f3 x3 r3 => k H3 f3 (x1.trans x3) r3⟩
  | false =>
    rw [if_neg Bool.false_ne_true] at e ⊢
    obtain ⟨rfl, rfl⟩ := ok_inj e
    exact k _ _ x1 r1
theorem t_or {mt mu : Env → Store → R Bool} {rest : List Expr} (ha : PT X a (tTv G mt)) (hb : PW X (.BoolOp .Or (b :: rest) pos) (tTv G mu)) :
    PW X (.BoolOp .Or (a :: b :: rest) pos) (tTv G fun ρ S => (mt ρ S).bind fun t S1 => if t = true then .ok true S1 else mu ρ S1) := PW.imp (pw_or ha hb) fun σ H Q => by
  rintro ⟨f, ρ, S, v, S', re, rs, e, k⟩
  obtain ⟨t, S1, e1, e⟩ := R.bind_eq e
  refine ⟨f, ρ, S, t, S1, re, rs, e1, fun H1 f1 x1 r1 => ?_⟩
  cases t with
  | false =>
    rw [if_neg Bool.false_ne_true] at e ⊢
    exact ⟨f1, ρ, S1, v, S', re.ext x1, r1, e, fun H3 f3 x3 r3 => k H3 f3 (x1.trans x3) r3⟩
  | true =>
    rw [if_pos rfl] at e ⊢
    obtain ⟨rfl, rfl⟩ := ok_inj e
    exact k _ _ x1 r1
variable {es : List Expr} {ms : Env → Store → R (List Val)}
theorem c_tup {x1} (h : PA X es (tAv G ms)) : PE X (.Tuple es x1 pos) (tEv G fun ρ S => (ms ρ S).bind fun xs S1 => mkTup xs S1) := PE.imp (pe_tup h) fun σ H Q => by
  rintro ⟨f, ρ, S, v, S', re, rs, e, k⟩
  obtain ⟨xs, S1, e1, e⟩ := R.bind_eq e
  obtain ⟨hl, rfl, rfl⟩ := mk_tup_len e
  refine ⟨f, ρ, S, xs, _, re, rs, e1, fun ys H1 f1 x1 r1 rv1 => ⟨by rw [← rv1.len]; exact line_le hl, fun p hp => ?_⟩⟩
  obtain ⟨x2, r2, h2⟩ := new_tup r1 hp rv1
  exact k _ _ _ (x1.trans x2) r2 h2
theorem c_lst (m : Bool) (h : PA X es (tAv G ms)) : PE X (.List es pos) (tEv G fun ρ S => (ms ρ S).bind fun xs S1 => mkList m xs S1) := PE.imp (pe_lst h) fun σ H Q => by
  rintro ⟨f, ρ, S, v, S', re, rs, e, k⟩
  obtain ⟨xs, S1, e1, e⟩ := R.bind_eq e
  obtain ⟨hl, e2⟩ := mk_list_len e
  refine ⟨f, ρ, S, xs, _, re, rs, e1, fun ys H1 f1 x1 r1 rv1 => ⟨by rw [← rv1.len]; exact line_le hl, fun p hp => ?_⟩⟩
  obtain ⟨f2, x2, r2, h2⟩ := new_list r1 hp rv1 e2
  exact k _ _ _ (x1.trans x2) r2 h2
theorem c_ix (g : Good T G Gm L cc X) (ha : PE X a (tEv G ma)) (hb : PE X b (tEv G mb)) (hn : notSlice b = true) :
    PE X (.Subscript a b pos) (tEv G fun ρ S => (ma ρ S).bind fun x S1 => (mb ρ S1).bind fun y S2 => ofO (ixV x y S2) S2) := PE.imp (pe_ix (ix_V (G := G) g.K) ha hb (plainIx hn)) fun σ H Q => by
  rintro ⟨f, ρ, S, v, S', re, rs, e, k⟩
  obtain ⟨x, S1, e1, e⟩ := R.bind_eq e
  obtain ⟨y, S2, e2, e⟩ := R.bind_eq e
  obtain ⟨e3, rfl⟩ := ofO_eq e
  exact ⟨f, ρ, S, x, S1, re, rs, e1, fun xv H1 f1 x1 r1 rv1 => ⟨f1, ρ, S1, y, _, re.ext x1, r1, e2, fun yv H2 f2 x2 r2 rv2 => ⟨f2, _, x, y, v, r2, rv1.ext x2, rv2, e3, fun z hz => k _ _ _ (x1.trans x2) r2 hz⟩⟩⟩
/-- a bound of a slice -/
abbrev tOv (G : Gx) (m : Env → Store → R (Option Val)) : TO := fun σ H Q => ∃ f ρ S o i S', RE G f H ρ σ ∧ RS G f H S ∧ m ρ S = .ok o S' ∧ optI o = some i ∧ ∀ H' f', Ext f H f' H' → RS G f' H' S' → Q i H'
theorem PO.imp {e : Option Expr} {t t' : TO} (h : PO X e t) (k : ∀ σ H Q, t' σ H Q → t σ H Q) : PO X e t' := ⟨fun pins s σ H Q I q => h.run pins s σ H Q I (k _ _ _ q)⟩
theorem o_none : PO X none (tOv G fun _ S => .ok none S) := PO.imp po_none fun σ H Q => by
  rintro ⟨f, ρ, S, o, i, S', re, rs, e, eo, k⟩
  obtain ⟨rfl, rfl⟩ := ok_inj e
  cases eo
  exact k _ _ rs.ext rs
theorem o_some (ha : PE X a (tEv G ma)) : PO X (some a) (tOv G fun ρ S => (ma ρ S).bind fun x S1 => .ok (some x) S1) := PO.imp (po_some ha) fun σ H Q => by
  rintro ⟨f, ρ, S, o, i, S', re, rs, e, eo, k⟩
  obtain ⟨x, S1, e1, e⟩ := R.bind_eq e
  obtain ⟨rfl, rfl⟩ := ok_inj e
  cases x with
  | int j =>
    cases eo
    refine ⟨f, ρ, S, .int j, _, re, rs, e1, fun xv H1 f1 x1 r1 rv1 => ?_⟩
    cases rv1
    exact ⟨j, rfl, k _ _ x1 r1⟩
  | _ => cases eo
theorem c_sl (g : Good T G Gm L cc X) {lo hi : Option Expr} {p2 : Pos} {ml mh : Env → Store → R (Option Val)} (m : Bool) (ha : PE X a (tEv G ma)) (hl : PO X lo (tOv G ml)) (hh : PO X hi (tOv G mh)) :
    PE X (.Subscript a (.Slice lo hi none p2) pos) (tEv G fun ρ S => (ma ρ S).bind fun x S1 => (ml ρ S1).bind fun l S2 => (mh ρ S2).bind fun h S3 => match optI l, optI h with
    | some l, some h => slV m x l h S3
    | _, _ => .bad) := PE.imp (pe_slice (sl_V (G := G) g.K) ha hl hh) fun σ H Q => by
  rintro ⟨f, ρ, S, v, S', re, rs, e, k⟩
  obtain ⟨x, S1, e1, e⟩ := R.bind_eq e
  obtain ⟨l, S2, e2, e⟩ := R.bind_eq e
  obtain ⟨h, S3, e3, e⟩ := R.bind_eq e
  cases q1 : optI l with
  | none => simp only [q1] at e; cases e
  | some l' =>
    cases q2 : optI h with
    | none => simp only [q1, q2] at e; cases e
    | some h' =>
      simp only [q1, q2] at e
      exact ⟨f, ρ, S, x, S1, re, rs, e1, fun xv H1 f1 x1 r1 rv1 => ⟨f1, ρ, S1, l, l', _, re.ext x1, r1, e2, q1, fun H2 f2 x2 r2 => ⟨f2, ρ, S2, h, h', _, (re.ext x1).ext x2, r2, e3, q2, fun H3 f3 x3 r3 =>
        ⟨f3, _, m, x, v, S', r3, (rv1.ext x2).ext x3, e, fun z H4 f4 x4 r4 rv4 => k z H4 f4 (((x1.trans x2).trans x3).trans x4) r4 rv4⟩⟩⟩⟩
theorem c_fld (g : Good T G Gm L cc X) {f : String} {nm : Str} (hf : Str.ofString f = nm) (ha : PE X a (tEv G ma)) (hn : notSuper a = true) : PE X (.Attribute a nm pos) (tEv G fun ρ S => (ma ρ S).bind fun x S1 => fldV Gm x f S1) := by
  subst hf
  refine PE.imp (pe_fld ha (attr_plain hn)) fun σ H Q => ?_
  rintro ⟨f', ρ, S, v, S', re, rs, e, k⟩
  obtain ⟨x, S1, e1, e⟩ := R.bind_eq e
  unfold fldV at e
  cases q : objOf S1 x with
  | none => rw [q] at e; cases e
  | some p =>
    obtain ⟨c, fs⟩ := p
    rw [q] at e
    simp only at e
    by_cases hfl : Gm.fld c f = true
    · rw [if_pos hfl] at e
      obtain ⟨e2, rfl⟩ := ofO_eq e
      obtain ⟨h1, h2⟩ := g.fac.fld c f hfl
      refine ⟨f', ρ, S, x, _, re, rs, e1, fun xv H1 f1 x1 r1 rv1 => ?_⟩
      obtain ⟨ad, dx, hs, rfl, hH, hfs⟩ := obj_at r1 rv1 q
      obtain ⟨z, hz, rz⟩ := RFs.look ofString_inj hfs e2
      exact ⟨ad, _, dx, hs, z, rfl, hH, by rw [g.K]; exact h1, by rw [g.K]; exact h2, hz, k _ _ _ x1 r1 rz⟩
    · rw [if_neg hfl] at e
      cases q2 : Gm.prop c f with
      | none => rw [q2] at e; cases e
      | some pq => exact (g.fac.prop c f pq q2).elim
end
end Ev

set_option Elab.async false
set_option linter.all false
set_option maxRecDepth 100000
set_option maxHeartbeats 4000000
/-! ### Calls, comprehensions, walks -/
namespace Ev
open PySem PySem.Spec PyProof.Rows L2
section
variable {T : Tab} {G : Gx} {Gm : Gm} {L : Nat} {cc : CC} {X : Cx} {a b c : Expr} {pos : Pos} {ma mb mc : Env → Store → R Val} {args : List Expr} {kws : List Keyword} {ms mk : Env → Store → R (List Val)}
/-- what is known of the arguments' meaning -/
structure ArgsOk (args : List Expr) (ms : Env → Store → R (List Val)) : Prop where
  stars : noStars args = true
  len : ∀ ρ S xs S1, ms ρ S = .ok xs S1 → xs.length = args.length
  nil : args = [] → ∀ ρ S xs S1, ms ρ S = .ok xs S1 → xs = [] ∧ S1 = S
structure KwsOk (kws : List Keyword) (mk : Env → Store → R (List Val)) : Prop where
  named : (kws.all fun k => k.arg.isSome) = true
  len : ∀ ρ S xs S1, mk ρ S = .ok xs S1 → xs.length = kws.length
theorem c_call (g : Good T G Gm L cc X) {q : String} {sh : Nat} {x : Str} {p : Pos} (hq : Str.ofString q = x) (h2 : glB cc.sc x = true) (h3 : okN x = true) (ht : T.tops.contains q = true) (ha : PA X args (tAv G ms)) (hk : PK X kws (tAv G mk)) (ao : ArgsOk args ms) (ko : KwsOk kws mk)
    (hs : T.shs.contains (q, args.length, kwN kws, sh) = true) :
    PE X (.Call (.Name x p) args kws pos) (tEv G fun ρ S => (ms ρ S).bind fun xs S1 => (mk ρ S1).bind fun ys S2 => match Gm.arr sh (xs ++ ys) with
    | some us => Gm.call q us S2
    | none => .bad) := by
  subst hq
  refine ⟨fun pins s σ H Q I => ?_⟩
  rintro ⟨f, ρ, S, v, S', re, rs, e, k⟩
  obtain ⟨xs, S1, e1, e⟩ := R.bind_eq e
  obtain ⟨ys, S2, e2, e⟩ := R.bind_eq e
  obtain ⟨n3, _, _⟩ := okN_eq h3
  obtain ⟨hm, hkp⟩ := g.fac.top q ht
  obtain ⟨hq2, hsh⟩ := g.fac.sh q _ _ sh hs
  cases qa : Gm.arr sh (xs ++ ys) with
  | none => simp only [qa] at e; cases e
  | some us' =>
    simp only [qa] at e
    refine wpAny_Call_Name_kw (ld_glob I (g.gl h2) hm ?_ n3)
    refine call_args g hkp ha hk ao.stars ko.named I re rs e1 e2 (fun z => ao.nil z ρ S xs S1 e1) fun us ws s2 H2 f2 vs zs I2 x2 r2 rv rz ru rw => ?_
    rw [List.nil_append]
    have lu : us.length = args.length := by rw [← ru.length, ← rv.len, ao.len _ _ _ _ e1]
    have lw : ws.length = (kwN kws).length := by rw [kwN_len, ← rw.length, ← rz.len, ko.len _ _ _ _ e2]
    exact run_sh g hq2 hsh I2 lu lw r2 (rv.app rz) (ru.append rw) qa e fun z H3 f3 x3 r3 rv3 => k z H3 f3 (x2.trans x3) r3 rv3
/-! the end of a call -/
mutual
theorem RV.below {f : List Addr} {H : Hp} : ∀ {v : Val} {x : V}, RV G f H v x → v.bel f.length = true
  | .non, _, h => rfl
  | .bl _, _, h => rfl
  | .int _, _, h => rfl
  | .str _, _, h => rfl
  | .tup vs, x, h => by obtain ⟨a, xs, rfl, ht, hv⟩ := h; exact RVs.below hv
  | .fl vs, x, h => by obtain ⟨a, xs, rfl, ht, _, hv⟩ := h; exact RVs.below hv
  | .rl vs, x, h => by obtain ⟨a, xs, rfl, ht, hv⟩ := h; exact RVs.below hv
  | .fo c fs, x, h => by obtain ⟨a, dx, hs, rfl, ht, _, hv⟩ := h; exact RFs.below hv
  | .ref n, x, h => by
    obtain ⟨a, rfl, ha⟩ := h
    exact decide_eq_true (List.getElem?_eq_some_iff.mp ha).1
theorem RVs.below {f : List Addr} {H : Hp} : ∀ {v : List Val} {x : List V}, RVs G f H v x → Val.belL f.length v = true
  | [], _, h => rfl
  | v :: vs, _, h => by
    obtain ⟨x, r, rfl, h1, h2⟩ := h
    rw [Val.belL, RV.below h1, RVs.below h2]
    rfl
theorem RFs.below {f : List Addr} {H : Hp} : ∀ {v : List (String × Val)} {x : List (Str × V)}, RFs G f H v x → Val.belF f.length v = true
  | [], _, h => rfl
  | (g, v) :: vs, _, h => by
    obtain ⟨x, r, rfl, h1, h2⟩ := h
    rw [Val.belF, RV.below h1, RFs.below h2]
    rfl
end
theorem RK.bel {k : Val} {q : Key} (h : RK k q) (n : Nat) : k.bel n = true := by
  cases k with
  | int i => rfl
  | str s => rfl
  | _ => exact h.elim
theorem RKs.bel (n : Nat) : ∀ {ks : List Val} {qs : List Key}, RKs ks qs → Val.belL n ks = true
  | [], _, _ => rfl
  | k :: ks, _, h => by
    obtain ⟨q, r, rfl, h1, h2⟩ := h
    rw [Val.belL, h1.bel n, RKs.bel n h2]
    rfl
theorem RD.below {f : List Addr} {H : Hp} : ∀ {kvs : List (Val × Val)} {hs : List (Key × V)}, RD G f H kvs hs → belK f.length kvs = true
  | [], _, _ => rfl
  | (k, v) :: kvs, _, h => by
    obtain ⟨q, x, r, rfl, h1, h2, h3⟩ := h
    rw [belK, h1.bel, RV.below h2, RD.below h3]
    rfl
theorem RDT.below {f : List Addr} {H : Hp} : ∀ {kvs : List (Val × Val)} {hs : List (List Key × V)}, RDT G f H kvs hs → belK f.length kvs = true
  | [], _, _ => rfl
  | (k, v) :: kvs, _, h => by
    obtain ⟨q, x, r, ks, rfl, rfl, h1, h2, h3⟩ := h
    rw [belK, show Val.bel f.length (.tup ks) = true from RKs.bel _ h1, RV.below h2, RDT.below h3]
    rfl
theorem RC.below {f : List Addr} {H : Hp} {c : Cell} {a : Addr} (h : RC G f H c a) : c.bel f.length = true := by
  cases c with
  | lst vs => obtain ⟨xs, _, h⟩ := h; exact RVs.below h
  | obj c fs => obtain ⟨dx, hs, _, h⟩ := h; exact RFs.below h
  | dict kvs =>
    rcases h with ⟨hs, _, h⟩ | ⟨hs, _, h⟩
    · exact h.below
    · exact h.below
theorem RD.bel {f : List Addr} {H : Hp} {n : Nat} (hn : n ≤ f.length) : ∀ {kvs : List (Val × Val)} {hs : List (Key × V)}, RD G f H kvs hs → belK n kvs = true → RD G (f.take n) H kvs hs
  | [], _, h, _ => h
  | (k, v) :: kvs, _, h, e => by
    obtain ⟨q, x, r, rfl, h1, h2, h3⟩ := h
    rw [belK, Bool.and_eq_true, Bool.and_eq_true] at e
    exact ⟨q, x, r, rfl, h1, h2.bel hn e.1.2, RD.bel hn h3 e.2⟩
theorem RDT.bel {f : List Addr} {H : Hp} {n : Nat} (hn : n ≤ f.length) : ∀ {kvs : List (Val × Val)} {hs : List (List Key × V)}, RDT G f H kvs hs → belK n kvs = true → RDT G (f.take n) H kvs hs
  | [], _, h, _ => h
  | (k, v) :: kvs, _, h, e => by
    obtain ⟨q, x, r, ks, rfl, h0, h1, h2, h3⟩ := h
    rw [belK, Bool.and_eq_true, Bool.and_eq_true] at e
    exact ⟨q, x, r, ks, rfl, h0, h1, h2.bel hn e.1.2, RDT.bel hn h3 e.2⟩
theorem RC.bel {f : List Addr} {H : Hp} {n : Nat} (hn : n ≤ f.length) {c : Cell} {a : Addr} (h : RC G f H c a) (e : c.bel n = true) : RC G (f.take n) H c a := by
  cases c with
  | lst vs => obtain ⟨xs, h1, h2⟩ := h; exact ⟨xs, h1, h2.bel hn e⟩
  | obj c fs => obtain ⟨dx, hs, h1, h2⟩ := h; exact ⟨dx, hs, h1, h2.bel hn e⟩
  | dict kvs =>
    rcases h with ⟨hs, h1, h2⟩ | ⟨hs, h1, h2⟩
    · exact .inl ⟨hs, h1, h2.bel hn e⟩
    · exact .inr ⟨hs, h1, h2.bel hn e⟩
theorem exit_ok {f f1 : List Addr} {H H1 : Hp} {S S1 S' : Store} {v v' : Val} {x : V} (rs : RS G f H S) (x1 : Ext f H f1 H1) (r1 : RS G f1 H1 S1) (rv : RV G f1 H1 v x) (e : exitp S v S1 = .ok v' S') :
    Ext f H f H1 ∧ RS G f H1 S' ∧ RV G f H1 v' x := by
  unfold exitp at e
  cases q : freeze 8 S.length S1 v with
  | none => rw [q] at e; cases e
  | some w =>
    rw [q] at e
    simp only at e
    by_cases hk : KeepOk S S1
    · rw [if_pos hk] at e
      obtain ⟨rfl, rfl⟩ := ok_inj e
      obtain ⟨gg, hg, _⟩ := x1.pre
      have hn : S.length ≤ f1.length := by rw [r1.len]; exact hk.1
      have ht : f1.take S.length = f := by rw [hg, ← rs.len]; simp
      have h1 := freeze_ok r1 hn 8 rv q
      rw [ht] at h1
      refine ⟨⟨⟨[], by simp, by simp⟩, x1.keep, x1.live⟩, ⟨?_, rs.nd, fun n c a hc ha => ?_, fun a ha => ?_⟩, h1⟩
      · rw [List.length_take, rs.len]
        have := hk.1
        omega
      · have hl : n < S.length := by rw [← rs.len]; exact (List.getElem?_eq_some_iff.mp ha).1
        rw [List.getElem?_take_of_lt hl] at hc
        have h2 := r1.at_ n c a hc (x1.get ha)
        have h3 : c.bel S.length = true := by
          rcases hk.2 n S[n] c (List.getElem?_eq_getElem hl) hc with z | z
          · have h4 := (rs.at_ n S[n] a (List.getElem?_eq_getElem hl) ha).below
            rw [rs.len] at h4
            rw [z]
            exact h4
          · exact z
        have h5 := h2.bel hn h3
        rw [ht] at h5
        exact h5
      · obtain ⟨h2, h3⟩ := r1.out a ha
        exact ⟨fun z => h2 (by rw [hg]; exact List.mem_append_left _ z), h3⟩
    · rw [if_neg hk] at e
      cases e
/-! C(..) -/
theorem c_make (g : Good T G Gm L cc X) {m : Bool} {cl : String} {sh : Nat} {x : Str} {p : Pos} (hq : Str.ofString cl = x) (h2 : glB cc.sc x = true) (h3 : okN x = true) (ha : PA X args (tAv G ms)) (hk : PK X kws (tAv G mk)) (ao : ArgsOk args ms) (ko : KwsOk kws mk)
    (hs : (T.inits.all fun p => p.1 != cl || T.shs.contains (p.2, args.length + 1, kwN kws, sh)) = true) :
    PE X (.Call (.Name x p) args kws pos) (tEv G fun ρ S => (ms ρ S).bind fun xs S1 => (mk ρ S1).bind fun ys S2 => makeV Gm m cl sh (xs ++ ys) S2) := by
  subst hq
  refine ⟨fun pins s σ H Q I => ?_⟩
  rintro ⟨f, ρ, S, v, S', re, rs, e, k⟩
  obtain ⟨xs, S1, e1, e⟩ := R.bind_eq e
  obtain ⟨ys, S2, e2, e⟩ := R.bind_eq e
  obtain ⟨n3, _, _⟩ := okN_eq h3
  unfold makeV at e
  cases qi : Gm.init cl with
  | none => rw [qi] at e; cases e
  | some q =>
    cases qa : Gm.arr sh (.ref S2.length :: (xs ++ ys)) with
    | none => rw [qi, qa] at e; cases e
    | some us' =>
      rw [qi, qa] at e
      simp only at e
      obtain ⟨iv, S3, e3, e4⟩ := R.bind_eq e
      obtain ⟨hin, M, hm⟩ := g.fac.init cl q qi
      have hsh' : T.shs.contains (q, args.length + 1, kwN kws, sh) = true := by
        have := List.all_eq_true.mp hs (cl, q) hin
        simpa using this
      obtain ⟨hq2, hsh⟩ := g.fac.sh q _ _ sh hsh'
      have M' : Mk X.K (G.cls cl) (G.fa q) := by rw [g.K]; exact M
      refine wpAny_Call_Name_kw (ld_glob I (g.gl h2) hm ?_ n3)
      refine call_args g M.kp ha hk ao.stars ko.named I re rs e1 e2 (fun z => ao.nil z ρ S xs S1 e1) fun us ws s2 H2 f2 vs zs I2 x2 r2 rv rz ru rw => ?_
      rw [List.nil_append]
      have lu : (Value.ref (s2.heap.objs.size + 1) :: us).length = args.length + 1 := by rw [List.length_cons, ← ru.length, ← rv.len, ao.len _ _ _ _ e1]
      have lw : ws.length = (kwN kws).length := by rw [kwN_len, ← rw.length, ← rz.len, ko.len _ _ _ _ e2]
      have hx : H2 (s2.heap.objs.size + 1) = none := I2.hok.fresh (Nat.le_succ _)
      have hd : H2 s2.heap.objs.size = none := I2.hok.fresh (Nat.le_refl _)
      have hne : s2.heap.objs.size + 1 ≠ s2.heap.objs.size := Nat.succ_ne_self _
      have I3 := L2.Inv.made (C := G.cls cl) I2
      have hx' : upd H2 s2.heap.objs.size (.own (s2.heap.objs.size + 1)) (s2.heap.objs.size + 1) = none := by rw [upd_ne hne]; exact hx
      have r2' : RS G f2 (upd H2 s2.heap.objs.size (.own (s2.heap.objs.size + 1))) S2 := r2.new hd
      have x2' := Ext.new (o := .own (s2.heap.objs.size + 1)) r2 hd
      have x3 := Ext.cell (o := .ins (G.cls cl) s2.heap.objs.size []) r2' hx'
      have r3 : RS G (f2 ++ [s2.heap.objs.size + 1]) (upd (upd H2 s2.heap.objs.size (.own (s2.heap.objs.size + 1))) (s2.heap.objs.size + 1) (.ins (G.cls cl) s2.heap.objs.size [])) (S2 ++ [.obj cl []]) :=
        r2'.add hx' ⟨_, [], upd_same, rfl⟩
      have hself : RV G (f2 ++ [s2.heap.objs.size + 1]) (upd (upd H2 s2.heap.objs.size (.own (s2.heap.objs.size + 1))) (s2.heap.objs.size + 1) (.ins (G.cls cl) s2.heap.objs.size [])) (.ref S2.length) (.ref (s2.heap.objs.size + 1)) :=
        ⟨_, rfl, by rw [← r2.len]; simp⟩
      obtain ⟨xs', ds, b1, b2, b3, b4⟩ := hsh G.blk _ (Value.ref (s2.heap.objs.size + 1) :: us) ws _ _ _ us' (V.ref (s2.heap.objs.size + 1) :: (vs ++ zs)) (g.K ▸ I3.kIn) lu lw
        (RVs.cons hself ((rv.app rz).ext (x2'.trans x3))) (.cons rfl (ru.append rw)) qa
      refine wpAny_call (make_map (f := G.fa q) I2.kIn M'.makes M'.init (beq_iff_eq.mp M'.fn) (codeAny_mono ((g.call q hq2).run _ X.stack _ _ ⟨Value.ref (s2.heap.objs.size + 1) :: us, (kwN kws).zip ws⟩ ds xs'
        (fun v H4 => ∃ f4, Ext (f2 ++ [s2.heap.objs.size + 1]) (upd (upd H2 s2.heap.objs.size (.own (s2.heap.objs.size + 1))) (s2.heap.objs.size + 1) (.ins (G.cls cl) s2.heap.objs.size [])) f4 H4 ∧ RS G f4 H4 S3 ∧ RV G f4 H4 iv v) E0
        g.grd (g.room.make _ us ((kwN kws).zip ws)) (I3.env0.make _ us ((kwN kws).zip ws)) b4 b2 ⟨G.blk, _, _, us', iv, S3, r3, b1, e3, b3, fun z H4 f4 x4 r4 rv4 => ⟨f4, x4, r4, rv4⟩⟩) fun r s' hq => ?_))
      cases r with
      | error e => exact hq.elim
      | ok fl =>
        cases fl with
        | ret u =>
          obtain ⟨vv, H4, I4, rvv, f4, x4, r4, rv4⟩ := I3.after hq
          cases iv with
          | non =>
            cases rv4
            refine ⟨rvv, ?_⟩
            have xall := (x2.trans x2').trans (x3.trans x4)
            have hfin : RV G f4 H4 (.ref S2.length) (.ref (s2.heap.objs.size + 1)) := hself.ext x4
            cases m with
            | true =>
              rw [if_pos rfl] at e4
              obtain ⟨rfl, rfl⟩ := ok_inj e4
              exact ⟨.ref (s2.heap.objs.size + 1), H4, I4, rfl, k _ _ _ xall r4 hfin⟩
            | false =>
              rw [if_neg Bool.false_ne_true] at e4
              obtain ⟨y1, y2, y3⟩ := exit_ok r2 (x2'.trans (x3.trans x4)) r4 hfin e4
              exact ⟨.ref (s2.heap.objs.size + 1), H4, I4, rfl, k _ _ _ (x2.trans y1) y2 y3⟩
          | _ => cases e4
        | next => exact hq.elim
        | brk => exact hq.elim
        | cont => exact hq.elim
end
end Ev

set_option Elab.async false
set_option linter.all false
set_option maxRecDepth 100000
set_option maxHeartbeats 4000000
/-! ### Methods, built-ins, isinstance -/
namespace Ev
open PySem PySem.Spec PyProof.Rows L2
section
variable {T : Tab} {G : Gx} {Gm : Gm} {L : Nat} {cc : CC} {X : Cx} {a b c : Expr} {pos : Pos} {ma mb mc : Env → Store → R Val} {args : List Expr} {kws : List Keyword} {ms mk : Env → Store → R (List Val)}
theorem backTo_all {env : PySem.Env} {pos : Pos} : ∀ {es : List Expr}, noStars es = true → (backTo pos (starEach es env)).all (fun x => !x.1) = true
  | [], _ => rfl
  | e :: es, h => by
    rw [noStars, Bool.and_eq_true] at h
    rw [starEach_cons h.1]
    have := backTo_all (env := env) (pos := pos) h.2
    unfold backTo at this ⊢
    rw [List.map_cons, List.all_cons, this]
    rfl
theorem backTo_len {env : PySem.Env} {pos : Pos} : ∀ {kws : List Keyword}, (backToKw pos (keywordEach kws env)).length = kws.length
  | [] => rfl
  | ⟨_, _, _⟩ :: ks => by
    unfold backToKw keywordEach
    rw [List.map_cons, List.length_cons, List.length_cons]
    have := backTo_len (env := env) (pos := pos) (kws := ks)
    unfold backToKw at this
    rw [this]
theorem meth_eq {o : Expr} {m : Str} {apos : Pos} {env : PySem.Env} (h1 : notSuper o = true) (h2 : (apos.endLine == pos.line) = true) (h3 : args.length + kws.length < 29) (n1 : noStars args = true) (n2 : (kws.all fun k => k.arg.isSome) = true) :
    eval (.Call (.Attribute o m apos) args kws pos) env = (do
      let ov ← eval o env
      standAt apos.atName
      let (f, first) ← holding [ov] (getMethod ov m (do return (← importBound o env).getD true))
      callWith pos f first (backTo pos (starEach args env)) (backToKw pos (keywordEach kws env))) := by
  obtain ⟨k1, k2, k3⟩ := kw_all (pos := pos) (env := env) n2
  have hf : methodCallForm (args.length + kws.length) (backTo pos (starEach args env)) (backToKw pos (keywordEach kws env)) = true := by
    unfold methodCallForm
    rw [backTo_all n1, k1]
    simp only [Bool.true_and, decide_eq_true_eq]
    split <;> omega
  have e1 : eval (.Call (.Attribute o m apos) args kws pos) env = (do
      let ov ← attributeBase o m env (eval o env)
      standAt apos.atName
      methodCall o m apos pos env ov (args.length + kws.length) (backTo pos (starEach args env)) (backToKw pos (keywordEach kws env))) := by rfl
  rw [e1, attr_plain h1]
  unfold methodCall
  rw [hf]
  unfold calleeOf methodCallPos
  simp only [if_true, Bool.not_true, Bool.false_or, h2, pure_bind, bind_assoc]
theorem c_meth (g : Good T G Gm L cc X) {f : String} {sh : Nat} {nm : Str} {apos : Pos} (hq : Str.ofString f = nm) (hse : PE X a (tEv G ma)) (hn : notSuper a = true) (hl : (apos.endLine == pos.line) = true) (hc : args.length + kws.length < 29) (ha : PA X args (tAv G ms)) (hk : PK X kws (tAv G mk)) (ao : ArgsOk args ms) (ko : KwsOk kws mk)
    (hs : (T.meths.all fun p => p.2.1 != f || T.shs.contains (p.2.2, args.length + 1, kwN kws, sh)) = true) :
    PE X (.Call (.Attribute a nm apos) args kws pos) (tEv G fun ρ S => (ma ρ S).bind fun x S0 => (ms ρ S0).bind fun xs S1 => (mk ρ S1).bind fun ys S2 => methV Gm x f sh (xs ++ ys) S0 S2) := by
  subst hq
  refine ⟨fun pins s σ H Q I => ?_⟩
  rintro ⟨fl, ρ, S, v, S', re, rs, e, k⟩
  obtain ⟨o, S0, e0, e⟩ := R.bind_eq e
  obtain ⟨xs, S1, e1, e⟩ := R.bind_eq e
  obtain ⟨ys, S2, e2, e⟩ := R.bind_eq e
  unfold methV at e
  cases qo : objOf S0 o with
  | none => rw [qo] at e; cases e
  | some p =>
    obtain ⟨c, fs⟩ := p
    rw [qo] at e
    simp only at e
    cases ql : fs.lookup f with
    | some w => rw [ql] at e; cases e
    | none =>
      rw [ql] at e
      simp only at e
      cases qm : Gm.meth c f with
      | none => rw [qm] at e; cases e
      | some q =>
        cases qa : Gm.arr sh (o :: (xs ++ ys)) with
        | none => rw [qm, qa] at e; cases e
        | some us' =>
          rw [qm, qa] at e
          simp only at e
          obtain ⟨hin, hcl, hme⟩ := g.fac.meth c f q qm
          have hsh' : T.shs.contains (q, args.length + 1, kwN kws, sh) = true := by
            have := List.all_eq_true.mp hs (c, f, q) hin
            simpa using this
          obtain ⟨hq2, hsh⟩ := g.fac.sh q _ _ sh hsh'
          refine PySem.W.methodCall_KW (thn (hse.run pins s σ H (fun x H1 => ∃ f1, Ext fl H f1 H1 ∧ RS G f1 H1 S0 ∧ RV G f1 H1 o x) I ⟨fl, ρ, S, o, S0, re, rs, e0, fun z H1 f1 x1 r1 rv1 => ⟨f1, x1, r1, rv1⟩⟩) fun u s1 ⟨x, H1, I1, rx, f1, x1, r1, rv1⟩ => ?_) (meth_eq hn hl hc ao.stars ko.named)
          obtain ⟨ad, dx, hs', rfl, hH, hfs⟩ := obj_at r1 rv1 qo
          obtain rfl : u = Value.ref ad := rx
          refine getmeth_ok I1 hH (by rw [g.K]; exact hcl) (by rw [g.K]; exact hme) (RFs.lookN ofString_inj hfs ql) ?_
          refine call_args g hme.kp ha hk ao.stars ko.named I1 (re.ext x1) r1 e1 e2 (fun z => ao.nil z ρ S0 xs S1 e1) fun us ws s2 H2 f2 vs zs I2 x2 r2 rv rz ru rw => ?_
          have lu : (Value.ref ad :: us).length = args.length + 1 := by rw [List.length_cons, ← ru.length, ← rv.len, ao.len _ _ _ _ e1]
          have lw : ws.length = (kwN kws).length := by rw [kwN_len, ← rw.length, ← rz.len, ko.len _ _ _ _ e2]
          exact run_sh (us := Value.ref ad :: us) (xs := V.ref ad :: (vs ++ zs)) g hq2 hsh I2 lu lw r2 (RVs.cons (rv1.ext x2) (rv.app rz)) (.cons rfl (ru.append rw)) qa e fun z H3 f3 x3 r3 rv3 => k z H3 f3 ((x1.trans x2).trans x3) r3 rv3
/-! built-ins -/
theorem tCB_imp {m : List Val → Store → R Val} {σ : L2.St} {H : Hp} {Q : VK} (h : tEv G (fun ρ S => (ms ρ S).bind fun xs S1 => m xs S1) σ H Q) : tCB (rBl G m) (tAv G ms) σ H Q := by
  obtain ⟨f, ρ, S, v, S', re, rs, e, k⟩ := h
  obtain ⟨xs, S1, e1, e2⟩ := R.bind_eq e
  exact ⟨f, ρ, S, xs, S1, re, rs, e1, fun ys H1 f1 x1 r1 rv1 => ⟨f1, S1, xs, v, S', r1, rv1, e2, fun z H3 f3 x3 r3 rv3 => k z H3 f3 (x1.trans x3) r3 rv3⟩⟩
theorem c_blt (g : Good T G Gm L cc X) {x : Str} {p : Pos} (m : Bool) (f : Blt) (hq : Str.ofString f.nm = x) (h2 : glB cc.sc x = true) (hne : args ≠ []) (ha : PA X args (tAv G ms)) (n1 : noStars args = true) :
    PE X (.Call (.Name x p) args [] pos) (tEv G fun ρ S => (ms ρ S).bind fun xs S1 => bltV m f xs S1) := by
  subst hq
  cases args with
  | nil => exact absurd rfl hne
  | cons e es =>
    rw [noStars, Bool.and_eq_true] at n1
    have h5 := starEach_cons (es := es) (env := X.env) n1.1
    have h6 := starEach_any (env := X.env) (pos := pos) n1.2
    have gl := g.gl h2
    have bn : ∀ b : String, bltNames.contains b = true → X.mg (Str.ofString b) = none := g.fac.blt
    cases f with
    | len => exact PE.imp (pe_callB (bl_len (G := G) g.K) gl (bn _ (by decide)) (by decide +kernel) ha (by decide) (by decide) h5 h6) fun σ H Q h => tCB_imp h
    | int => exact PE.imp (pe_callTy (bl_int (G := G)) gl (bn _ (by decide)) (by decide +kernel) ha (by decide) (by decide) h5 h6) fun σ H Q h => tCB_imp h
    | str => exact PE.imp (pe_callTy (bl_str (G := G)) gl (bn _ (by decide)) (by decide +kernel) ha (by decide) (by decide) h5 h6) fun σ H Q h => tCB_imp h
    | repr => exact PE.imp (pe_callB (bl_repr (G := G) g.K g.grd g.hu) gl (bn _ (by decide)) (by decide +kernel) ha (by decide) (by decide) h5 h6) fun σ H Q h => tCB_imp h
    | tuple => exact PE.imp (pe_callTy (bl_tuple (G := G) g.K) gl (bn _ (by decide)) (by decide +kernel) ha (by decide) (by decide) h5 h6) fun σ H Q h => tCB_imp h
    | list => exact PE.imp (pe_callTy (bl_list (G := G) g.K m) gl (bn _ (by decide)) (by decide +kernel) ha (by decide) (by decide) h5 h6) fun σ H Q h => tCB_imp h
    | max => exact PE.imp (pe_callB (bl_max (G := G) g.K g.calm) gl (bn _ (by decide)) (by decide +kernel) ha (by decide) (by decide) h5 h6) fun σ H Q h => tCB_imp h
    | min => exact PE.imp (pe_callB (bl_min (G := G) g.K g.calm g.hu) gl (bn _ (by decide)) (by decide +kernel) ha (by decide) (by decide) h5 h6) fun σ H Q h => tCB_imp h
    | sum => exact PE.imp (pe_callB (bl_sum (G := G) g.K g.calm) gl (bn _ (by decide)) (by decide +kernel) ha (by decide) (by decide) h5 h6) fun σ H Q h => tCB_imp h
    | sorted => exact PE.imp (pe_callB (bl_sorted (G := G) g.K m) gl (bn _ (by decide)) (by decide +kernel) ha (by decide) (by decide) h5 h6) fun σ H Q h => tCB_imp h
    | abs => exact PE.imp (pe_callB (bl_abs (G := G)) gl (bn _ (by decide)) (by decide +kernel) ha (by decide) (by decide) h5 h6) fun σ H Q h => tCB_imp h
    | all => exact PE.imp (pe_callB (bl_all (G := G) g.K g.calm) gl (bn _ (by decide)) (by decide +kernel) ha (by decide) (by decide) h5 h6) fun σ H Q h => tCB_imp h
    | any => exact PE.imp (pe_callB (bl_any (G := G) g.K g.calm) gl (bn _ (by decide)) (by decide +kernel) ha (by decide) (by decide) h5 h6) fun σ H Q h => tCB_imp h
/-! methods of lists -/
theorem tBM_imp {m : Val → List Val → Store → R Val} (hK : X.K = G.K) {σ : L2.St} {H : Hp} {Q : VK} (h : tEv G (fun ρ S => (ma ρ S).bind fun x S0 => if isLst S0 x = true then (ms ρ S0).bind fun xs S1 => m x xs S1 else .bad) σ H Q) : tBM X.K "list" (rBM G m) (tEv G ma) (tAv G ms) σ H Q := by
  obtain ⟨f, ρ, S, v, S', re, rs, e, k⟩ := h
  obtain ⟨o, S0, e0, e⟩ := R.bind_eq e
  by_cases hi : isLst S0 o = true
  · rw [if_pos hi] at e
    obtain ⟨xs, S1, e1, e2⟩ := R.bind_eq e
    refine ⟨f, ρ, S, o, S0, re, rs, e0, fun x H0 f0 x0 r0 rv0 => ⟨by rw [hK]; exact isLst_ty r0 rv0 hi, f0, ρ, S0, xs, S1, re.ext x0, r0, e1, fun ys H1 f1 x1 r1 rv1 => ⟨f1, S1, o, xs, v, S', r1, rv0.ext x1, rv1, e2, fun z H3 f3 x3 r3 rv3 => k z H3 f3 ((x0.trans x1).trans x3) r3 rv3⟩⟩⟩
  · rw [if_neg hi] at e
    cases e
theorem tBM0_imp {m : Val → List Val → Store → R Val} (hK : X.K = G.K) (hms : ∀ ρ S xs S1, ms ρ S = .ok xs S1 → xs = [] ∧ S1 = S) {σ : L2.St} {H : Hp} {Q : VK} (h : tEv G (fun ρ S => (ma ρ S).bind fun x S0 => if isLst S0 x = true then (ms ρ S0).bind fun xs S1 => m x xs S1 else .bad) σ H Q) : tBM0 X.K "list" (rBM G m) (tEv G ma) σ H Q := by
  obtain ⟨f, ρ, S, v, S', re, rs, e, k⟩ := h
  obtain ⟨o, S0, e0, e⟩ := R.bind_eq e
  by_cases hi : isLst S0 o = true
  · rw [if_pos hi] at e
    obtain ⟨xs, S1, e1, e2⟩ := R.bind_eq e
    obtain ⟨rfl, rfl⟩ := hms _ _ _ _ e1
    refine ⟨f, ρ, S, o, _, re, rs, e0, fun x H0 f0 x0 r0 rv0 => ⟨by rw [hK]; exact isLst_ty r0 rv0 hi, f0, _, o, [], v, S', r0, rv0, rfl, e2, fun z H3 f3 x3 r3 rv3 => k z H3 f3 (x0.trans x3) r3 rv3⟩⟩
  · rw [if_neg hi] at e
    cases e
theorem c_bm (g : Good T G Gm L cc X) {nm : Str} {apos : Pos} (f : BM) (hok : f.ok = true) (har : f.ar args.length = true) (hq : Str.ofString f.nm = nm) (hse : PE X a (tEv G ma)) (hn : notSuper a = true) (hl : (apos.endLine == pos.line) = true) (ha : PA X args (tAv G ms)) (ao : ArgsOk args ms) :
    PE X (.Call (.Attribute a nm apos) args [] pos) (tEv G fun ρ S => (ma ρ S).bind fun x S0 => if isLst S0 x = true then (ms ρ S0).bind fun xs S1 => bmV f x xs S1 else .bad) := by
  subst hq
  have n1 := ao.stars
  have hb : ∀ n : Str, attributeBase a n X.env (eval a X.env) = eval a X.env := fun n => attr_plain hn
  cases args with
  | nil =>
    cases f with
    | pop => exact PE.imp (pe_bm0 PySem.F.plainAttrs_list PySem.F.slot_list_pop PySem.F.type_list_pop (bm_pop (G := G)) hse (hb _) hl) fun σ H Q h => tBM0_imp g.K (ao.nil rfl) h
    | reverse => exact PE.imp (pe_bm0 PySem.F.plainAttrs_list PySem.F.slot_list_reverse PySem.F.type_list_reverse (bm_reverse (G := G)) hse (hb _) hl) fun σ H Q h => tBM0_imp g.K (ao.nil rfl) h
    | clear => exact PE.imp (pe_bm0 PySem.F.plainAttrs_list PySem.F.slot_list_clear PySem.F.type_list_clear (bm_clear (G := G)) hse (hb _) hl) fun σ H Q h => tBM0_imp g.K (ao.nil rfl) h
    | _ => cases har
  | cons e es =>
    have hle : (e :: es).length < 29 := by
      cases f <;> simp only [BM.ar, beq_iff_eq, decide_eq_true_eq] at har <;> first | omega | cases har
    have hfew : ((backTo pos (starEach (e :: es) X.env)).all (fun x => !x.1) && (backToKw pos (keywordEach [] X.env)).all (fun x => x.1.isSome)
      && decide ((e :: es).length + ([] : List Keyword).length + (if ([] : List Keyword).isEmpty then 0 else 1) < 30)) = true := by
      rw [backTo_all n1]
      simp only [Bool.true_and, Bool.and_eq_true, decide_eq_true_eq]
      exact ⟨rfl, by simp at hle ⊢; omega⟩
    rw [noStars, Bool.and_eq_true] at n1
    have h5 := starEach_cons (es := es) (env := X.env) n1.1
    have h6 := starEach_any (env := X.env) (pos := pos) n1.2
    cases f with
    | append => exact PE.imp (pe_bm PySem.F.plainAttrs_list PySem.F.slot_list_append PySem.F.type_list_append (bm_append (G := G)) hse ha (hb _) hfew hl h5 h6) fun σ H Q h => tBM_imp g.K h
    | pop => exact PE.imp (pe_bm PySem.F.plainAttrs_list PySem.F.slot_list_pop PySem.F.type_list_pop (bm_pop (G := G)) hse ha (hb _) hfew hl h5 h6) fun σ H Q h => tBM_imp g.K h
    | extend => exact PE.imp (pe_bm PySem.F.plainAttrs_list PySem.F.slot_list_extend PySem.F.type_list_extend (bm_extend (G := G)) hse ha (hb _) hfew hl h5 h6) fun σ H Q h => tBM_imp g.K h
    | insert => exact PE.imp (pe_bm PySem.F.plainAttrs_list PySem.F.slot_list_insert PySem.F.type_list_insert (bm_insert (G := G)) hse ha (hb _) hfew hl h5 h6) fun σ H Q h => tBM_imp g.K h
    | index => exact PE.imp (pe_bm PySem.F.plainAttrs_list PySem.F.slot_list_index PySem.F.type_list_index (bm_index (G := G) g.K g.hu) hse ha (hb _) hfew hl h5 h6) fun σ H Q h => tBM_imp g.K h
    | reverse => simp [BM.ar] at har
    | clear => simp [BM.ar] at har
    | remove => cases hok
    | count => cases hok
/-! isinstance -/
theorem tk_at {f : List Addr} {H : Hp} {S : Store} {v : Val} {x : V} {t : TK} (F : Facts T G Gm X.mg) (r : RS G f H S) (h : RV G f H v x) (e : tkOf S v = some t) (hc : ∀ c, t = .c c → Cls G.K (G.cls c) ∧ PySem.W.findIn G.K (.ref (G.cls c)) "__class__" = some (some (.builtin "object.__class__")) ∧
    PySem.W.specialIn G.K (.builtin "object.__class__") "__get__" = some (some (.builtin "getset_descriptor.__get__")) ∧ PySem.W.takesIn G.K (.builtin "object.__class__") = some true ∧ PySem.W.mroIn G.K (G.cls c) (.type "object") = some true) : TyX G.K H x (tkv G t) := by
  have lst : ∀ {a : Addr} {xs : List V}, LstAt G f H a xs → TyX G.K H (.ref a) (.type "list") := by
    intro a xs h
    rcases h with ⟨h | ⟨o, h⟩, _⟩ | ⟨o, its, n, h1, h2, _⟩
    · exact .base (.lst h)
    · exact .base (.frz h)
    · exact .kList h1 h2
  have tup : ∀ {a : Addr} {xs : List V}, TupAt G f H a xs → TyX G.K H (.ref a) (.type "tuple") := by
    intro a xs h
    rcases h with ⟨h | ⟨o, h⟩, _⟩ | ⟨o, its, n, h1, h2, _⟩
    · exact .base (.tup h)
    · exact .fTuple h
    · exact .kTuple h1 h2
  cases v with
  | non => cases h; cases e; exact .base .non
  | bl b => cases h; cases e; exact .base (.bl b)
  | int i => cases h; cases e; exact .base (.int i)
  | str s => cases h; cases e; exact .base (.str s)
  | tup vs => obtain ⟨a, xs, rfl, ht, hv⟩ := h; cases e; exact tup ht
  | fl vs => obtain ⟨a, xs, rfl, ha, _, hv⟩ := h; cases e; exact .base (.lst ha)
  | rl vs => obtain ⟨a, xs, rfl, ht, hv⟩ := h; cases e; exact lst ht
  | fo c fs =>
    obtain ⟨a, dx, hs, rfl, ha, _, hf⟩ := h
    cases e
    obtain ⟨h1, h2, h3, h4, h5⟩ := hc c rfl
    exact .base (.ins ha h1 h2 h3 h4 h5)
  | ref k =>
    obtain ⟨a, rfl, ha⟩ := h
    simp only [tkOf] at e
    cases q : S[k]? with
    | none => rw [q] at e; cases e
    | some d =>
      rw [q] at e
      have rc := r.cell q ha
      cases d with
      | lst vs => obtain ⟨xs, h1, _⟩ := rc; cases e; exact .base (.lst h1)
      | obj c fs =>
        obtain ⟨dx, hs, h1, _⟩ := rc
        cases e
        obtain ⟨g1, g2, g3, g4, g5⟩ := hc c rfl
        exact .base (.ins h1 g1 g2 g3 g4 g5)
      | dict kvs =>
        cases e
        rcases rc with ⟨hs, h1, _⟩ | ⟨hs, h1, _⟩
        · exact .base (.dK h1)
        · exact .base (.dT h1)
/-- a type as a value -/
def tkV (G : Gx) : TK → V
  | .b n => .ty n
  | .c c => .ref (G.cls c)
theorem tk_cls (t : TK) : ClsV (tkV G t) (tkv G t) := by
  cases t with
  | b n => exact .ty n
  | c c => exact .own _
theorem c_tk (g : Good T G Gm L cc X) {t : TK} {e : Expr} (h : ckTK T cc t e = true) : PE X e (tC (tkV G t)) ∧ notStar e = true := by
  cases t with
  | b n =>
    cases e with
    | Name x p =>
      simp only [ckTK, Bool.and_eq_true, beq_iff_eq] at h
      obtain ⟨⟨⟨rfl, h2⟩, h3⟩, h4⟩ := h
      obtain ⟨n1, n2, n3⟩ := okN_eq h3
      refine ⟨?_, rfl⟩
      have hmem : n = "int" ∨ n = "bool" ∨ n = "str" ∨ n = "list" ∨ n = "tuple" ∨ n = "dict" := by simpa using h4
      rcases hmem with rfl | rfl | rfl | rfl | rfl | rfl
      · exact pe_bltn (g.gl h2) (g.fac.blt "int" (by decide)) (u := .type "int") (by decide +kernel) rfl n3 n1
      · exact pe_bltn (g.gl h2) (g.fac.blt "bool" (by decide)) (u := .type "bool") (by decide +kernel) rfl n3 n1
      · exact pe_bltn (g.gl h2) (g.fac.blt "str" (by decide)) (u := .type "str") (by decide +kernel) rfl n3 n1
      · exact pe_bltn (g.gl h2) (g.fac.blt "list" (by decide)) (u := .type "list") (by decide +kernel) rfl n3 n1
      · exact pe_bltn (g.gl h2) (g.fac.blt "tuple" (by decide)) (u := .type "tuple") (by decide +kernel) rfl n3 n1
      · exact pe_bltn (g.gl h2) (g.fac.blt "dict" (by decide)) (u := .type "dict") (by decide +kernel) rfl n3 n1
    | _ => cases h
  | c n =>
    cases e with
    | Name x p =>
      simp only [ckTK, Bool.and_eq_true, beq_iff_eq] at h
      obtain ⟨⟨⟨rfl, h2⟩, h3⟩, h4⟩ := h
      obtain ⟨n1, n2, n3⟩ := okN_eq h3
      exact ⟨pe_glob (g.gl h2) (g.fac.cls n h4) (u := .ref (G.cls n)) rfl n1, rfl⟩
    | _ => cases h
/-- the types' tuple -/
def tConst (vs : List V) : TA := fun _ H Q => Q vs H
theorem c_tks (g : Good T G Gm L cc X) : ∀ {ts : List TK} {es : List Expr}, ckTKs T cc ts es = true → PA X es (tConst (ts.map (tkV G))) ∧ Paired ClsV (ts.map (tkV G)) (ts.map (tkv G))
  | [], [], _ => ⟨PA.imp pa_nil fun _ _ _ h => h, .nil⟩
  | t :: ts, e :: es, h => by
    rw [ckTKs, Bool.and_eq_true] at h
    obtain ⟨h1, h2⟩ := c_tk g h.1
    obtain ⟨h3, h4⟩ := c_tks g h.2
    exact ⟨PA.imp (pa_cons h1 h3 (starEach_cons h2)) fun _ _ _ h => h, .cons (tk_cls t) h4⟩
theorem any_kit {t : TK} (F : Facts T G Gm X.mg) : ∀ {ts : List TK} {b : Bool}, anyTy Gm.isi t ts = some b → PySem.W.kitAny G.K (tkv G t) (ts.map (tkv G)) = some b
  | [], b, e => e
  | u :: us, b, e => by
    rw [List.map_cons]
    unfold PySem.W.kitAny
    unfold anyTy at e
    cases q : Gm.isi t u with
    | none => rw [q] at e; cases e
    | some c =>
      rw [q] at e
      rw [(F.isi t u c q).1]
      cases c with
      | true => exact e
      | false => exact any_kit F e
theorem isi_at {f : List Addr} {H : Hp} {S : Store} {v : Val} {x : V} {ts : List TK} {b : Bool} (F : Facts T G Gm X.mg) (r : RS G f H S) (h : RV G f H v x) (hne : ts ≠ []) (e : isiV Gm S v ts = some b) : ∃ t, TyX G.K H x (tkv G t) ∧ anyTy Gm.isi t ts = some b := by
  unfold isiV at e
  cases q : tkOf S v with
  | none => rw [q] at e; cases e
  | some t =>
    rw [q] at e
    refine ⟨t, tk_at F r h q ?_, e⟩
    cases ts with
    | nil => exact absurd rfl hne
    | cons u us =>
      unfold anyTy at e
      cases q2 : Gm.isi t u with
      | none => simp only [q2] at e; cases e
      | some c => exact (F.isi t u c q2).2
theorem c_isi (g : Good T G Gm L cc X) {x : Str} {p : Pos} {ts : List TK} {te : Expr} (hq : Str.ofString "isinstance" = x) (h2 : glB cc.sc x = true) (ha : PE X a (tEv G ma)) (hn : notStar a = true) (ht : ckTys T cc ts te = true) :
    PE X (.Call (.Name x p) [a, te] [] pos) (tEv G fun ρ S => (ma ρ S).bind fun x S1 => (ofO (isiV Gm S1 x ts) S1).bind fun t S1 => .ok (.bl t) S1) := by
  subst hq
  have tup : ∀ {ts : List TK} {es : List Expr} {k : Nat} {tp : Pos}, ts ≠ [] → ckTKs T cc ts es = true → es.length ≤ 100 → PE X (.Call (.Name (Str.ofString "isinstance") p) [a, .Tuple es k tp] [] pos) (tEv G fun ρ S => (ma ρ S).bind fun x S1 => (ofO (isiV Gm S1 x ts) S1).bind fun t S1 => .ok (.bl t) S1) := by
    intro ts es k tp hne h hl
    obtain ⟨h1, h3⟩ := c_tks g h
    have hl2 : (ts.map (tkV G)).length ≤ sizeLine := by
      have : ∀ {ts : List TK} {es : List Expr}, ckTKs T cc ts es = true → ts.length = es.length := by
        intro ts
        induction ts with
        | nil => intro es h; cases es <;> first | rfl | cases h
        | cons t ts ih =>
          intro es h
          cases es with
          | nil => cases h
          | cons e es =>
            rw [ckTKs, Bool.and_eq_true] at h
            rw [List.length_cons, List.length_cons, ih h.2]
      rw [List.length_map, this h]
      exact Nat.le_trans hl (by decide)
    refine PE.imp (pe_callB call_isiT (g.gl h2) (g.fac.blt "isinstance" (by decide)) (by decide +kernel) (pa_cons ha (pa_cons (pe_tup h1) pa_nil (by rfl)) (starEach_cons hn)) (by decide) (by decide) (starEach_cons hn) (by rfl)) fun σ H Q => ?_
    rintro ⟨f, ρ, S, v, S', re, rs, e, k⟩
    obtain ⟨x, S1, e1, e⟩ := R.bind_eq e
    obtain ⟨t, e2, e⟩ := bind_ofO e
    obtain ⟨rfl, rfl⟩ := ok_inj e
    refine ⟨f, ρ, S, x, _, re, rs, e1, fun xv H1 f1 x1 r1 rv1 => ⟨hl2, fun q hq => ?_⟩⟩
    have y1 := Ext.new (o := .tup (ts.map (tkV G))) r1 hq
    obtain ⟨tk, b1, b2⟩ := isi_at g.fac (r1.new hq) (rv1.ext y1) hne e2
    exact ⟨xv, q, ts.map (tkV G), tkv G tk, ts.map (tkv G), t, rfl, upd_same, h3, by rw [g.K]; exact b1, by rw [g.K]; exact any_kit g.fac b2, k _ _ _ (x1.trans y1) (r1.new hq) rfl⟩
  have one : ∀ {t : TK} {y : Str} {q : Pos}, ckTK T cc t (.Name y q) = true → PE X (.Call (.Name (Str.ofString "isinstance") p) [a, .Name y q] [] pos) (tEv G fun ρ S => (ma ρ S).bind fun x S1 => (ofO (isiV Gm S1 x [t]) S1).bind fun t S1 => .ok (.bl t) S1) := by
    intro t y q h
    obtain ⟨h1, _⟩ := c_tk g h
    refine PE.imp (pe_callB call_isi (g.gl h2) (g.fac.blt "isinstance" (by decide)) (by decide +kernel) (pa_cons ha (pa_cons h1 pa_nil (by rfl)) (starEach_cons hn)) (by decide) (by decide) (starEach_cons hn) (by rfl)) fun σ H Q => ?_
    rintro ⟨f, ρ, S, v, S', re, rs, e, k⟩
    obtain ⟨x, S1, e1, e⟩ := R.bind_eq e
    obtain ⟨c, e2, e⟩ := bind_ofO e
    obtain ⟨rfl, rfl⟩ := ok_inj e
    refine ⟨f, ρ, S, x, _, re, rs, e1, fun xv H1 f1 x1 r1 rv1 => ?_⟩
    obtain ⟨tk, b1, b2⟩ := isi_at g.fac r1 rv1 (by intro z; cases z) e2
    have b3 : Gm.isi tk t = some c := by
      unfold anyTy at b2
      cases q2 : Gm.isi tk t with
      | none => rw [q2] at b2; cases b2
      | some d =>
        rw [q2] at b2
        cases d with
        | true => exact b2
        | false => exact b2
    exact ⟨xv, tkV G t, tkv G tk, tkv G t, c, rfl, tk_cls t, by rw [g.K]; exact b1, by rw [g.K]; exact (g.fac.isi tk t c b3).1, k _ _ _ x1 r1 rfl⟩
  match ts, te, ht with
  | [t], .Name y q, ht => exact one ht
  | t :: ts, .Tuple es k tp, ht =>
    have ht : (ckTKs T cc (t :: ts) es && decide (es.length ≤ 100)) = true := by
      cases ts <;> exact ht
    rw [Bool.and_eq_true] at ht
    exact tup (by intro z; cases z) ht.1 (of_decide_eq_true ht.2)
end
end Ev

set_option Elab.async false
set_option linter.all false
set_option maxRecDepth 100000
set_option maxHeartbeats 4000000
/-! ### Targets, walks -/
namespace Ev
open PySem PySem.Spec PyProof.Rows L2 RT RZ
section
variable {T : Tab} {G : Gx} {Gm : Gm} {L : Nat} {cc : CC} {X : Cx} {a b c : Expr} {pos : Pos} {ma mb mc : Env → Store → R Val} {args : List Expr} {ms : Env → Store → R (List Val)}
theorem RE.set {f : List Addr} {H : Hp} {ρ : Env} {σ : L2.St} {v : Val} {x : V} (re : RE G f H ρ σ) (rv : RV G f H v x) (i : Nat) : RE G f H (ρ.set i (some v)) (σ.set i (some x)) := by
  refine ⟨by rw [List.length_set, List.length_set]; exact re.len, fun j w h => ?_⟩
  by_cases hj : i = j
  · subst hj
    have hl : i < ρ.length := by
      have := (List.getElem?_eq_some_iff.mp h).1
      rw [List.length_set] at this
      exact this
    rw [List.getElem?_set_self hl] at h
    cases h
    exact ⟨x, List.getElem?_set_self (by rw [← re.len]; exact hl), rv⟩
  · rw [List.getElem?_set_ne hj] at h
    rw [List.getElem?_set_ne hj]
    exact re.at_ j w h
theorem RE.cl {f : List Addr} {H : Hp} {ρ : Env} {σ : L2.St} (re : RE G f H ρ σ) : ∀ is : List Nat, RE G f H (clr is ρ) σ
  | [] => re
  | i :: is => by
    have ih := RE.cl re is
    refine ⟨by unfold Ev.clr; rw [List.length_set]; exact ih.len, fun j w h => ?_⟩
    unfold Ev.clr at h
    by_cases hj : i = j
    · subst hj
      by_cases hl : i < (Ev.clr is ρ).length
      · rw [List.getElem?_set_self hl] at h
        cases h
      · rw [List.getElem?_eq_none (by rw [List.length_set]; omega)] at h
        cases h
    · rw [List.getElem?_set_ne hj] at h
      exact ih.at_ j w h
theorem RE.wipe {f : List Addr} {H : Hp} {ρ : Env} {σ : L2.St} (re : RE G f H ρ σ) : ∀ is : List Nat, RE G f H (clr is ρ) (L2.wipe σ is)
  | [] => re
  | i :: is => by
    have ih := RE.wipe re is
    refine ⟨by unfold Ev.clr L2.wipe; rw [List.length_set, List.length_set]; exact ih.len, fun j w h => ?_⟩
    unfold Ev.clr at h
    unfold L2.wipe
    by_cases hj : i = j
    · subst hj
      by_cases hl : i < (Ev.clr is ρ).length
      · rw [List.getElem?_set_self hl] at h
        cases h
      · rw [List.getElem?_eq_none (by rw [List.length_set]; omega)] at h
        cases h
    · rw [List.getElem?_set_ne hj] at h ⊢
      exact ih.at_ j w h
theorem wipe_set {i : Nat} {x : Option V} : ∀ {is : List Nat} {σ : L2.St}, i ∈ is → L2.wipe (σ.set i x) is = L2.wipe σ is
  | [], σ, h => by cases h
  | j :: is, σ, h => by
    unfold L2.wipe
    by_cases hj : i ∈ is
    · rw [wipe_set hj]
    · have e : i = j := by
        rcases List.mem_cons.mp h with e | e
        · exact e
        · exact absurd e hj
      subst e
      have : ∀ {is : List Nat} {σ : L2.St}, i ∉ is → L2.wipe (σ.set i x) is = (L2.wipe σ is).set i x := by
        intro is
        induction is with
        | nil => intro σ _; rfl
        | cons k is ih =>
          intro σ hk
          rw [List.mem_cons, not_or] at hk
          unfold L2.wipe
          rw [ih hk.2, List.set_comm _ _ hk.1]
      rw [this hj, List.set_set]
theorem wipe_wipe (σ : L2.St) : ∀ is : List Nat, L2.wipe (L2.wipe σ is) is = L2.wipe σ is
  | [] => rfl
  | i :: is => by
    have e : ∀ τ : L2.St, L2.wipe τ (i :: is) = (L2.wipe τ is).set i none := fun _ => rfl
    by_cases hi : i ∈ is
    · rw [e, e, wipe_set hi, wipe_wipe σ is]
    · have : ∀ {is : List Nat} {σ : L2.St}, i ∉ is → L2.wipe (σ.set i none) is = (L2.wipe σ is).set i none := by
        intro is
        induction is with
        | nil => intro σ _; rfl
        | cons k is ih =>
          intro σ hk
          rw [List.mem_cons, not_or] at hk
          unfold L2.wipe
          rw [ih hk.2, List.set_comm _ _ hk.1]
      rw [e, e, this hi, List.set_set, wipe_wipe σ is]
/-! other places barred -/
theorem Out.re {f : List Addr} {H : Hp} {blk : List Addr} (hb : ∀ a, a ∈ blk → a ∈ G.blk ∨ H a = none) {a : Addr} {o : HO} (h : H a = some o) (m : Out G f a) : Out { G with blk := blk } f a := ⟨m.1, fun z => by
  rcases hb a z with q | q
  · exact m.2 q
  · rw [q] at h; cases h⟩
theorem Rd.re {f : List Addr} {H : Hp} {blk : List Addr} (hb : ∀ a, a ∈ blk → a ∈ G.blk ∨ H a = none) {a : Addr} {u : HO} (h : Rd H a u) (m : Out G f a) : Out { G with blk := blk } f a := by
  rcases h with h | ⟨o, h⟩
  · exact Out.re hb h m
  · exact Out.re hb h m
mutual
theorem RV.re {f : List Addr} {H : Hp} {blk : List Addr} (hb : ∀ a, a ∈ blk → a ∈ G.blk ∨ H a = none) : ∀ {v : Val} {x : V}, RV G f H v x → RV { G with blk := blk } f H v x
  | .non, _, h => h
  | .bl _, _, h => h
  | .int _, _, h => h
  | .str _, _, h => h
  | .tup vs, x, h => by
    obtain ⟨a, xs, rfl, ht, hv⟩ := h
    refine ⟨a, xs, rfl, ?_, RVs.re hb hv⟩
    rcases ht with ⟨r, m⟩ | k
    · exact .inl ⟨r, Rd.re hb r m⟩
    · exact .inr k
  | .fl vs, x, h => by
    obtain ⟨a, xs, rfl, ha, m, hv⟩ := h
    exact ⟨a, xs, rfl, ha, Out.re hb ha m, RVs.re hb hv⟩
  | .rl vs, x, h => by
    obtain ⟨a, xs, rfl, ht, hv⟩ := h
    refine ⟨a, xs, rfl, ?_, RVs.re hb hv⟩
    rcases ht with ⟨r, m⟩ | k
    · exact .inl ⟨r, Rd.re hb r m⟩
    · exact .inr k
  | .fo c fs, x, h => by
    obtain ⟨a, dx, hs, rfl, ha, m, hv⟩ := h
    exact ⟨a, dx, hs, rfl, ha, Out.re hb ha m, RFs.re hb hv⟩
  | .ref k, x, h => h
theorem RVs.re {f : List Addr} {H : Hp} {blk : List Addr} (hb : ∀ a, a ∈ blk → a ∈ G.blk ∨ H a = none) : ∀ {v : List Val} {x : List V}, RVs G f H v x → RVs { G with blk := blk } f H v x
  | [], _, h => h
  | v :: vs, _, h => by
    obtain ⟨x, r, rfl, h1, h2⟩ := h
    exact ⟨x, r, rfl, RV.re hb h1, RVs.re hb h2⟩
theorem RFs.re {f : List Addr} {H : Hp} {blk : List Addr} (hb : ∀ a, a ∈ blk → a ∈ G.blk ∨ H a = none) : ∀ {v : List (String × Val)} {x : List (Str × V)}, RFs G f H v x → RFs { G with blk := blk } f H v x
  | [], _, h => h
  | (g, v) :: vs, _, h => by
    obtain ⟨x, r, rfl, h1, h2⟩ := h
    exact ⟨x, r, rfl, RV.re hb h1, RFs.re hb h2⟩
end
/-! targets -/
theorem PG.or {tg : Expr} {t u : TG} (h : PG X tg t) (h' : PG X tg u) : PG X tg (fun v σ H Q => t v σ H Q ∨ u v σ H Q) := ⟨fun pins s σ H v w Q I r q => by
  rcases q with q | q
  · exact h.run pins s σ H v w Q I r q
  · exact h'.run pins s σ H v w Q I r q⟩
theorem PG.imp {tg : Expr} {t t' : TG} (h : PG X tg t) (k : ∀ v σ H Q, t' v σ H Q → t v σ H Q) : PG X tg t' := ⟨fun pins s σ H v u Q I r q => h.run pins s σ H v u Q I r (k _ _ _ _ q)⟩
theorem PGs.imp {tg : List Expr} {t t' : TGs} (h : PGs X tg t) (k : ∀ v σ H Q, t' v σ H Q → t v σ H Q) : PGs X tg t' := ⟨fun pins s σ H v u Q I r q => h.run pins s σ H v u Q I r (k _ _ _ _ q)⟩
abbrev Kept (own : Nat → Bool) (σ σ' : L2.St) : Prop := ∀ is : List Nat, (∀ i, own i = true → i ∈ is) → L2.wipe σ' is = L2.wipe σ is
abbrev tGv (G : Gx) (own : Nat → Bool) (t : Tg) : TG := fun x σ H Q => ∃ f ρ S v ρ', RE G f H ρ σ ∧ RS G f H S ∧ RV G f H v x ∧ asg S t v ρ = some ρ' ∧ ∀ σ', RE G f H ρ' σ' → Kept own σ σ' → Q σ' H
abbrev tGsv (G : Gx) (own : Nat → Bool) (t : List Tg) : TGs := fun x σ H Q => ∃ f ρ S v ρ', RE G f H ρ σ ∧ RS G f H S ∧ RVs G f H v x ∧ asgL S t v ρ = some ρ' ∧ ∀ σ', RE G f H ρ' σ' → Kept own σ σ' → Q σ' H
theorem assignEach_cons {e : Expr} {es : List Expr} {env : PySem.Env} (h : notStar e = true) : assignEach (e :: es) env = (false, assign e env) :: assignEach es env := by
  cases e <;> first | rfl | cases h
theorem ckTgs_stars {own : Nat → Bool} : ∀ {ts : List Tg} {es : List Expr}, ckTgs cc own ts es = true → noStars es = true ∧ ts.length = es.length
  | [], [], _ => ⟨rfl, rfl⟩
  | [], e :: es, h => by simp [ckTgs] at h
  | t :: ts, [], h => by simp [ckTgs] at h
  | t :: ts, e :: es, h => by
    simp only [ckTgs, Bool.and_eq_true] at h
    obtain ⟨h1, h2⟩ := ckTgs_stars h.2
    exact ⟨by rw [noStars, h.1.1, h1]; rfl, by simp [h2]⟩
theorem assignEach_facts {env : PySem.Env} : ∀ {es : List Expr}, noStars es = true → (assignEach es env).length = es.length ∧ (assignEach es env).findIdx? (·.1) = none
  | [], _ => ⟨rfl, rfl⟩
  | e :: es, h => by
    rw [noStars, Bool.and_eq_true] at h
    rw [assignEach_cons h.1]
    obtain ⟨h1, h2⟩ := assignEach_facts (env := env) h.2
    exact ⟨by simp [h1], by rw [List.findIdx?_cons, h2]; rfl⟩
theorem asgL_len {S : Store} : ∀ {ts : List Tg} {xs : List Val} {ρ ρ' : Env}, asgL S ts xs ρ = some ρ' → ts.length = xs.length
  | [], [], _, _, _ => rfl
  | [], x :: xs, _, _, h => by simp [asgL] at h
  | t :: ts, [], _, _, h => by simp [asgL] at h
  | t :: ts, x :: xs, ρ, ρ', h => by
    simp only [asgL] at h
    cases q : asg S t x ρ with
    | none => rw [q] at h; cases h
    | some ρ1 =>
      rw [q] at h
      rw [List.length_cons, List.length_cons, asgL_len h]
mutual
theorem pg_ok (g : Good T G Gm L cc X) {own : Nat → Bool} : ∀ (t : Tg) {e : Expr}, ckTg cc own t e = true → PG X e (tGv G own t)
  | .nm i, e, h => by
    cases e with
    | Name x p =>
      simp only [ckTg, Bool.and_eq_true, Bool.or_eq_true, decide_eq_true_eq] at h
      obtain ⟨⟨h1, h2⟩, h3⟩ := h
      have hl : Loc X.env.scope x := by
        rw [g.sc]
        rcases h3 with h3 | h3
        · exact .inl (kindB_eq h3)
        · exact .inr (kindB_eq h3.1)
      have hf : X.fn x = true ∨ X.env.scope.names.lookup x = some .local := by
        rw [g.sc, g.fn]
        rcases h3 with h3 | h3
        · exact .inr (kindB_eq h3)
        · exact .inl h3.2
      refine PG.imp (pg_name (i := i) (by rw [g.N]; exact g.nd) (by rw [g.N]; exact h1) hl hf) fun x σ H Q => ?_
      rintro ⟨f, ρ, S, v, ρ', re, rs, rv, e, k⟩
      simp only [asg] at e
      cases e
      exact k _ (re.set rv i) fun is his => wipe_set (his i h2)
    | _ => simp [ckTg] at h
  | .tup ts, e, h => by
    cases e with
    | Tuple es kk p =>
      simp only [ckTg] at h
      obtain ⟨h1, h2⟩ := ckTgs_stars h
      obtain ⟨h3, h4⟩ := assignEach_facts (env := X.env) h1
      have hs := pgs_ok g ts h
      refine PG.imp (PG.or (pg_tup g.calm hs h3 h4) (pg_unl g.calm hs h3 h4)) fun x σ H Q => ?_
      rintro ⟨f, ρ, S, v, ρ', re, rs, rv, e, k⟩
      simp only [asg] at e
      cases q : seqOf S v with
      | none => rw [q] at e; cases e
      | some vs =>
        rw [q] at e
        obtain ⟨ad, xs, rfl, hv, ht⟩ := seq_at rs rv q
        have hl : xs.length = es.length := by rw [← hv.len, ← asgL_len e, h2]
        rcases ht with ⟨_, ht⟩ | ⟨_, ht⟩
        · exact .inl ⟨ad, xs, rfl, by rw [g.K]; exact ht, hl, f, ρ, S, vs, ρ', re, rs, hv, e, k⟩
        · exact .inr ⟨ad, xs, rfl, by rw [g.K]; exact ht, hl, f, ρ, S, vs, ρ', re, rs, hv, e, k⟩
    | _ => simp [ckTg] at h
theorem pgs_ok (g : Good T G Gm L cc X) {own : Nat → Bool} : ∀ (ts : List Tg) {es : List Expr}, ckTgs cc own ts es = true → PGs X es (tGsv G own ts)
  | [], es, h => by
    cases es with
    | nil =>
      refine PGs.imp pgs_nil fun x σ H Q => ?_
      rintro ⟨f, ρ, S, v, ρ', re, rs, rv, e, k⟩
      cases v with
      | nil =>
        simp only [asgL] at e
        cases e
        cases rv
        exact ⟨rfl, k σ re fun _ _ => rfl⟩
      | cons => simp [asgL] at e
    | cons => simp [ckTgs] at h
  | t :: ts, es, h => by
    cases es with
    | nil => simp [ckTgs] at h
    | cons e es =>
      simp only [ckTgs, Bool.and_eq_true] at h
      have h1 := pg_ok g t h.1.2
      have h2 := pgs_ok g ts h.2
      refine PGs.imp (pgs_cons h1 h2 (by rw [assignEach_cons h.1.1]; rfl)) fun x σ H Q => ?_
      rintro ⟨f, ρ, S, v, ρ', re, rs, rv, e', k⟩
      cases v with
      | nil => simp [asgL] at e'
      | cons v vs =>
        obtain ⟨y, r, rfl, r1, r2⟩ := rv
        simp only [asgL] at e'
        cases q : asg S t v ρ with
        | none => rw [q] at e'; cases e'
        | some ρ1 =>
          rw [q] at e'
          exact ⟨y, r, rfl, f, ρ, S, v, ρ1, re, rs, r1, q, fun σ1 re1 k1 => ⟨f, ρ1, S, vs, ρ', re1, rs, r2, e', fun σ2 re2 k2 => k σ2 re2 fun is his => (k2 is his).trans (k1 is his)⟩⟩
end
/-! walks -/
theorem seq_gd {f f2 : List Addr} {H H2 : Hp} {S S2 : Store} {v : Val} {vs : List Val} (e : seqOf S v = some vs) (h : gdOk (gdOf S v) S2) : seqOf S2 v = some vs := by
  cases v with
  | ref k =>
    simp only [seqOf] at e ⊢
    cases q : S[k]? with
    | none => rw [q] at e; cases e
    | some c =>
      rw [q] at e
      simp only [gdOf, q] at h
      rw [(gdOk_one k c S2).mp h]
      exact e
  | _ => exact e
/-- a list or a tuple, as it stands at each turn -/
theorem seq_now {f f2 : List Addr} {H H2 : Hp} {S S2 : Store} {v : Val} {vs : List Val} {ad : Addr} (rv : RV G f H v (.ref ad)) (e : seqOf S v = some vs) (x2 : Ext f H f2 H2) (r2 : RS G f2 H2 S2) (hg : gdOk (gdOf S v) S2) :
    ∃ xs, RVs G f2 H2 vs xs ∧ ((isTup v = true ∧ SqT G.K H2 ad xs) ∨ (isTup v = false ∧ SqL G.K H2 ad xs)) := by
  obtain ⟨a', xs, e', hv, ht⟩ := seq_at r2 (rv.ext x2) (seq_gd (f := f) (f2 := f2) (H := H) (H2 := H2) e hg)
  cases e'
  exact ⟨xs, hv, ht⟩
theorem wlk_list {f : List Addr} {H : Hp} {S : Store} {v : Val} {vs : List Val} {ad : Addr} (rv : RV G f H v (.ref ad)) (e : seqOf S v = some vs) (hn : isTup v = false) : Wlk G f H vs (gdOf S v) (Itl G.K ad) := by
  intro blk hb f2 H2 S2 x2 r2 hg
  obtain ⟨xs, hv, ht⟩ := seq_now (rv.re hb) e x2 r2 hg
  rcases ht with ⟨z, _⟩ | ⟨_, ht⟩
  · rw [z] at hn; cases hn
  · refine ⟨⟨xs, ht, by rw [hv.len]; exact Nat.le_refl _⟩, fun i w hw => ?_⟩
    obtain ⟨y, hy, ry⟩ := hv.get hw
    refine ⟨⟨xs, y, ht, hy⟩, fun x H3 hyl => ?_⟩
    obtain ⟨rfl, h3⟩ := hyl
    have h4 := h3 xs ht
    rw [hy] at h4
    cases h4
    exact ⟨r2.ext, r2, ry⟩
theorem wlk_tup {f : List Addr} {H : Hp} {S : Store} {v : Val} {vs : List Val} {ad : Addr} (rv : RV G f H v (.ref ad)) (e : seqOf S v = some vs) (hn : isTup v = true) : Wlk G f H vs (gdOf S v) (Itt G.K ad) := by
  intro blk hb f2 H2 S2 x2 r2 hg
  obtain ⟨xs, hv, ht⟩ := seq_now (rv.re hb) e x2 r2 hg
  rcases ht with ⟨_, ht⟩ | ⟨z, _⟩
  · refine ⟨⟨xs, ht, by rw [hv.len]; exact Nat.le_refl _⟩, fun i w hw => ?_⟩
    obtain ⟨y, hy, ry⟩ := hv.get hw
    refine ⟨⟨xs, y, ht, hy⟩, fun x H3 hyl => ?_⟩
    obtain ⟨rfl, h3⟩ := hyl
    have h4 := h3 xs ht
    rw [hy] at h4
    cases h4
    exact ⟨r2.ext, r2, ry⟩
  · rw [z] at hn; cases hn
theorem rev_get {vs : List Val} {i : Nat} {w : Val} (h : vs.reverse[i]? = some w) : i < vs.length ∧ vs[vs.length - 1 - i]? = some w := by
  have hi := (List.getElem?_eq_some_iff.mp h).1
  rw [List.length_reverse] at hi
  rw [List.getElem?_reverse hi] at h
  exact ⟨hi, h⟩
theorem wlk_revL {f : List Addr} {H : Hp} {S : Store} {v : Val} {vs : List Val} {ad : Addr} (rv : RV G f H v (.ref ad)) (e : seqOf S v = some vs) (hn : isTup v = false) : Wlk G f H vs.reverse (gdOf S v) (Itv G.K ad vs.length) := by
  intro blk hb f2 H2 S2 x2 r2 hg
  obtain ⟨xs, hv, ht⟩ := seq_now (rv.re hb) e x2 r2 hg
  rcases ht with ⟨z, _⟩ | ⟨_, ht⟩
  · rw [z] at hn; cases hn
  · refine ⟨by rw [List.length_reverse]; exact Nat.le_refl _, fun i w hw => ?_⟩
    obtain ⟨hi, hw⟩ := rev_get hw
    obtain ⟨y, hy, ry⟩ := hv.get hw
    refine ⟨⟨hi, xs, y, ht, hy⟩, fun x H3 hyl => ?_⟩
    obtain ⟨rfl, h3⟩ := hyl
    have h4 := h3 xs ht
    rw [hy] at h4
    cases h4
    exact ⟨r2.ext, r2, ry⟩
theorem wlk_revT {f : List Addr} {H : Hp} {S : Store} {v : Val} {vs : List Val} {ad : Addr} (rv : RV G f H v (.ref ad)) (e : seqOf S v = some vs) (hn : isTup v = true) : Wlk G f H vs.reverse (gdOf S v) (ItvT G.K ad vs.length) := by
  intro blk hb f2 H2 S2 x2 r2 hg
  obtain ⟨xs, hv, ht⟩ := seq_now (rv.re hb) e x2 r2 hg
  rcases ht with ⟨_, ht⟩ | ⟨z, _⟩
  · refine ⟨by rw [List.length_reverse]; exact Nat.le_refl _, fun i w hw => ?_⟩
    obtain ⟨hi, hw⟩ := rev_get hw
    obtain ⟨y, hy, ry⟩ := hv.get hw
    refine ⟨⟨hi, xs, y, ht, hy⟩, fun x H3 hyl => ?_⟩
    obtain ⟨rfl, h3⟩ := hyl
    have h4 := h3 xs ht
    rw [hy] at h4
    cases h4
    exact ⟨r2.ext, r2, ry⟩
  · rw [z] at hn; cases hn
theorem rangeL_len (lo hi : Int) : (rangeL lo hi).length = (hi - lo).toNat := by simp [rangeL]
theorem rangeL_get {lo hi : Int} {i : Nat} {w : Val} (h : (rangeL lo hi)[i]? = some w) : i < (hi - lo).toNat ∧ w = .int (lo + (i : Int)) := by
  have hi' := (List.getElem?_eq_some_iff.mp h).1
  rw [rangeL_len] at hi'
  refine ⟨hi', ?_⟩
  unfold rangeL at h
  rw [List.getElem?_map, List.getElem?_range hi'] at h
  exact (Option.some.inj h).symm
theorem wlk_range {f : List Addr} {H : Hp} (lo hi : Int) : Wlk G f H (rangeL lo hi) [] (Itr lo (hi - lo).toNat) := by
  intro blk hb f2 H2 S2 x2 r2 hg
  refine ⟨by rw [rangeL_len]; exact Nat.le_refl _, fun i w hw => ?_⟩
  obtain ⟨h1, rfl⟩ := rangeL_get hw
  refine ⟨h1, fun x H3 hyl => ?_⟩
  obtain ⟨rfl, rfl⟩ := hyl
  exact ⟨r2.ext, r2, rfl⟩
theorem wlk_rangeR {f : List Addr} {H : Hp} (lo hi : Int) : Wlk G f H (rangeL lo hi).reverse [] (Itc (lo + (((hi - lo).toNat : Nat) : Int) - 1) (-1) (hi - lo).toNat) := by
  intro blk hb f2 H2 S2 x2 r2 hg
  refine ⟨by rw [List.length_reverse, rangeL_len]; exact Nat.le_refl _, fun i w hw => ?_⟩
  obtain ⟨h0, hw⟩ := rev_get hw
  rw [rangeL_len] at h0 hw
  obtain ⟨h1, rfl⟩ := rangeL_get hw
  refine ⟨h0, fun x H3 hyl => ?_⟩
  obtain ⟨rfl, rfl⟩ := hyl
  refine ⟨r2.ext, r2, ?_⟩
  show V.int _ = V.int _
  congr 1
  omega
theorem wlk_enum {f : List Addr} {H : Hp} {S : Store} {v : Val} {vs : List Val} {ad : Addr} (rv : RV G f H v (.ref ad)) (e : seqOf S v = some vs) (hn : isTup v = false) : Wlk G f H (vs.zipIdx.map fun p => .tup [.int (p.2 : Nat), p.1]) (gdOf S v) (Ite G.K ad) := by
  intro blk hb f2 H2 S2 x2 r2 hg
  obtain ⟨xs, hv, ht⟩ := seq_now (rv.re hb) e x2 r2 hg
  rcases ht with ⟨z, _⟩ | ⟨_, ht⟩
  · rw [z] at hn; cases hn
  · refine ⟨⟨xs, ht, by rw [List.length_map, List.length_zipIdx, hv.len]; exact Nat.le_refl _⟩, fun i w hw => ?_⟩
    rw [List.getElem?_map, List.getElem?_zipIdx] at hw
    cases q : vs[i]? with
    | none => rw [q] at hw; cases hw
    | some w' =>
      rw [q] at hw
      have hw : Val.tup [.int ((0 + i : Nat) : Int), w'] = w := Option.some.inj hw
      rw [Nat.zero_add] at hw
      subst hw
      obtain ⟨y, hy, ry⟩ := hv.get q
      refine ⟨⟨xs, y, ht, hy⟩, fun x H3 hyl => ?_⟩
      obtain ⟨Tq, z, rfl, hT, rfl, h3⟩ := hyl
      have h4 := h3 xs ht
      rw [hy] at h4
      cases h4
      exact new_tup r2 hT (RVs.cons (v := .int (i : Nat)) rfl (RVs.cons ry RVs.nil))
theorem zip_get {vs ws : List Val} {i : Nat} {w : Val} (h : ((vs.zip ws).map fun p => Val.tup [p.1, p.2])[i]? = some w) : ∃ x y, vs[i]? = some x ∧ ws[i]? = some y ∧ w = .tup [x, y] := by
  rw [List.getElem?_map] at h
  cases q : (vs.zip ws)[i]? with
  | none => rw [q] at h; cases h
  | some p =>
    rw [q] at h
    obtain ⟨h1, h2⟩ := List.getElem?_zip_eq_some.mp q
    exact ⟨p.1, p.2, h1, h2, (Option.some.inj h).symm⟩
theorem gdOk_app {gs hs : List (Nat × Cell)} {S : Store} (h : gdOk (gs ++ hs) S) : gdOk gs S ∧ gdOk hs S := ⟨fun p hp => h p (List.mem_append_left _ hp), fun p hp => h p (List.mem_append_right _ hp)⟩
theorem wlk_zipL {f : List Addr} {H : Hp} {S : Store} {v w : Val} {vs ws : List Val} {ad bd : Addr} (rv : RV G f H v (.ref ad)) (rw_ : RV G f H w (.ref bd)) (e : seqOf S v = some vs) (e2 : seqOf S w = some ws) (hn : isTup v = false) (hn2 : isTup w = false) :
    Wlk G f H ((vs.zip ws).map fun p => .tup [p.1, p.2]) (gdOf S v ++ gdOf S w) (Itz G.K ad bd) := by
  intro blk hb f2 H2 S2 x2 r2 hg
  obtain ⟨xs, hv, ht⟩ := seq_now (rv.re hb) e x2 r2 (gdOk_app hg).1
  obtain ⟨ys, hv2, ht2⟩ := seq_now (rw_.re hb) e2 x2 r2 (gdOk_app hg).2
  rcases ht with ⟨z, _⟩ | ⟨_, ht⟩
  · rw [z] at hn; cases hn
  rcases ht2 with ⟨z, _⟩ | ⟨_, ht2⟩
  · rw [z] at hn2; cases hn2
  have l1 := hv.len
  have l2 := hv2.len
  refine ⟨⟨xs, ys, ht, ht2, by rw [List.length_map, List.length_zip]; omega⟩, fun i u hu => ?_⟩
  obtain ⟨x, y, h1, h2, rfl⟩ := zip_get hu
  obtain ⟨x', hx, rx⟩ := hv.get h1
  obtain ⟨y', hy, ry⟩ := hv2.get h2
  refine ⟨⟨xs, ys, x', y', ht, ht2, hx, hy⟩, fun u' H3 hyl => ?_⟩
  obtain ⟨Tq, z1, z2, rfl, hT, rfl, h3, h4⟩ := hyl
  have h5 := h3 xs ht
  have h6 := h4 ys ht2
  rw [hx] at h5
  rw [hy] at h6
  cases h5
  cases h6
  exact new_tup r2 hT (RVs.cons rx (RVs.cons ry RVs.nil))
theorem wlk_zipT {f : List Addr} {H : Hp} {S : Store} {v w : Val} {vs ws : List Val} {ad bd : Addr} (rv : RV G f H v (.ref ad)) (rw_ : RV G f H w (.ref bd)) (e : seqOf S v = some vs) (e2 : seqOf S w = some ws) (hn : isTup v = true) (hn2 : isTup w = true) :
    Wlk G f H ((vs.zip ws).map fun p => .tup [p.1, p.2]) (gdOf S v ++ gdOf S w) (ItzT G.K ad bd) := by
  intro blk hb f2 H2 S2 x2 r2 hg
  obtain ⟨xs, hv, ht⟩ := seq_now (rv.re hb) e x2 r2 (gdOk_app hg).1
  obtain ⟨ys, hv2, ht2⟩ := seq_now (rw_.re hb) e2 x2 r2 (gdOk_app hg).2
  rcases ht with ⟨_, ht⟩ | ⟨z, _⟩
  rotate_left
  · rw [z] at hn; cases hn
  rcases ht2 with ⟨_, ht2⟩ | ⟨z, _⟩
  rotate_left
  · rw [z] at hn2; cases hn2
  have l1 := hv.len
  have l2 := hv2.len
  refine ⟨⟨xs, ys, ht, ht2, by rw [List.length_map, List.length_zip]; omega⟩, fun i u hu => ?_⟩
  obtain ⟨x, y, h1, h2, rfl⟩ := zip_get hu
  obtain ⟨x', hx, rx⟩ := hv.get h1
  obtain ⟨y', hy, ry⟩ := hv2.get h2
  refine ⟨⟨xs, ys, x', y', ht, ht2, hx, hy⟩, fun u' H3 hyl => ?_⟩
  obtain ⟨Tq, z1, z2, rfl, hT, rfl, h3, h4⟩ := hyl
  have h5 := h3 xs ht
  have h6 := h4 ys ht2
  rw [hx] at h5
  rw [hy] at h6
  cases h5
  cases h6
  exact new_tup r2 hT (RVs.cons rx (RVs.cons ry RVs.nil))
/-- what a list or a tuple walks -/
def iAny (K : PySem.W.Frag) (tl : TE) : TI := fun σ H R => tl σ H fun x H1 => ∃ a, x = .ref a ∧ (((∃ xs, SqL K H1 a xs) ∧ R (Itl K a) H1) ∨ ((∃ xs, SqT K H1 a xs) ∧ R (Itt K a) H1))
theorem pi_any {tg l : Expr} {tl : TE} (hl : PE X l tl) : PI X tg l (iAny X.K tl) := by
  refine ⟨fun pins s σ H R I h => ?_⟩
  refine thn (hl.run pins s σ H _ I h) fun v s1 ⟨x, H1, I1, r1, q1⟩ => ?_
  obtain ⟨a, e, q⟩ := q1
  subst e
  cases r1
  rcases q with ⟨⟨xs, hq⟩, q⟩ | ⟨⟨xs, hq⟩, q⟩
  · obtain ⟨its, rv, p, hz⟩ := I1.list hq
    refine wpAny_pyIter_list p.isList ?_
    refine ⟨s1.heap.objs.size, [s1.heap.objs.size], _, _, H1, rfl, I1.kept (t' := s1.toks) fun b o e => Heap.get?_push_of_some _ e, turn_list a _, ⟨_, Heap.get?_push_size _ rfl, rfl, rfl⟩, fun b hb => ?_, q⟩
    have e : b = s1.heap.objs.size := by simpa using hb
    subst e
    exact I1.fpOk (Nat.le_refl _) (I1.hok.fresh (Nat.le_refl _))
  · obtain ⟨its, rv, p, hz⟩ := I1.tuple hq
    refine wpAny_pyIter_tuple (show s1.heap.IsTuple a its.toArray from p) ?_
    refine ⟨s1.heap.objs.size, [s1.heap.objs.size], _, _, H1, rfl, I1.kept (t' := s1.toks) fun b o e => Heap.get?_push_of_some _ e, turn_tuple a _, ⟨_, Heap.get?_push_size _ rfl, rfl, rfl⟩, fun b hb => ?_, q⟩
    have e : b = s1.heap.objs.size := by simpa using hb
    subst e
    exact I1.fpOk (Nat.le_refl _) (I1.hok.fresh (Nat.le_refl _))
theorem i_any (g : Good T G Gm L cc X) {tg : Expr} (ha : PE X a (tEv G ma)) : PI X tg a (tIv G fun ρ S => (ma ρ S).bind fun x S1 => (ofO (seqOf S1 x) S1).bind fun xs S1 => .ok (xs, gdOf S1 x) S1) := PI.imp (pi_any ha) fun σ H Q => by
  rintro ⟨f, ρ, S, p, S', re, rs, e, k⟩
  obtain ⟨x, S1, e1, e⟩ := R.bind_eq e
  obtain ⟨xs, e2, e⟩ := bind_ofO e
  obtain ⟨rfl, rfl⟩ := ok_inj e
  refine ⟨f, ρ, S, x, _, re, rs, e1, fun xv H1 f1 x1 r1 rv1 => ?_⟩
  obtain ⟨ad, ys, rfl, hv, ht⟩ := seq_at r1 rv1 e2
  refine ⟨ad, rfl, ?_⟩
  rw [g.K]
  rcases ht with ⟨t, ht⟩ | ⟨t, ht⟩
  · exact .inr ⟨⟨ys, ht⟩, k _ _ _ x1 r1 (wlk_tup rv1 e2 t)⟩
  · exact .inl ⟨⟨ys, ht⟩, k _ _ _ x1 r1 (wlk_list rv1 e2 t)⟩
end
end Ev

set_option Elab.async false
set_option linter.all false
set_option maxRecDepth 100000
set_option maxHeartbeats 4000000
/-! ### Comprehensions; every term -/
namespace Ev
open PySem PySem.Spec PyProof.Rows L2 RT RZ
section
variable {T : Tab} {G : Gx} {Gm : Gm} {L : Nat} {cc : CC} {X : Cx} {a b c : Expr} {pos : Pos} {ma mb mc : Env → Store → R Val} {args : List Expr} {ms : Env → Store → R (List Val)}
/-! a barred place is written -/
def Gx.bar (G : Gx) (D : Addr) : Gx := { G with blk := D :: G.blk }
theorem bar_re {H : Hp} {D : Addr} (hD : H D = none) : ∀ a, a ∈ D :: G.blk → a ∈ G.blk ∨ H a = none := fun a ha => by
  rcases List.mem_cons.mp ha with rfl | ha
  · exact .inr hD
  · exact .inl ha
theorem RV.bar {f : List Addr} {H : Hp} {D : Addr} (hD : H D = none) {v : Val} {x : V} (h : RV G f H v x) : RV (G.bar D) f H v x := h.re (bar_re hD)
theorem RVs.bar {f : List Addr} {H : Hp} {D : Addr} (hD : H D = none) {v : List Val} {x : List V} (h : RVs G f H v x) : RVs (G.bar D) f H v x := h.re (bar_re hD)
theorem RFs.bar {f : List Addr} {H : Hp} {D : Addr} (hD : H D = none) {v : List (String × Val)} {x : List (Str × V)} (h : RFs G f H v x) : RFs (G.bar D) f H v x := h.re (bar_re hD)
mutual
theorem RV.unbar {f : List Addr} {H : Hp} {D : Addr} : ∀ {v : Val} {x : V}, RV (G.bar D) f H v x → RV G f H v x
  | .non, _, h => h
  | .bl _, _, h => h
  | .int _, _, h => h
  | .str _, _, h => h
  | .tup vs, x, h => by
    obtain ⟨a, xs, rfl, ht, hv⟩ := h
    refine ⟨a, xs, rfl, ?_, RVs.unbar hv⟩
    rcases ht with ⟨r, m⟩ | k
    · exact .inl ⟨r, m.1, fun z => m.2 (List.mem_cons_of_mem _ z)⟩
    · exact .inr k
  | .fl vs, x, h => by
    obtain ⟨a, xs, rfl, ha, m, hv⟩ := h
    exact ⟨a, xs, rfl, ha, ⟨m.1, fun z => m.2 (List.mem_cons_of_mem _ z)⟩, RVs.unbar hv⟩
  | .rl vs, x, h => by
    obtain ⟨a, xs, rfl, ht, hv⟩ := h
    refine ⟨a, xs, rfl, ?_, RVs.unbar hv⟩
    rcases ht with ⟨r, m⟩ | k
    · exact .inl ⟨r, m.1, fun z => m.2 (List.mem_cons_of_mem _ z)⟩
    · exact .inr k
  | .fo c fs, x, h => by
    obtain ⟨a, dx, hs, rfl, ha, m, hv⟩ := h
    exact ⟨a, dx, hs, rfl, ha, ⟨m.1, fun z => m.2 (List.mem_cons_of_mem _ z)⟩, RFs.unbar hv⟩
  | .ref k, x, h => h
theorem RVs.unbar {f : List Addr} {H : Hp} {D : Addr} : ∀ {v : List Val} {x : List V}, RVs (G.bar D) f H v x → RVs G f H v x
  | [], _, h => h
  | v :: vs, _, h => by
    obtain ⟨x, r, rfl, h1, h2⟩ := h
    exact ⟨x, r, rfl, RV.unbar h1, RVs.unbar h2⟩
theorem RFs.unbar {f : List Addr} {H : Hp} {D : Addr} : ∀ {v : List (String × Val)} {x : List (Str × V)}, RFs (G.bar D) f H v x → RFs G f H v x
  | [], _, h => h
  | (g, v) :: vs, _, h => by
    obtain ⟨x, r, rfl, h1, h2⟩ := h
    exact ⟨x, r, rfl, RV.unbar h1, RFs.unbar h2⟩
end
theorem RD.mapp {G G' : Gx} {f : List Addr} {H : Hp} (h : ∀ {v x}, RV G f H v x → RV G' f H v x) : ∀ {kvs : List (Val × Val)} {hs : List (Key × V)}, RD G f H kvs hs → RD G' f H kvs hs
  | [], _, q => q
  | (k, v) :: kvs, _, q => by
    obtain ⟨k', x, r, rfl, h1, h2, h3⟩ := q
    exact ⟨k', x, r, rfl, h1, h h2, RD.mapp h h3⟩
theorem RDT.mapp {G G' : Gx} {f : List Addr} {H : Hp} (h : ∀ {v x}, RV G f H v x → RV G' f H v x) : ∀ {kvs : List (Val × Val)} {hs : List (List Key × V)}, RDT G f H kvs hs → RDT G' f H kvs hs
  | [], _, q => q
  | (k, v) :: kvs, _, q => by
    obtain ⟨k', x, r, ks, rfl, h0, h1, h2, h3⟩ := q
    exact ⟨k', x, r, ks, rfl, h0, h1, h h2, RDT.mapp h h3⟩
theorem RC.bar {f : List Addr} {H : Hp} {D : Addr} (hD : H D = none) {c : Cell} {a : Addr} (h : RC G f H c a) : RC (G.bar D) f H c a := by
  cases c with
  | lst vs => obtain ⟨xs, h1, h2⟩ := h; exact ⟨xs, h1, h2.bar hD⟩
  | obj c fs => obtain ⟨dx, hs, h1, h2⟩ := h; exact ⟨dx, hs, h1, h2.bar hD⟩
  | dict kvs =>
    rcases h with ⟨hs, h1, h2⟩ | ⟨hs, h1, h2⟩
    · exact .inl ⟨hs, h1, h2.mapp fun q => RV.bar hD q⟩
    · exact .inr ⟨hs, h1, h2.mapp fun q => RV.bar hD q⟩
theorem RC.unbar {f : List Addr} {H : Hp} {D : Addr} {c : Cell} {a : Addr} (h : RC (G.bar D) f H c a) : RC G f H c a := by
  cases c with
  | lst vs => obtain ⟨xs, h1, h2⟩ := h; exact ⟨xs, h1, h2.unbar⟩
  | obj c fs => obtain ⟨dx, hs, h1, h2⟩ := h; exact ⟨dx, hs, h1, h2.unbar⟩
  | dict kvs =>
    rcases h with ⟨hs, h1, h2⟩ | ⟨hs, h1, h2⟩
    · exact .inl ⟨hs, h1, h2.mapp fun q => RV.unbar q⟩
    · exact .inr ⟨hs, h1, h2.mapp fun q => RV.unbar q⟩
theorem RS.unbar {f : List Addr} {H : Hp} {S : Store} {D : Addr} (r : RS (G.bar D) f H S) : RS G f H S := ⟨r.len, r.nd, fun n c a h1 h2 => (r.at_ n c a h1 h2).unbar, fun a ha => r.out a (List.mem_cons_of_mem _ ha)⟩
/-- a new place, barred -/
theorem RS.barNew {f : List Addr} {H : Hp} {S : Store} {D : Addr} {o : HO} (r : RS G f H S) (hD : H D = none) : RS (G.bar D) f (upd H D o) S := by
  have e : Ext f H f (upd H D o) := Ext.new r hD
  have r' := r.new (o := o) hD
  refine ⟨r.len, r.nd, fun n c a h1 h2 => ?_, fun a ha => ?_⟩
  · have h3 := (r.at_ n c a h1 h2).bar hD
    refine h3.ext e ?_
    obtain ⟨u, q⟩ := r.live (List.mem_of_getElem? h2)
    exact upd_ne (ne_of_none q hD)
  · rcases List.mem_cons.mp ha with rfl | ha
    · exact ⟨r.nin hD, o, upd_same⟩
    · exact r'.out a ha
theorem RE.barNew {f : List Addr} {H : Hp} {S : Store} {D : Addr} {o : HO} {ρ : Env} {σ : L2.St} (r : RS G f H S) (hD : H D = none) (re : RE G f H ρ σ) : RE (G.bar D) f (upd H D o) ρ σ :=
  ⟨re.len, fun i v h => by
    obtain ⟨x, h1, h2⟩ := re.at_ i v h
    exact ⟨x, h1, (h2.bar hD).ext (Ext.new r hD)⟩⟩
/-- the barred place is written again: all else stands -/
structure Same1 (D : Addr) (H H' : Hp) : Prop where
  eq : ∀ a, a ≠ D → H' a = H a
theorem Rd.same {D : Addr} {H H' : Hp} (s : Same1 D H H') {a : Addr} {u : HO} (h : Rd H a u) (n : a ≠ D) : Rd H' a u := by
  rcases h with h | ⟨o, h⟩
  · exact .inl ((s.eq a n).trans h)
  · exact .inr ⟨o, (s.eq a n).trans h⟩
mutual
theorem RV.same {f : List Addr} {H H' : Hp} {D : Addr} (s : Same1 D H H') : ∀ {v : Val} {x : V}, RV (G.bar D) f H v x → RV (G.bar D) f H' v x
  | .non, _, h => h
  | .bl _, _, h => h
  | .int _, _, h => h
  | .str _, _, h => h
  | .tup vs, x, h => by
    obtain ⟨a, xs, rfl, ht, hv⟩ := h
    refine ⟨a, xs, rfl, ?_, RVs.same s hv⟩
    rcases ht with ⟨r, m⟩ | k
    · exact .inl ⟨Rd.same s r fun z => m.2 (by rw [z]; exact List.mem_cons_self), m⟩
    · exact .inr k
  | .fl vs, x, h => by
    obtain ⟨a, xs, rfl, ha, m, hv⟩ := h
    exact ⟨a, xs, rfl, (s.eq a fun z => m.2 (by rw [z]; exact List.mem_cons_self)).trans ha, m, RVs.same s hv⟩
  | .rl vs, x, h => by
    obtain ⟨a, xs, rfl, ht, hv⟩ := h
    refine ⟨a, xs, rfl, ?_, RVs.same s hv⟩
    rcases ht with ⟨r, m⟩ | k
    · exact .inl ⟨Rd.same s r fun z => m.2 (by rw [z]; exact List.mem_cons_self), m⟩
    · exact .inr k
  | .fo c fs, x, h => by
    obtain ⟨a, dx, hs, rfl, ha, m, hv⟩ := h
    exact ⟨a, dx, hs, rfl, (s.eq a fun z => m.2 (by rw [z]; exact List.mem_cons_self)).trans ha, m, RFs.same s hv⟩
  | .ref k, x, h => h
theorem RVs.same {f : List Addr} {H H' : Hp} {D : Addr} (s : Same1 D H H') : ∀ {v : List Val} {x : List V}, RVs (G.bar D) f H v x → RVs (G.bar D) f H' v x
  | [], _, h => h
  | v :: vs, _, h => by
    obtain ⟨x, r, rfl, h1, h2⟩ := h
    exact ⟨x, r, rfl, RV.same s h1, RVs.same s h2⟩
theorem RFs.same {f : List Addr} {H H' : Hp} {D : Addr} (s : Same1 D H H') : ∀ {v : List (String × Val)} {x : List (Str × V)}, RFs (G.bar D) f H v x → RFs (G.bar D) f H' v x
  | [], _, h => h
  | (g, v) :: vs, _, h => by
    obtain ⟨x, r, rfl, h1, h2⟩ := h
    exact ⟨x, r, rfl, RV.same s h1, RFs.same s h2⟩
end
theorem RD.samep {f : List Addr} {H H' : Hp} {D : Addr} (s : Same1 D H H') : ∀ {kvs : List (Val × Val)} {hs : List (Key × V)}, RD (G.bar D) f H kvs hs → RD (G.bar D) f H' kvs hs
  | [], _, q => q
  | (k, v) :: kvs, _, q => by
    obtain ⟨k', x, r, rfl, h1, h2, h3⟩ := q
    exact ⟨k', x, r, rfl, h1, h2.same s, RD.samep s h3⟩
theorem RDT.samep {f : List Addr} {H H' : Hp} {D : Addr} (s : Same1 D H H') : ∀ {kvs : List (Val × Val)} {hs : List (List Key × V)}, RDT (G.bar D) f H kvs hs → RDT (G.bar D) f H' kvs hs
  | [], _, q => q
  | (k, v) :: kvs, _, q => by
    obtain ⟨k', x, r, ks, rfl, h0, h1, h2, h3⟩ := q
    exact ⟨k', x, r, ks, rfl, h0, h1, h2.same s, RDT.samep s h3⟩
theorem RS.wr {f : List Addr} {H : Hp} {S : Store} {D : Addr} {o : HO} (r : RS (G.bar D) f H S) : RS (G.bar D) f (upd H D o) S := by
  have s : Same1 D H (upd H D o) := ⟨fun a n => upd_ne n⟩
  have nD : ∀ a, a ∈ f → a ≠ D := fun a ha z => (r.out D List.mem_cons_self).1 (by rw [← z]; exact ha)
  refine ⟨r.len, r.nd, fun n c a h1 h2 => ?_, fun a ha => ?_⟩
  · have ha := s.eq a (nD a (List.mem_of_getElem? h2))
    have h3 := r.at_ n c a h1 h2
    cases c with
    | lst vs => obtain ⟨xs, h4, h5⟩ := h3; exact ⟨xs, ha.trans h4, h5.same s⟩
    | obj c fs => obtain ⟨dx, hs, h4, h5⟩ := h3; exact ⟨dx, hs, ha.trans h4, h5.same s⟩
    | dict kvs =>
      rcases h3 with ⟨hs, h4, h5⟩ | ⟨hs, h4, h5⟩
      · exact .inl ⟨hs, ha.trans h4, h5.samep s⟩
      · exact .inr ⟨hs, ha.trans h4, h5.samep s⟩
  · obtain ⟨h1, o', h2⟩ := r.out a ha
    refine ⟨h1, ?_⟩
    by_cases hd : a = D
    · exact ⟨o, by rw [hd]; exact upd_same⟩
    · exact ⟨o', by rw [upd_ne hd]; exact h2⟩
/-- from ahead of the place's making -/
theorem Ext.wr {f f2 : List Addr} {H1 H : Hp} {D : Addr} {o : HO} (hD : H1 D = none) (e : Ext f H1 f2 H) (nf : D ∉ f) : Ext f H1 f2 (upd H D o) :=
  ⟨e.pre, fun a u h n => by rw [upd_ne (ne_of_none h hD)]; exact e.keep a u h n, fun a ha => by
    obtain ⟨u, h⟩ := e.live a ha
    exact ⟨u, by rw [upd_ne (fun z => nf (by rw [← z]; exact ha))]; exact h⟩⟩
/-- the barred place becomes a cell's -/
theorem Out.cell {f : List Addr} {D a : Addr} (m : Out (G.bar D) f a) : Out G (f ++ [D]) a := ⟨fun z => by
  rcases List.mem_append.mp z with z | z
  · exact m.1 z
  · exact m.2 (by rw [List.mem_singleton.mp z]; exact List.mem_cons_self), fun z => m.2 (List.mem_cons_of_mem _ z)⟩
mutual
theorem RV.cell {f : List Addr} {H : Hp} {D : Addr} : ∀ {v : Val} {x : V}, RV (G.bar D) f H v x → RV G (f ++ [D]) H v x
  | .non, _, h => h
  | .bl _, _, h => h
  | .int _, _, h => h
  | .str _, _, h => h
  | .tup vs, x, h => by
    obtain ⟨a, xs, rfl, ht, hv⟩ := h
    refine ⟨a, xs, rfl, ?_, RVs.cell hv⟩
    rcases ht with ⟨r, m⟩ | k
    · exact .inl ⟨r, m.cell⟩
    · exact .inr k
  | .fl vs, x, h => by
    obtain ⟨a, xs, rfl, ha, m, hv⟩ := h
    exact ⟨a, xs, rfl, ha, m.cell, RVs.cell hv⟩
  | .rl vs, x, h => by
    obtain ⟨a, xs, rfl, ht, hv⟩ := h
    refine ⟨a, xs, rfl, ?_, RVs.cell hv⟩
    rcases ht with ⟨r, m⟩ | k
    · exact .inl ⟨r, m.cell⟩
    · exact .inr k
  | .fo c fs, x, h => by
    obtain ⟨a, dx, hs, rfl, ha, m, hv⟩ := h
    exact ⟨a, dx, hs, rfl, ha, m.cell, RFs.cell hv⟩
  | .ref k, x, h => by
    obtain ⟨a, rfl, ha⟩ := h
    exact ⟨a, rfl, by rw [List.getElem?_append_left (List.getElem?_eq_some_iff.mp ha).1]; exact ha⟩
theorem RVs.cell {f : List Addr} {H : Hp} {D : Addr} : ∀ {v : List Val} {x : List V}, RVs (G.bar D) f H v x → RVs G (f ++ [D]) H v x
  | [], _, h => h
  | v :: vs, _, h => by
    obtain ⟨x, r, rfl, h1, h2⟩ := h
    exact ⟨x, r, rfl, RV.cell h1, RVs.cell h2⟩
theorem RFs.cell {f : List Addr} {H : Hp} {D : Addr} : ∀ {v : List (String × Val)} {x : List (Str × V)}, RFs (G.bar D) f H v x → RFs G (f ++ [D]) H v x
  | [], _, h => h
  | (g, v) :: vs, _, h => by
    obtain ⟨x, r, rfl, h1, h2⟩ := h
    exact ⟨x, r, rfl, RV.cell h1, RFs.cell h2⟩
end
theorem RD.cell {f : List Addr} {H : Hp} {D : Addr} : ∀ {kvs : List (Val × Val)} {hs : List (Key × V)}, RD (G.bar D) f H kvs hs → RD G (f ++ [D]) H kvs hs
  | [], _, q => q
  | (k, v) :: kvs, _, q => by
    obtain ⟨k', x, r, rfl, h1, h2, h3⟩ := q
    exact ⟨k', x, r, rfl, h1, h2.cell, RD.cell h3⟩
theorem RDT.cell {f : List Addr} {H : Hp} {D : Addr} : ∀ {kvs : List (Val × Val)} {hs : List (List Key × V)}, RDT (G.bar D) f H kvs hs → RDT G (f ++ [D]) H kvs hs
  | [], _, q => q
  | (k, v) :: kvs, _, q => by
    obtain ⟨k', x, r, ks, rfl, h0, h1, h2, h3⟩ := q
    exact ⟨k', x, r, ks, rfl, h0, h1, h2.cell, RDT.cell h3⟩
theorem RC.cell {f : List Addr} {H : Hp} {D : Addr} {c : Cell} {a : Addr} (h : RC (G.bar D) f H c a) : RC G (f ++ [D]) H c a := by
  cases c with
  | lst vs => obtain ⟨xs, h1, h2⟩ := h; exact ⟨xs, h1, h2.cell⟩
  | obj c fs => obtain ⟨dx, hs, h1, h2⟩ := h; exact ⟨dx, hs, h1, h2.cell⟩
  | dict kvs =>
    rcases h with ⟨hs, h1, h2⟩ | ⟨hs, h1, h2⟩
    · exact .inl ⟨hs, h1, h2.cell⟩
    · exact .inr ⟨hs, h1, h2.cell⟩
abbrev ptsTv (G : Gx) (m : Env → Store → R Bool) : TT := tTv G m
theorem pts_of_nil : PTs X [] (tTv G fun _ S => .ok true S) := ⟨fun pins s σ H Q I h => by
  obtain ⟨f, ρ, S, b, S', re, rs, e, k⟩ := h
  obtain ⟨rfl, rfl⟩ := ok_inj e
  exact pts_nil.run pins s σ H Q I (k H f rs.ext rs)⟩
/-! with any places barred -/
abbrev tEvB (G : Gx) (m : Env → Store → R Val) : TE := fun σ H Q => ∃ blk, tEv { G with blk := blk } m σ H Q
abbrev tTvB (G : Gx) (m : Env → Store → R Bool) : TT := fun σ H Q => ∃ blk, tTv { G with blk := blk } m σ H Q
abbrev tGvB (G : Gx) (own : Nat → Bool) (t : Tg) : TG := fun x σ H Q => ∃ blk, tGv { G with blk := blk } own t x σ H Q
/-- the turns of a comprehension -/
noncomputable def lcStep (tg : Tg) (own : List Nat) (ρ : Env) (mt : Env → Store → R Bool) (me : Env → Store → R Val) : Val → Store → R (Option Val) := fun x S => match asg S tg x (clr own ρ) with
    | some ρ1 => (mt ρ1 S).bind fun t S2 => if t = true then (me ρ1 S2).bind fun y S3 => .ok (some y) S3 else .ok none S2
    | none => .bad
theorem lcL_cons {gs : List (Nat × Cell)} {step : Val → Store → R (Option Val)} {x : Val} {xs : List Val} {S S' : Store} {ys : List Val} (e : lcL gs step (x :: xs) S = .ok ys S') :
    gdOk gs S ∧ ∃ o S1 zs, step x S = .ok o S1 ∧ lcL gs step xs S1 = .ok zs S' ∧ ys = optCons o zs := by
  unfold lcL at e
  by_cases h : gdOk gs S
  · rw [if_pos h] at e
    obtain ⟨o, S1, e1, e⟩ := R.bind_eq e
    obtain ⟨zs, S2, e2, e⟩ := R.bind_eq e
    obtain ⟨h1, rfl⟩ := ok_inj e
    exact ⟨h, o, S1, zs, e1, e2, h1.symm⟩
  · rw [if_neg h] at e
    cases e
theorem lcL_nil {gs : List (Nat × Cell)} {step : Val → Store → R (Option Val)} {S S' : Store} {ys : List Val} (e : lcL gs step [] S = .ok ys S') : gdOk gs S ∧ ys = [] ∧ S' = S := by
  unfold lcL at e
  by_cases h : gdOk gs S
  · rw [if_pos h] at e
    obtain ⟨rfl, rfl⟩ := ok_inj e
    exact ⟨h, rfl, rfl⟩
  · rw [if_neg h] at e
    cases e
theorem own_snd (N : List Str) : ∀ is : List Nat, (ownN N is).map (·.2) = is
  | [] => rfl
  | i :: is => by simp [ownN, own_snd N is]
theorem mk_list_at {f2 : List Addr} {H : Hp} {S S' : Store} {m : Bool} {D : Addr} {accV : List Val} {acc : List V} {v : Val} (r : RS (G.bar D) f2 H S) (hD : H D = some (.lst acc)) (hv : RVs (G.bar D) f2 H accV acc) (e : mkList m accV S = .ok v S') {f H1} (x : Ext f H1 f2 H) (h1 : H1 D = none) (nf : D ∉ f) (hb : D ∉ G.blk) :
    ∃ f', Ext f H1 f' H ∧ RS G f' H S' ∧ RV G f' H v (.ref D) := by
  obtain ⟨hl, e⟩ := mk_list_len e
  have nf2 : D ∉ f2 := (r.out D List.mem_cons_self).1
  have r0 := r.unbar
  cases m with
  | false =>
    rw [if_neg Bool.false_ne_true] at e
    obtain ⟨rfl, rfl⟩ := ok_inj e
    exact ⟨f2, x, r0, D, acc, rfl, hD, ⟨nf2, hb⟩, hv.unbar⟩
  | true =>
    rw [if_pos rfl] at e
    obtain ⟨rfl, rfl⟩ := ok_inj e
    refine ⟨f2 ++ [D], ?_, ⟨by simp [r.len], ?_, fun n c a hc ha => ?_, fun a ha => ?_⟩, D, rfl, by rw [← r.len]; simp⟩
    · obtain ⟨g, rfl, hg⟩ := x.pre
      refine ⟨⟨g ++ [D], by rw [List.append_assoc], fun a ha => ?_⟩, x.keep, x.live⟩
      rcases List.mem_append.mp ha with ha | ha
      · exact hg a ha
      · rw [List.mem_singleton.mp ha]; exact h1
    · rw [List.nodup_append]
      refine ⟨r.nd, by simp, fun a ha b hb => ?_⟩
      rcases List.mem_singleton.mp hb with rfl
      exact fun q => nf2 (by rw [← q]; exact ha)
    · by_cases hn : n < S.length
      · rw [List.getElem?_append_left hn] at hc
        rw [List.getElem?_append_left (by rw [r.len]; exact hn)] at ha
        have h3 := r.at_ n c a hc ha
        exact h3.cell
      · rw [List.getElem?_append_right (by omega)] at hc
        rw [List.getElem?_append_right (by rw [r.len]; omega)] at ha
        rw [r.len] at ha
        generalize n - S.length = k at hc ha
        cases k with
        | zero =>
          have h3 : Cell.lst accV = c := by simpa using hc
          have h4 : D = a := by simpa using ha
          subst h3 h4
          exact ⟨acc, hD, hv.cell⟩
        | succ k => simp at hc
    · obtain ⟨h3, h4⟩ := r.out a (List.mem_cons_of_mem _ ha)
      refine ⟨fun z => ?_, h4⟩
      rcases List.mem_append.mp z with z | z
      · exact h3 z
      · exact hb (by rw [← List.mem_singleton.mp z]; exact ha)
/-- the turns: from a list that is being made to its end -/
theorem lc_turns {f1 : List Addr} {H1 : Hp} {S1 : Store} {items : List Val} {gs : List (Nat × Cell)} {J : L2.It} {D : Addr} {ρ : Env} {σ : L2.St} {own : List Nat} {tg : Tg} {mt : Env → Store → R Bool} {me : Env → Store → R Val} {ys : List Val} {S2 S' : Store} {m : Bool} {v : Val} {Q : VK}
    (re : RE G f1 H1 ρ σ) (r1 : RS G f1 H1 S1) (hD : H1 D = none) (w : Wlk G f1 H1 items gs J) (e : lcL gs (lcStep tg own ρ mt me) items S1 = .ok ys S2) (e2 : mkList m ys S2 = .ok v S') (k : Wk G f1 H1 S' v Q) (hown : ∀ i, own.contains i = true → i ∈ own) :
    ∃ W : Nat → Nat → Hp → Prop, (∃ m, W 0 m (upd H1 D (.lst []))) ∧ ∀ i m H, W i m H →
      (J.stop i H ∧ Q (.ref D) H) ∨ (J.go i H ∧ ∃ Nx : Hp → Prop, (∀ H', Nx H' → ∃ m', m' < m ∧ W (i + 1) m' H') ∧ ∀ x H', J.yld i H x H' → tGvB G (fun i => own.contains i) tg x (L2.wipe σ own) H' fun σ2 H2 => L2.wipe σ2 own = L2.wipe σ own ∧ tTvB G mt σ2 H2 fun b H3 =>
        if b = true then tEvB G me σ2 H3 fun y H4 => ∃ acc, H4 D = some (.lst acc) ∧ acc.length < sizeLine ∧ Nx (upd H4 D (.lst (acc ++ [y]))) else Nx H3) := by
  obtain ⟨hl, _⟩ := mk_list_len e2
  have nf := r1.nin hD
  have nb : D ∉ G.blk := (r1.outp hD).2
  refine ⟨fun i m H => m = items.length - i ∧ i ≤ items.length ∧ ∃ f2 S3 acc accV zs, Ext f1 H1 f2 H ∧ RS (G.bar D) f2 H S3 ∧ H D = some (.lst acc) ∧ RVs (G.bar D) f2 H accV acc ∧ lcL gs (lcStep tg own ρ mt me) (items.drop i) S3 = .ok zs S2 ∧ ys = accV ++ zs ∧ RE (G.bar D) f2 H ρ σ, ⟨items.length, ?_⟩, ?_⟩
  · exact ⟨by simp, Nat.zero_le _, f1, S1, [], [], ys, Ext.new r1 hD, r1.barNew hD, upd_same, rfl, by simpa using e, rfl, re.barNew r1 hD⟩
  · rintro i mm H ⟨rfl, hi, f2, S3, acc, accV, zs, x2, r3, hDH, hv, e3, rfl, re2⟩
    by_cases hlt : i < items.length
    · have hd : items.drop i = items[i] :: items.drop (i + 1) := List.drop_eq_getElem_cons hlt
      rw [hd] at e3
      obtain ⟨hg, o, S4, zs', e4, e5, rfl⟩ := lcL_cons e3
      obtain ⟨_, w2⟩ := w (D :: G.blk) (bar_re hD) f2 H S3 x2 r3 hg
      obtain ⟨hgo, hyl⟩ := w2 i items[i] (List.getElem?_eq_getElem hlt)
      refine .inr ⟨hgo, fun H' => ∃ f2 S3 acc accV' zs, Ext f1 H1 f2 H' ∧ RS (G.bar D) f2 H' S3 ∧ H' D = some (.lst acc) ∧ RVs (G.bar D) f2 H' accV' acc ∧ lcL gs (lcStep tg own ρ mt me) (items.drop (i + 1)) S3 = .ok zs S2 ∧ accV ++ optCons o zs' = accV' ++ zs ∧ RE (G.bar D) f2 H' ρ σ, fun H' hN => ⟨_, by omega, rfl, hlt, hN⟩, fun x H' hy => ?_⟩
      obtain ⟨y1, y2, y3⟩ := hyl x H' hy
      have nf2 : D ∉ f2 := (r3.out D List.mem_cons_self).1
      have hDH' : H' D = some (.lst acc) := y1.keep D _ hDH nf2
      unfold lcStep at e4
      cases qa : asg S3 tg items[i] (clr own ρ) with
      | none => rw [qa] at e4; cases e4
      | some ρ1 =>
        rw [qa] at e4
        simp only at e4
        obtain ⟨t, S5, e6, e7⟩ := R.bind_eq e4
        refine ⟨D :: G.blk, f2, clr own ρ, S3, items[i], ρ1, (re2.ext y1).wipe own, y2, y3, qa, fun σ' re' hk => ⟨?_, D :: G.blk, f2, ρ1, S3, t, S5, re', y2, e6, fun H3 f3 x3 r4 => ?_⟩⟩
        · rw [hk own hown, wipe_wipe]
        · have hDH3 : H3 D = some (.lst acc) := x3.keep D _ hDH' nf2
          cases t with
          | false =>
            show ite (false = true) _ _
            rw [if_neg Bool.false_ne_true] at e7 ⊢
            obtain ⟨rfl, rfl⟩ := ok_inj e7
            exact ⟨f3, _, acc, accV, zs', (x2.trans y1).trans x3, r4, hDH3, (hv.ext y1).ext x3, e5, rfl, (re2.ext y1).ext x3⟩
          | true =>
            show ite (true = true) _ _
            rw [if_pos rfl] at e7 ⊢
            obtain ⟨yv, S6, e8, e9⟩ := R.bind_eq e7
            obtain ⟨rfl, rfl⟩ := ok_inj e9
            refine ⟨D :: G.blk, f3, ρ1, S5, yv, _, re'.ext x3, r4, e8, fun z H4 f4 x4 r5 rv4 => ?_⟩
            have nf3 : D ∉ f3 := (r4.out D List.mem_cons_self).1
            have nf4 : D ∉ f4 := (r5.out D List.mem_cons_self).1
            have hDH4 : H4 D = some (.lst acc) := x4.keep D _ hDH3 nf3
            have sm : Same1 D H4 (upd H4 D (.lst (acc ++ [z]))) := ⟨fun a n => upd_ne n⟩
            have hva := ((hv.ext y1).ext x3).ext x4
            refine ⟨acc, hDH4, ?_, f4, _, acc ++ [z], accV ++ [yv], zs', Ext.wr hD (((x2.trans y1).trans x3).trans x4) nf, r5.wr, upd_same, ?_, e5, by simp [optCons], ?_⟩
            · have : acc.length = accV.length := hva.len.symm
              rw [this]
              have h9 := hl
              simp only [List.length_append, optCons, List.length_cons] at h9
              exact Nat.lt_of_lt_of_le (show accV.length < LINE by omega) (by decide)
            · exact (hva.app (RVs.cons rv4 RVs.nil)).same sm
            · have re4 := ((re2.ext y1).ext x3).ext x4
              exact ⟨re4.len, fun j w hj => by
                obtain ⟨q1, q2, q3⟩ := re4.at_ j w hj
                exact ⟨q1, q2, q3.same sm⟩⟩
    · have e0 : i = items.length := by omega
      subst e0
      rw [List.drop_length] at e3
      obtain ⟨hg, rfl, rfl⟩ := lcL_nil e3
      obtain ⟨w1, _⟩ := w (D :: G.blk) (bar_re hD) f2 H _ x2 r3 hg
      rw [List.append_nil] at e2
      obtain ⟨f', y1, y2, y3⟩ := mk_list_at r3 hDH hv e2 x2 hD nf nb
      exact .inl ⟨w1, k _ _ _ y1 y2 y3⟩
end
end Ev

set_option Elab.async false
set_option linter.all false
set_option maxRecDepth 100000
set_option maxHeartbeats 4000000
/-! ### Every term that passes the check -/
namespace Ev
open PySem PySem.Spec PyProof.Rows L2 RT RZ
section
variable {T : Tab} {G : Gx} {Gm : Gm} {L : Nat} {cc : CC} {X : Cx} {a b c : Expr} {pos : Pos} {ma mb mc : Env → Store → R Val} {args : List Expr} {ms : Env → Store → R (List Val)}
theorem i_range (g : Good T G Gm L cc X) {tg : Expr} {x : Str} {p : Pos} (hq : Str.ofString "range" = x) (h2 : glB cc.sc x = true) (ha : PA X args (tAv G ms)) (ao : ArgsOk args ms) (hl : args.length = 1 ∨ args.length = 2) :
    PI X tg (.Call (.Name x p) args [] pos) (tIv G fun ρ S => (ms ρ S).bind fun xs S1 => rangeM xs S1) := by
  subst hq
  have n1 := ao.stars
  match args, hl with
  | [e1], _ =>
    simp only [noStars, Bool.and_true] at n1
    refine PI.imp (pi_range1 (g.gl h2) (g.fac.blt "range" (by decide)) ha (starEach_cons n1)) fun σ H Q => ?_
    rintro ⟨f, ρ, S, q, S', re, rs, e, k⟩
    obtain ⟨xs, S1, e1, e⟩ := R.bind_eq e
    refine ⟨f, ρ, S, xs, S1, re, rs, e1, fun ys H1 f1 x1 r1 rv1 => ?_⟩
    have hl := ao.len _ _ _ _ e1
    match xs, hl with
    | [v], _ =>
      cases v with
      | int j =>
        obtain ⟨hj, e⟩ := chk_eq e
        obtain ⟨rfl, rfl⟩ := ok_inj e
        obtain ⟨y, rfl, h⟩ := rv1.one
        cases h
        refine ⟨j, rfl, hj.1, hj.2, ?_⟩
        have := wlk_range (G := G) (f := f1) (H := H1) 0 j
        rw [Int.sub_zero] at this
        exact k _ _ _ x1 r1 this
      | _ => cases e
  | [e1, e2], _ =>
    simp only [noStars, Bool.and_true, Bool.and_eq_true] at n1
    refine PI.imp (pi_range2 (g.gl h2) (g.fac.blt "range" (by decide)) ha (by rw [starEach_cons n1.1, starEach_cons n1.2]; rfl) (by rw [starEach_cons n1.2]; rfl)) fun σ H Q => ?_
    rintro ⟨f, ρ, S, q, S', re, rs, e, k⟩
    obtain ⟨xs, S1, e1, e⟩ := R.bind_eq e
    refine ⟨f, ρ, S, xs, S1, re, rs, e1, fun ys H1 f1 x1 r1 rv1 => ?_⟩
    have hl := ao.len _ _ _ _ e1
    match xs, hl with
    | [v, w], _ =>
      cases v with
      | int i =>
        cases w with
        | int j =>
          obtain ⟨hj, e⟩ := chk_eq e
          obtain ⟨rfl, rfl⟩ := ok_inj e
          obtain ⟨y, z, rfl, h, h'⟩ := rv1.two
          cases h
          cases h'
          exact ⟨i, j, rfl, ⟨hj.1.1, hj.1.2, hj.2.1, hj.2.2⟩, k _ _ _ x1 r1 (wlk_range i j)⟩
        | _ => cases e
      | _ => cases w <;> cases e
theorem i_enum (g : Good T G Gm L cc X) {x : Str} {p tp : Pos} {elts : List Expr} {kk : Nat} (hq : Str.ofString "enumerate" = x) (h2 : glB cc.sc x = true) (ha : PE X a (tEv G ma)) (hn : notStar a = true) :
    PI X (.Tuple elts kk tp) (.Call (.Name x p) [a] [] pos) (tIv G fun ρ S => (ma ρ S).bind fun x S1 => if isTup x then .bad else (ofO (seqOf S1 x) S1).bind fun xs S1 => .ok (xs.zipIdx.map fun p => .tup [.int (p.2 : Nat), p.1], gdOf S1 x) S1) := by
  subst hq
  refine PI.imp (pi_enum (g.gl h2) (g.fac.blt "enumerate" (by decide)) (pa_cons ha pa_nil (starEach_cons hn)) (starEach_cons hn)) fun σ H Q => ?_
  rintro ⟨f, ρ, S, q, S', re, rs, e, k⟩
  obtain ⟨x, S1, e1, e⟩ := R.bind_eq e
  by_cases ht : isTup x = true
  · rw [if_pos ht] at e; cases e
  · rw [if_neg ht] at e
    obtain ⟨xs, e2, e⟩ := bind_ofO e
    obtain ⟨rfl, rfl⟩ := ok_inj e
    refine ⟨f, ρ, S, x, _, re, rs, e1, fun xv H1 f1 x1 r1 rv1 => ?_⟩
    obtain ⟨ad, ys, rfl, hv, hs⟩ := seq_at r1 rv1 e2
    rcases hs with ⟨t, _⟩ | ⟨t, hs⟩
    · exact absurd t ht
    · refine ⟨ad, ys, rfl, by rw [g.K]; exact hs, ?_⟩
      rw [g.K]
      exact k _ _ _ x1 r1 (wlk_enum rv1 e2 t)
theorem i_zip (g : Good T G Gm L cc X) {x : Str} {p tp : Pos} {elts : List Expr} {kk : Nat} (hq : Str.ofString "zip" = x) (h2 : glB cc.sc x = true) (ha : PE X a (tEv G ma)) (hn : notStar a = true) (hb : PE X b (tEv G mb)) (hn2 : notStar b = true) :
    PI X (.Tuple elts kk tp) (.Call (.Name x p) [a, b] [] pos) (tIv G fun ρ S => (ma ρ S).bind fun x S1 => (mb ρ S1).bind fun y S2 => match seqOf S2 x, seqOf S2 y with
    | some xs, some ys => chk (isTup x = isTup y) (.ok ((xs.zip ys).map fun p => .tup [p.1, p.2], gdOf S2 x ++ gdOf S2 y) S2)
    | _, _ => .bad) := by
  subst hq
  refine PI.imp (pi_zipA (g.gl h2) (g.fac.blt "zip" (by decide)) (pa_cons ha (pa_cons hb pa_nil (starEach_cons hn2)) (starEach_cons hn)) (starEach_cons hn) (starEach_any (es := [b]) (by rw [noStars, hn2]; rfl))) fun σ H Q => ?_
  rintro ⟨f, ρ, S, q, S', re, rs, e, k⟩
  obtain ⟨x, S1, e1, e⟩ := R.bind_eq e
  obtain ⟨y, S2, e2, e⟩ := R.bind_eq e
  cases q1 : seqOf S2 x with
  | none => rw [q1] at e; cases e
  | some xs =>
    cases q2 : seqOf S2 y with
    | none => rw [q1, q2] at e; cases e
    | some ys =>
      rw [q1, q2] at e
      obtain ⟨ht, e⟩ := chk_eq e
      obtain ⟨rfl, rfl⟩ := ok_inj e
      refine ⟨f, ρ, S, x, _, re, rs, e1, fun xv H1 f1 x1 r1 rv1 => ⟨f1, ρ, S1, y, _, re.ext x1, r1, e2, fun yv H2 f2 x2 r2 rv2 => ?_⟩⟩
      have rv1' := rv1.ext x2
      obtain ⟨ad, zs, rfl, hv, hs⟩ := seq_at r2 rv1' q1
      obtain ⟨bd, ws, rfl, hv2, hs2⟩ := seq_at r2 rv2 q2
      refine ⟨ad, bd, zs, ws, rfl, ?_⟩
      rw [g.K]
      rcases hs with ⟨t, hs⟩ | ⟨t, hs⟩
      · rcases hs2 with ⟨t2, hs2⟩ | ⟨t2, hs2⟩
        · exact .inr ⟨hs, hs2, k _ _ _ (x1.trans x2) r2 (wlk_zipT rv1' rv2 q1 q2 t t2)⟩
        · rw [t, t2] at ht; cases ht
      · rcases hs2 with ⟨t2, hs2⟩ | ⟨t2, hs2⟩
        · rw [t, t2] at ht; cases ht
        · exact .inl ⟨hs, hs2, k _ _ _ (x1.trans x2) r2 (wlk_zipL rv1' rv2 q1 q2 t t2)⟩
theorem i_rev (g : Good T G Gm L cc X) {tg : Expr} {x : Str} {p : Pos} (hq : Str.ofString "reversed" = x) (h2 : glB cc.sc x = true) (ha : PE X a (tEv G ma)) (hn : notStar a = true) :
    PI X tg (.Call (.Name x p) [a] [] pos) (tIv G fun ρ S => (ma ρ S).bind fun x S1 => (ofO (seqOf S1 x) S1).bind fun xs S1 => .ok (xs.reverse, gdOf S1 x) S1) := by
  subst hq
  refine PI.imp (pi_revA (g.gl h2) (g.fac.blt "reversed" (by decide)) ha (starEach_cons hn)) fun σ H Q => ?_
  rintro ⟨f, ρ, S, q, S', re, rs, e, k⟩
  obtain ⟨x, S1, e1, e⟩ := R.bind_eq e
  obtain ⟨xs, e2, e⟩ := bind_ofO e
  obtain ⟨rfl, rfl⟩ := ok_inj e
  refine ⟨f, ρ, S, x, _, re, rs, e1, fun xv H1 f1 x1 r1 rv1 => ?_⟩
  obtain ⟨ad, ys, rfl, hv, hs⟩ := seq_at r1 rv1 e2
  refine ⟨ad, ys, rfl, ?_⟩
  rw [g.K, ← hv.len]
  rcases hs with ⟨t, hs⟩ | ⟨t, hs⟩
  · exact .inr ⟨hs, k _ _ _ x1 r1 (wlk_revT rv1 e2 t)⟩
  · exact .inl ⟨hs, k _ _ _ x1 r1 (wlk_revL rv1 e2 t)⟩
theorem i_revr1 (g : Good T G Gm L cc X) {tg : Expr} {x z : Str} {p p2 p3 : Pos} (hq : Str.ofString "reversed" = x) (h2 : glB cc.sc x = true) (hz : Str.ofString "range" = z) (h3 : glB cc.sc z = true) (ha : PE X a (tEv G ma)) (hn : notStar a = true) :
    PI X tg (.Call (.Name x p) [.Call (.Name z p2) [a] [] p3] [] pos) (tIv G fun ρ S => (ma ρ S).bind fun x S1 => match x with
    | .int j => chk (inR j) (.ok ((rangeL 0 j).reverse, []) S1)
    | _ => .bad) := by
  subst hq hz
  refine PI.imp (pi_revR (g.gl h2) (g.fac.blt "reversed" (by decide)) (prg_1 (g.gl h3) (g.fac.blt "range" (by decide)) ha (starEach_cons hn)) (by rfl)) fun σ H Q => ?_
  rintro ⟨f, ρ, S, q, S', re, rs, e, k⟩
  obtain ⟨v, S1, e1, e⟩ := R.bind_eq e
  refine ⟨f, ρ, S, v, S1, re, rs, e1, fun xv H1 f1 x1 r1 rv1 => ?_⟩
  cases v with
  | int j =>
    obtain ⟨hj, e⟩ := chk_eq e
    obtain ⟨rfl, rfl⟩ := ok_inj e
    cases rv1
    exact ⟨j, rfl, by decide, by decide, hj.1, hj.2, k _ _ _ x1 r1 (wlk_rangeR 0 j)⟩
  | _ => cases e
theorem i_revr2 (g : Good T G Gm L cc X) {tg : Expr} {x z : Str} {p p2 p3 : Pos} (hq : Str.ofString "reversed" = x) (h2 : glB cc.sc x = true) (hz : Str.ofString "range" = z) (h3 : glB cc.sc z = true) (ha : PE X a (tEv G ma)) (hn : notStar a = true) (hb : PE X b (tEv G mb)) (hn2 : notStar b = true) :
    PI X tg (.Call (.Name x p) [.Call (.Name z p2) [a, b] [] p3] [] pos) (tIv G fun ρ S => (ma ρ S).bind fun x S1 => (mb ρ S1).bind fun y S2 => match x, y with
    | .int i, .int j => chk (inR i ∧ inR j) (.ok ((rangeL i j).reverse, []) S2)
    | _, _ => .bad) := by
  subst hq hz
  refine PI.imp (pi_revR (g.gl h2) (g.fac.blt "reversed" (by decide)) (prg_2 (g.gl h3) (g.fac.blt "range" (by decide)) ha hb (starEach_cons hn) (starEach_cons hn2) (starEach_any (es := [b]) (by rw [noStars, hn2]; rfl))) (by rfl)) fun σ H Q => ?_
  rintro ⟨f, ρ, S, q, S', re, rs, e, k⟩
  obtain ⟨v, S1, e1, e⟩ := R.bind_eq e
  obtain ⟨w, S2, e2, e⟩ := R.bind_eq e
  refine ⟨f, ρ, S, v, S1, re, rs, e1, fun xv H1 f1 x1 r1 rv1 => ⟨f1, ρ, S1, w, S2, re.ext x1, r1, e2, fun yv H2 f2 x2 r2 rv2 => ?_⟩⟩
  cases v with
  | int i =>
    cases w with
    | int j =>
      obtain ⟨hj, e⟩ := chk_eq e
      obtain ⟨rfl, rfl⟩ := ok_inj e
      cases rv1
      cases rv2
      exact ⟨i, j, rfl, rfl, hj.1.1, hj.1.2, hj.2.1, hj.2.2, k _ _ _ (x1.trans x2) r2 (wlk_rangeR i j)⟩
    | _ => cases e
  | _ => cases w <;> cases e
theorem c_lc (g : Good T G Gm L cc X) {m : Bool} {own : List Nat} {tg : Tg} {tgx iter elt : Expr} {ifs : List Expr} {scope : Scope} {mi : Env → Store → R (List Val × List (Nat × Cell))} {mt : Env → Store → R Bool} {me : Env → Store → R Val}
    (hb : blkC cc.N cc.sc scope (ownN cc.N own) = true) (ht : ckTg (cc.blk scope) (fun i => own.contains i) tg tgx = true) (hi : PI X tgx iter (tIv G mi)) (hn : notSet iter = true)
    (hc : ∀ (G' : Gx) (X' : Cx), Good T G' Gm L (cc.blk scope) X' → PTs X' ifs (tTv G' mt)) (he : ∀ (G' : Gx) (X' : Cx), Good T G' Gm L (cc.blk scope) X' → PE X' elt (tEv G' me)) :
    PE X (.ListComp elt [⟨tgx, iter, ifs, 0⟩] scope pos) (tEv G fun ρ S => (mi ρ S).bind fun p S1 => (lcL p.2 (lcStep tg own ρ mt me) p.1 S1).bind fun ys S2 => mkList m ys S2) := by
  have ok : BlkOk X.N X.env.scope scope (ownN cc.N own) := by rw [g.N, g.sc]; exact blkOk_by hb
  refine PE.imp (pe_lc (g := tGvB G (fun i => own.contains i) tg) (tt := tTvB G mt) (te := tEvB G me) g.calm (by rw [g.N]; exact g.nd) hi ok
    (fun s H C cl fp => ⟨fun pins s σ H v u Q I r h => ?_⟩) (fun s H C cl fp => ⟨fun pins s σ H Q I h => ?_⟩) (fun s H C cl fp => ⟨fun pins s σ H Q I h => ?_⟩) (foldedSet hn)) fun σ H Q => ?_
  · obtain ⟨blk, h⟩ := h
    exact (pg_ok ((g.bar blk).blk ok.kind _ _ _ _ _) tg ht).run pins s σ H v u Q I r h
  · obtain ⟨blk, h⟩ := h
    exact (hc _ _ ((g.bar blk).blk ok.kind _ _ _ _ _)).run pins s σ H Q I h
  · obtain ⟨blk, h⟩ := h
    exact (he _ _ ((g.bar blk).blk ok.kind _ _ _ _ _)).run pins s σ H Q I h
  · rintro ⟨f, ρ, S, v, S', re, rs, e, k⟩
    obtain ⟨p, S1, e1, e⟩ := R.bind_eq e
    obtain ⟨ys, S2, e2, e3⟩ := R.bind_eq e
    refine ⟨f, ρ, S, p, S1, re, rs, e1, fun J H1 f1 x1 r1 w D hD => ?_⟩
    rw [own_snd]
    exact lc_turns (re.ext x1) r1 hD w e2 e3 (fun z H3 f3 x3 r3 rv3 => k z H3 f3 (x1.trans x3) r3 rv3) fun i hi => by simpa using hi
/-! what the check tells of the lists -/
theorem ckEs_args : ∀ {es : Es} {args : List Expr}, ckEs T es cc args = true → ArgsOk args (denEs Gm es)
  | .nil, [], _ => ⟨rfl, fun ρ S xs S1 e => by
      have e : R.ok [] S = R.ok xs S1 := e
      obtain ⟨rfl, rfl⟩ := ok_inj e
      rfl, fun _ ρ S xs S1 e => by
      have e : R.ok [] S = R.ok xs S1 := e
      obtain ⟨rfl, rfl⟩ := ok_inj e
      exact ⟨rfl, rfl⟩⟩
  | .nil, e :: es, h => by simp [ckEs] at h
  | .cons x xs, [], h => by simp [ckEs] at h
  | .cons x xs, e :: es, h => by
    simp only [ckEs, Bool.and_eq_true] at h
    have ih := ckEs_args (es := xs) (args := es) h.2
    refine ⟨by rw [noStars, h.1.1, ih.stars]; rfl, fun ρ S ys S1 e => ?_, fun z => by cases z⟩
    simp only [denEs] at e
    obtain ⟨v, S2, e1, e⟩ := R.bind_eq e
    obtain ⟨vs, S3, e2, e⟩ := R.bind_eq e
    obtain ⟨rfl, rfl⟩ := ok_inj e
    rw [List.length_cons, List.length_cons, ih.len _ _ _ _ e2]
theorem ckKs_kws : ∀ {es : Es} {kws : List Keyword}, ckKs T es cc kws = true → KwsOk kws (denEs Gm es)
  | .nil, [], _ => ⟨rfl, fun ρ S xs S1 e => by
      have e : R.ok [] S = R.ok xs S1 := e
      obtain ⟨rfl, rfl⟩ := ok_inj e
      rfl⟩
  | .nil, e :: es, h => by simp [ckKs] at h
  | .cons x xs, [], h => by simp [ckKs] at h
  | .cons x xs, ⟨none, e, p⟩ :: es, h => by simp [ckKs] at h
  | .cons x xs, ⟨some n, e, p⟩ :: es, h => by
    simp only [ckKs, Bool.and_eq_true] at h
    have ih := ckKs_kws (es := xs) (kws := es) h.2
    refine ⟨by rw [List.all_cons, ih.named]; rfl, fun ρ S ys S1 e => ?_⟩
    simp only [denEs] at e
    obtain ⟨v, S2, e1, e⟩ := R.bind_eq e
    obtain ⟨vs, S3, e2, e⟩ := R.bind_eq e
    obtain ⟨rfl, rfl⟩ := ok_inj e
    rw [List.length_cons, List.length_cons, ih.len _ _ _ _ e2]
end
end Ev

set_option Elab.async false
set_option linter.all false
set_option maxRecDepth 100000
set_option maxHeartbeats 4000000
/-! ### Every expression that passes the check does what its meaning says -/
namespace Ev
open PySem PySem.Spec PyProof.Rows L2 RT RZ
structure SE (G : Gx) (Gm : Gm) (X : Cx) (x : E) (e : Expr) : Prop where
  pe : PE X e (tEv G (denE Gm x))
  pt : PT X e (tTv G (denT Gm x))
  pw : ∀ op es p, e = .BoolOp op es p → PW X e (tTv G (denT Gm x))
section
variable {T : Tab} {Gm : Gm} {L : Nat}
theorem bad_t {X : Cx} {e : Expr} {G : Gx} : PT X e (tTv G fun _ _ => .bad) := ⟨fun pins s σ H Q I h => by
  obtain ⟨f, ρ, S, b, S', re, rs, e, k⟩ := h
  cases e⟩
theorem ck_star {x : E} {cc : CC} {e : Expr} (h : ckE T x cc e = true) : notStar e = true := by
  cases e with
  | Starred => cases x <;> simp [ckE] at h
  | _ => rfl
theorem PT.bindV {X : Cx} {e : Expr} {G : Gx} {m : Env → Store → R Val} {cc : CC} (g : Good T G Gm L cc X) (h : PE X e (tEv G m)) (hg : genT e = true) : PT X e (tTv G fun ρ S => (m ρ S).bind fun v S1 => ofO (truth S1 v) S1) := pt_of g h hg
theorem ptEqv {X : Cx} {e : Expr} {G : Gx} {m m' : Env → Store → R Bool} (h : PT X e (tTv G m)) (k : ∀ ρ S, m' ρ S = m ρ S) : PT X e (tTv G m') := by
  have : m' = m := by funext ρ S; exact k ρ S
  rw [this]; exact h
theorem R.bind_assoc {α β γ : Type} (r : R α) (f : α → Store → R β) (k : β → Store → R γ) : (r.bind f).bind k = r.bind fun x S => (f x S).bind k := by cases r <;> rfl
mutual
theorem s_E : ∀ (x : E) {G : Gx} {cc : CC} {X : Cx} {e : Expr}, Good T G Gm L cc X → ckE T x cc e = true → SE G Gm X x e
  | .v i, G, cc, X, e, g, h => by
    cases e with
    | Name y p =>
      simp only [ckE, Bool.and_eq_true, decide_eq_true_eq] at h
      have he := c_var (pos := p) g h.1.1 h.1.2 h.2
      refine ⟨he, ptEqv (PT.bindV g he rfl) fun ρ S => ?_, fun _ _ _ z => by cases z⟩
      simp only [denT]
      rcases ρ[i]? with _ | (_ | x) <;> rfl
    | _ => cases h
  | .i n, G, cc, X, e, g, h => by
    cases e with
    | Constant c k p =>
      cases c <;> simp only [ckE, Bool.false_eq_true] at h
      obtain rfl := eq_of_beq h
      exact ⟨c_const pe_int (fun f H => rfl), bad_t, fun _ _ _ z => by cases z⟩
    | _ => cases h
  | .b n, G, cc, X, e, g, h => by
    cases e with
    | Constant c k p =>
      cases c <;> simp only [ckE, Bool.false_eq_true] at h
      obtain rfl := eq_of_beq h
      have he : PE X (.Constant (.bool n) k p) (tEv G fun _ S => .ok (.bl n) S) := c_const pe_bl (fun f H => rfl)
      refine ⟨he, ptEqv (PT.bindV g he rfl) fun ρ S => ?_, fun _ _ _ z => by cases z⟩
      simp only [denT, R.bind, truth, ofO]
    | _ => cases h
  | .s n, G, cc, X, e, g, h => by
    cases e with
    | Constant c k p =>
      cases c <;> simp only [ckE, Bool.false_eq_true] at h
      obtain rfl := eq_of_beq h
      exact ⟨c_const pe_str (fun f H => rfl), bad_t, fun _ _ _ z => by cases z⟩
    | _ => cases h
  | .n, G, cc, X, e, g, h => by
    cases e with
    | Constant c k p =>
      cases c <;> simp only [ckE, Bool.false_eq_true] at h
      exact ⟨c_const pe_non (fun f H => rfl), bad_t, fun _ _ _ z => by cases z⟩
    | _ => cases h
  | .g y, G, cc, X, e, g, h => by
    cases e with
    | Name z p =>
      simp only [ckE, Bool.and_eq_true] at h
      exact ⟨c_glob g (eq_of_beq h.1.1) h.1.2 h.2, bad_t, fun _ _ _ z => by cases z⟩
    | _ => cases h
  | .bin m op a b, G, cc, X, e, g, h => by
    cases e with
    | BinOp l o r p =>
      simp only [ckE, Bool.and_eq_true] at h
      obtain rfl := opB_eq h.1.1
      exact ⟨c_bin g m op (s_E a g h.1.2).pe (s_E b g h.2).pe, bad_t, fun _ _ _ z => by cases z⟩
    | _ => cases h
  | .neg a, G, cc, X, e, g, h => by
    cases e with
    | UnaryOp o r p =>
      cases o <;> simp only [ckE, Bool.false_eq_true] at h
      exact ⟨c_neg (s_E a g h).pe, bad_t, fun _ _ _ z => by cases z⟩
    | _ => cases h
  | .not a, G, cc, X, e, g, h => by
    cases e with
    | UnaryOp o r p =>
      cases o <;> simp only [ckE, Bool.false_eq_true] at h
      exact ⟨c_not g (s_E a g h).pe, t_not (s_E a g h).pt, fun _ _ _ z => by cases z⟩
    | _ => cases h
  | .and a b, G, cc, X, e, g, h => by
    cases e with
    | BoolOp o es p =>
      cases o with
      | Or => cases h
      | And =>
        match es, h with
        | [x, y], h =>
          simp only [ckE, Bool.and_eq_true] at h
          have w := t_and (pos := p) (s_E a g h.1).pt (pw_and1 (s_E b g h.2).pt)
          exact ⟨c_and g (s_E a g h.1).pe (pe_one (s_E b g h.2).pe), w.pt, fun _ _ _ z => w⟩
        | x :: y :: z :: r, h =>
          simp only [ckE, Bool.and_eq_true] at h
          have w := t_and (pos := p) (s_E a g h.1).pt ((s_E b g h.2).pw _ _ _ rfl)
          exact ⟨c_and g (s_E a g h.1).pe (s_E b g h.2).pe, w.pt, fun _ _ _ z => w⟩
    | _ => cases h
  | .or a b, G, cc, X, e, g, h => by
    cases e with
    | BoolOp o es p =>
      cases o with
      | And => cases h
      | Or =>
        match es, h with
        | [x, y], h =>
          simp only [ckE, Bool.and_eq_true] at h
          have w := t_or (pos := p) (s_E a g h.1).pt (pw_or1 (s_E b g h.2).pt)
          exact ⟨c_or g (s_E a g h.1).pe (pe_one (s_E b g h.2).pe), w.pt, fun _ _ _ z => w⟩
        | x :: y :: z :: r, h =>
          simp only [ckE, Bool.and_eq_true] at h
          have w := t_or (pos := p) (s_E a g h.1).pt ((s_E b g h.2).pw _ _ _ rfl)
          exact ⟨c_or g (s_E a g h.1).pe (s_E b g h.2).pe, w.pt, fun _ _ _ z => w⟩
    | _ => cases h
  | .cmp op a b, G, cc, X, e, g, h => by
    cases e with
    | Compare l os rs p =>
      match os, rs, h with
      | [o], [r], h =>
        simp only [ckE, Bool.and_eq_true] at h
        obtain rfl := copB_eq h.1.1.1
        exact ⟨c_cmp g op (s_E a g h.1.1.2).pe (s_E b g h.1.2).pe h.2, t_cmp g op (s_E a g h.1.1.2).pe (s_E b g h.1.2).pe h.2, fun _ _ _ z => by cases z⟩
    | _ => cases h
  | .cmp2 o1 o2 a b c, G, cc, X, e, g, h => by
    cases e with
    | Compare l os rs p =>
      match os, rs, h with
      | [p1, p2], [r1, r2], h =>
        simp only [ckE, Bool.and_eq_true] at h
        obtain ⟨⟨⟨⟨⟨⟨h1, h2⟩, h3⟩, h4⟩, h5⟩, h6⟩, h7⟩ := h
        obtain rfl := copB_eq h1
        obtain rfl := copB_eq h2
        exact ⟨c_cmp2 g o1 o2 (s_E a g h3).pe (s_E b g h4).pe (s_E c g h5).pe h6 h7, t_cmp2 g o1 o2 (s_E a g h3).pe (s_E b g h4).pe (s_E c g h5).pe h6 h7, fun _ _ _ z => by cases z⟩
    | _ => cases h
  | .ite c a b, G, cc, X, e, g, h => by
    cases e with
    | IfExp t x y p =>
      simp only [ckE, Bool.and_eq_true] at h
      exact ⟨c_ite (s_E c g h.1.1).pt (s_E a g h.1.2).pe (s_E b g h.2).pe, bad_t, fun _ _ _ z => by cases z⟩
    | _ => cases h
  | .tup es, G, cc, X, e, g, h => by
    cases e with
    | Tuple xs k p =>
      simp only [ckE] at h
      exact ⟨c_tup (s_Es es g h), bad_t, fun _ _ _ z => by cases z⟩
    | _ => cases h
  | .lst m es, G, cc, X, e, g, h => by
    cases e with
    | List xs p =>
      simp only [ckE] at h
      exact ⟨c_lst m (s_Es es g h), bad_t, fun _ _ _ z => by cases z⟩
    | _ => cases h
  | .ix a i, G, cc, X, e, g, h => by
    cases e with
    | Subscript x s p =>
      simp only [ckE, Bool.and_eq_true] at h
      have he := c_ix (pos := p) g (s_E a g h.1.1).pe (s_E i g h.1.2).pe h.2
      refine ⟨he, ptEqv (PT.bindV g he rfl) fun ρ S => ?_, fun _ _ _ z => by cases z⟩
      simp only [denT, R.bind_assoc]
    | _ => cases h
  | .sl m a lo hi, G, cc, X, e, g, h => by
    cases e with
    | Subscript x s p =>
      cases s with
      | Slice l u st p2 =>
        cases st with
        | some z => cases h
        | none =>
          simp only [ckE, Bool.and_eq_true] at h
          exact ⟨c_sl g m (s_E a g h.1.1).pe (s_O lo g h.1.2) (s_O hi g h.2), bad_t, fun _ _ _ z => by cases z⟩
      | _ => cases h
    | _ => cases h
  | .fld a f, G, cc, X, e, g, h => by
    cases e with
    | Attribute x n p =>
      simp only [ckE, Bool.and_eq_true] at h
      have he := c_fld (pos := p) g (eq_of_beq h.1.1) (s_E a g h.1.2).pe h.2
      refine ⟨he, ptEqv (PT.bindV g he rfl) fun ρ S => ?_, fun _ _ _ z => by cases z⟩
      simp only [denT, R.bind_assoc]
    | _ => cases h
  | .call f sh es ks, G, cc, X, e, g, h => by
    cases e with
    | Call fn args kws p =>
      cases fn with
      | Name x p2 =>
        simp only [ckE, Bool.and_eq_true] at h
        obtain ⟨⟨⟨⟨⟨⟨h1, h2⟩, h3⟩, h4⟩, h5⟩, h6⟩, h7⟩ := h
        have he := c_call (pos := p) (p := p2) g (eq_of_beq h1) h2 h3 h4 (s_Es es g h5) (s_Ks ks g h6) (ckEs_args h5) (ckKs_kws h6) h7
        refine ⟨he, ptEqv (PT.bindV g he rfl) fun ρ S => ?_, fun _ _ _ z => by cases z⟩
        simp only [denT, R.bind_assoc]
        refine congrArg _ (funext fun xs => funext fun S1 => congrArg _ (funext fun ys => funext fun S2 => ?_))
        cases Gm.arr sh (xs ++ ys) <;> rfl
      | _ => cases h
    | _ => cases h
  | .make m c sh es ks, G, cc, X, e, g, h => by
    cases e with
    | Call fn args kws p =>
      cases fn with
      | Name x p2 =>
        simp only [ckE, Bool.and_eq_true] at h
        obtain ⟨⟨⟨⟨⟨h1, h2⟩, h3⟩, h4⟩, h5⟩, h6⟩ := h
        exact ⟨c_make g (eq_of_beq h1) h2 h3 (s_Es es g h4) (s_Ks ks g h5) (ckEs_args h4) (ckKs_kws h5) h6, bad_t, fun _ _ _ z => by cases z⟩
      | _ => cases h
    | _ => cases h
  | .meth a f sh es ks, G, cc, X, e, g, h => by
    cases e with
    | Call fn args kws p =>
      cases fn with
      | Attribute x n p2 =>
        simp only [ckE, Bool.and_eq_true, decide_eq_true_eq] at h
        obtain ⟨⟨⟨⟨⟨⟨⟨h1, h2⟩, h3⟩, h4⟩, h5⟩, h6⟩, h7⟩, h8⟩ := h
        have he := c_meth (pos := p) (apos := p2) g (eq_of_beq h1) (s_E a g h2).pe h3 h4 h5 (s_Es es g h6) (s_Ks ks g h7) (ckEs_args h6) (ckKs_kws h7) h8
        refine ⟨he, ptEqv (PT.bindV g he rfl) fun ρ S => ?_, fun _ _ _ z => by cases z⟩
        simp only [denT, R.bind_assoc]
      | _ => cases h
    | _ => cases h
  | .blt m f es, G, cc, X, e, g, h => by
    cases e with
    | Call fn args kws p =>
      cases fn with
      | Name x p2 =>
        cases kws with
        | cons => cases h
        | nil =>
          simp only [ckE, Bool.and_eq_true, Bool.not_eq_true', List.isEmpty_eq_false_iff] at h
          have he := c_blt (pos := p) (p := p2) g m f (eq_of_beq h.1.1.1) h.1.1.2 h.2 (s_Es es g h.1.2) (ckEs_args (Gm := Gm) h.1.2).stars
          refine ⟨he, ptEqv (PT.bindV g he rfl) fun ρ S => ?_, fun _ _ _ z => by cases z⟩
          simp only [denT, R.bind_assoc]
      | _ => cases h
    | _ => cases h
  | .isi a ts, G, cc, X, e, g, h => by
    cases e with
    | Call fn args kws p =>
      cases fn with
      | Name x p2 =>
        match args, kws, h with
        | [y, t], [], h =>
          simp only [ckE, Bool.and_eq_true] at h
          have he := c_isi (pos := p) (p := p2) g (eq_of_beq h.1.1.1) h.1.1.2 (s_E a g h.1.2).pe (ck_star h.1.2) h.2
          refine ⟨he, ptEqv (PT.bindV g he rfl) fun ρ S => ?_, fun _ _ _ z => by cases z⟩
          simp only [denT, R.bind_assoc]
          refine congrArg _ (funext fun xs => funext fun S1 => ?_)
          cases isiV Gm S1 xs ts <;> rfl
      | _ => cases h
    | _ => cases h
  | .bm a f es, G, cc, X, e, g, h => by
    cases e with
    | Call fn args kws p =>
      cases fn with
      | Attribute x n p2 =>
        cases kws with
        | cons => cases h
        | nil =>
          simp only [ckE, Bool.and_eq_true] at h
          obtain ⟨⟨⟨⟨⟨⟨h1, h2⟩, h3⟩, h4⟩, h5⟩, h6⟩, h7⟩ := h
          exact ⟨c_bm (pos := p) (apos := p2) g f h1 h2 (eq_of_beq h3) (s_E a g h4).pe h5 h6 (s_Es es g h7) (ckEs_args h7), bad_t, fun _ _ _ z => by cases z⟩
      | _ => cases h
    | _ => cases h
  | .lc m own tg it cond elt, G, cc, X, e, g, h => by
    cases e with
    | ListComp el gens scope p =>
      match gens, h with
      | [⟨t, iter, ifs, 0⟩], h =>
        simp only [ckE, Bool.and_eq_true] at h
        obtain ⟨⟨⟨⟨⟨h1, h2⟩, h3⟩, h4⟩, h5⟩, h6⟩ := h
        exact ⟨c_lc g h1 h2 (s_I it g h3) h4 (fun G' X' g' => s_C cond g' h5) (fun G' X' g' => (s_E elt g' h6).pe), bad_t, fun _ _ _ z => by cases z⟩
    | _ => cases h
theorem s_Es : ∀ (x : Es) {G : Gx} {cc : CC} {X : Cx} {e : List Expr}, Good T G Gm L cc X → ckEs T x cc e = true → PA X e (tAv G (denEs Gm x))
  | .nil, G, cc, X, e, g, h => by
    cases e with
    | nil => exact pa_of_nil
    | cons => cases h
  | .cons a as, G, cc, X, e, g, h => by
    cases e with
    | nil => cases h
    | cons y ys =>
      simp only [ckEs, Bool.and_eq_true] at h
      exact pa_of_cons (s_E a g h.1.2).pe (s_Es as g h.2) h.1.1
theorem s_Ks : ∀ (x : Es) {G : Gx} {cc : CC} {X : Cx} {e : List Keyword}, Good T G Gm L cc X → ckKs T x cc e = true → PK X e (tAv G (denEs Gm x))
  | .nil, G, cc, X, e, g, h => by
    cases e with
    | nil => exact pk_of_nil
    | cons => cases h
  | .cons a as, G, cc, X, e, g, h => by
    match e, h with
    | ⟨some n, y, p⟩ :: ys, h =>
      simp only [ckKs, Bool.and_eq_true] at h
      exact pk_of_cons (s_E a g h.1).pe (s_Ks as g h.2)
theorem s_O : ∀ (x : OE) {G : Gx} {cc : CC} {X : Cx} {e : Option Expr}, Good T G Gm L cc X → ckO T x cc e = true → PO X e (tOv G (denO Gm x))
  | .none, G, cc, X, e, g, h => by
    cases e with
    | none => exact o_none
    | some => cases h
  | .some a, G, cc, X, e, g, h => by
    cases e with
    | none => cases h
    | some y =>
      simp only [ckO] at h
      exact o_some (s_E a g h).pe
theorem s_C : ∀ (x : OE) {G : Gx} {cc : CC} {X : Cx} {e : List Expr}, Good T G Gm L cc X → ckC T x cc e = true → PTs X e (tTv G (denC Gm x))
  | .none, G, cc, X, e, g, h => by
    cases e with
    | nil => exact pts_of_nil
    | cons => cases h
  | .some a, G, cc, X, e, g, h => by
    match e, h with
    | [y], h =>
      simp only [ckC] at h
      exact pts_one (s_E a g h).pt
theorem s_I : ∀ (x : It) {G : Gx} {cc : CC} {X : Cx} {t e : Expr}, Good T G Gm L cc X → ckI T x cc t e = true → PI X t e (tIv G (denI Gm x))
  | .e a, G, cc, X, t, e, g, h => by
    simp only [ckI] at h
    exact i_any g (s_E a g h).pe
  | .range es, G, cc, X, t, e, g, h => by
    cases e with
    | Call fn args kws p =>
      cases fn with
      | Name x p2 =>
        cases kws with
        | cons => cases h
        | nil =>
          simp only [ckI, Bool.and_eq_true, Bool.or_eq_true] at h
          exact i_range g (eq_of_beq h.1.1.1) h.1.1.2 (s_Es es g h.1.2) (ckEs_args h.1.2) (h.2.imp eq_of_beq eq_of_beq)
      | _ => cases h
    | _ => cases h
  | .enum a, G, cc, X, t, e, g, h => by
    match t, e, h with
    | .Tuple _ _ _, .Call (.Name x p2) [y] [] p, h =>
      simp only [ckI, Bool.and_eq_true] at h
      exact i_enum g (eq_of_beq h.1.1.1) h.1.1.2 (s_E a g h.2).pe h.1.2
  | .zip a b, G, cc, X, t, e, g, h => by
    match t, e, h with
    | .Tuple _ _ _, .Call (.Name x p2) [y, z] [] p, h =>
      simp only [ckI, Bool.and_eq_true] at h
      obtain ⟨⟨⟨⟨⟨h1, h2⟩, h3⟩, h4⟩, h5⟩, h6⟩ := h
      exact i_zip g (eq_of_beq h1) h2 (s_E a g h5).pe h3 (s_E b g h6).pe h4
  | .rev a, G, cc, X, t, e, g, h => by
    match e, h with
    | .Call (.Name x p2) [y] [] p, h =>
      simp only [ckI, Bool.and_eq_true] at h
      exact i_rev g (eq_of_beq h.1.1.1) h.1.1.2 (s_E a g h.2).pe h.1.2
  | .revr1 a, G, cc, X, t, e, g, h => by
    match e, h with
    | .Call (.Name x p2) [.Call (.Name z p4) [y] [] p5] [] p, h =>
      simp only [ckI, Bool.and_eq_true] at h
      obtain ⟨⟨⟨⟨⟨h1, h2⟩, h3⟩, h4⟩, h5⟩, h6⟩ := h
      exact i_revr1 g (eq_of_beq h1) h2 (eq_of_beq h3) h4 (s_E a g h6).pe h5
  | .revr2 a b, G, cc, X, t, e, g, h => by
    match e, h with
    | .Call (.Name x p2) [.Call (.Name z p4) [y, w] [] p5] [] p, h =>
      simp only [ckI, Bool.and_eq_true] at h
      obtain ⟨⟨⟨⟨⟨⟨⟨h1, h2⟩, h3⟩, h4⟩, h5⟩, h6⟩, h7⟩, h8⟩ := h
      exact i_revr2 g (eq_of_beq h1) h2 (eq_of_beq h3) h4 (s_E a g h7).pe h5 (s_E b g h8).pe h6
end
end
end Ev

set_option Elab.async false
set_option linter.all false
set_option maxRecDepth 100000
set_option maxHeartbeats 4000000
/-! ### Statements -/
namespace Ev
open PySem PySem.Spec PyProof.Rows L2 RT RZ
def FlK (G : Gx) (D : Ends) (f : List Addr) (H : Hp) : Fl → Prop
  | .nx ρ => ∀ σ, RE G f H ρ σ → D.nx σ H
  | .ct ρ => ∀ σ, RE G f H ρ σ → D.ct σ H
  | .bk ρ => ∀ σ, RE G f H ρ σ → D.bk σ H
  | .rt v => ∀ x, RV G f H v x → D.rt x H
abbrev tSv (G : Gx) (m : Env → Store → R Fl) : TS := fun D σ H => ∃ f ρ S fl S', RE G f H ρ σ ∧ RS G f H S ∧ m ρ S = .ok fl S' ∧ ∀ H' f', Ext f H f' H' → RS G f' H' S' → FlK G D f' H' fl
theorem sw_nc {e : Expr} {t : Option Expr} {l : Nat} {env : PySem.Env} (h : notComp e = true) : swapsWith e t l env = pure false := by
  cases e <;> first | rfl | cases h
theorem sw_nl {e : Expr} {x : Str} {p : Pos} {l : Nat} {env : PySem.Env} (h : kindB env.scope x .local = false) : swapsWith e (some (.Name x p)) l env = pure false := by
  have hk : (env.kindOf x == some NameKind.local) = false := by
    cases q : env.kindOf x with
    | none => rfl
    | some k =>
      cases k with
      | «local» =>
        have := kindB_of (sc := env.scope) (x := x) (k := .local) q
        rw [h] at this; cases this
      | _ => rfl
  unfold swapsWith
  cases e <;> simp [hk]
theorem sw_at {e o : Expr} {f : Str} {p : Pos} {l : Nat} {env : PySem.Env} : swapsWith e (some (.Attribute o f p)) l env = pure false := by
  cases e <;> rfl
theorem sw_sub {e o i : Expr} {p : Pos} {l : Nat} {env : PySem.Env} : swapsWith e (some (.Subscript o i p)) l env = pure false := by
  cases e <;> rfl
theorem sw_tup {e : Expr} {ts : List Expr} {k : Nat} {p : Pos} {l : Nat} {env : PySem.Env} : swapsWith e (some (.Tuple ts k p)) l env = pure false := by
  cases e <;> rfl
theorem sw_tup1 {e : Expr} {ts : List Expr} {k : Nat} {p : Pos} {l : Nat} {env : PySem.Env} : swapsWithSole [.Tuple ts k p] e l env = pure false := by
  cases e <;> rfl
theorem R.ok_bind {α β : Type} (a : α) (S : Store) (f : α → Store → R β) : (R.ok a S).bind f = f a S := rfl
theorem sw_none {ts : List Expr} {e : Expr} {k : Nat} {p : Pos} {env : PySem.Env} (h : noSwp ts e = true) : swappedStores [.Tuple ts k p] e env = pure none := by
  cases e with
  | Tuple vs k2 p2 =>
    simp only [noSwp, Bool.or_eq_true] at h
    unfold swappedStores
    rcases h with h | h
    · simp only [h]
      show (if _ then _ else if _ then _ else if _ then _ else _) = _
      split
      · rfl
      · split
        · rfl
        · split <;> rfl
    · simp only [h, Bool.true_or, if_true]
  | _ => rfl
section
variable {T : Tab} {G : Gx} {Gm : Gm} {L : Nat} {cc : CC} {X : Cx} {a b c e : Expr} {pos : Pos} {ma mb mc me : Env → Store → R Val}
theorem nm_loc (g : Good T G Gm L cc X) {i : Nat} {x : Str} (h : nmB cc i x = true) : X.N[i]? = some x ∧ Loc X.env.scope x ∧ (X.fn x = true ∨ X.env.scope.names.lookup x = some .local) := by
  simp only [nmB, Bool.and_eq_true, Bool.or_eq_true, decide_eq_true_eq] at h
  obtain ⟨h1, h2⟩ := h
  rw [g.N, g.sc, g.fn]
  refine ⟨h1, ?_, ?_⟩
  · rcases h2 with h2 | h2
    · exact .inl (kindB_eq h2)
    · exact .inr (kindB_eq h2.1)
  · rcases h2 with h2 | h2
    · exact .inr (kindB_eq h2)
    · exact .inl h2.2
theorem set_of {i : Nat} {D : Ends} {σ : L2.St} {H : Hp} (h : tSv G (fun ρ S => (me ρ S).bind fun x S1 => .ok (.nx (ρ.set i (some x))) S1) D σ H) : tAsg (tEv G me) (gName i) D σ H := by
  obtain ⟨f, ρ, S, fl, S', re, rs, e, k⟩ := h
  obtain ⟨x, S1, e1, e⟩ := R.bind_eq e
  obtain ⟨rfl, rfl⟩ := ok_inj e
  exact ⟨f, ρ, S, x, S1, re, rs, e1, fun xv H1 f1 x1 r1 rv1 => k H1 f1 x1 r1 _ ((re.ext x1).set rv1 i)⟩
theorem p_set (g : Good T G Gm L cc X) {i : Nat} {x : Str} {px : Pos} (h : nmB cc i x = true) (he : PE X e (tEv G me)) (hs : swapsWith e (some (.Name x px)) pos.line X.env = pure false) :
    PS X (.Assign [.Name x px] e pos) (tSv G fun ρ S => (me ρ S).bind fun x S1 => .ok (.nx (ρ.set i (some x))) S1) := by
  obtain ⟨h1, h2, h3⟩ := nm_loc g h
  exact PS.imp (ps_set (by rw [g.N]; exact g.nd) h1 h2 he hs h3) fun D σ H h => set_of h
theorem p_setLc (g : Good T G Gm L cc X) {i : Nat} {x : Str} {px lp : Pos} {m : Bool} {own : List Nat} {tg : Tg} {tgx iter elt : Expr} {ifs : List Expr} {scope : Scope} {mi : Env → Store → R (List Val × List (Nat × Cell))} {mt : Env → Store → R Bool}
    (h1 : cc.N[i]? = some x) (h2 : kindB cc.sc x .local = true) (hl : (px.line == lp.line) = true) (hown : (scope.names.any fun (n, k) => n == x && (k == .local || k == .cell)) = false)
    (hb : blkC cc.N cc.sc scope (ownN cc.N own) = true) (ht : ckTg (cc.blk scope) (fun i => own.contains i) tg tgx = true) (hi : PI X tgx iter (tIv G mi)) (hn : notSet iter = true)
    (hc : ∀ (G' : Gx) (X' : Cx), Good T G' Gm L (cc.blk scope) X' → PTs X' ifs (tTv G' mt)) (he : ∀ (G' : Gx) (X' : Cx), Good T G' Gm L (cc.blk scope) X' → PE X' elt (tEv G' me)) :
    PS X (.Assign [.Name x px] (.ListComp elt [⟨tgx, iter, ifs, 0⟩] scope lp) pos) (tSv G fun ρ S => ((mi ρ S).bind fun p S1 => (lcL p.2 (lcStep tg own ρ mt me) p.1 S1).bind fun ys S2 => mkList m ys S2).bind fun x S1 => .ok (.nx (ρ.set i (some x))) S1) := by
  have ok : BlkOk X.N X.env.scope scope (ownN cc.N own) := by rw [g.N, g.sc]; exact blkOk_by hb
  have hxl : X.env.scope.names.lookup x = some .local := by rw [g.sc]; exact kindB_eq h2
  refine PS.imp (ps_setLc (g := tGvB G (fun i => own.contains i) tg) (tt := tTvB G mt) (te := tEvB G me) g.calm (by rw [g.N]; exact g.nd) (by rw [g.N]; exact h1) hxl (sw_true (by rw [g.sc]; exact g.kind) hxl hl hown) hi ok
    (fun s H C cl fp => ⟨fun pins s σ H v u Q I r h => ?_⟩) (fun s H C cl fp => ⟨fun pins s σ H Q I h => ?_⟩) (fun s H C cl fp => ⟨fun pins s σ H Q I h => ?_⟩) (foldedSet hn)) fun D σ H h => ?_
  · obtain ⟨blk, h⟩ := h
    exact (pg_ok ((g.bar blk).blk ok.kind _ _ _ _ _) tg ht).run pins s σ H v u Q I r h
  · obtain ⟨blk, h⟩ := h
    exact (hc _ _ ((g.bar blk).blk ok.kind _ _ _ _ _)).run pins s σ H Q I h
  · obtain ⟨blk, h⟩ := h
    exact (he _ _ ((g.bar blk).blk ok.kind _ _ _ _ _)).run pins s σ H Q I h
  · obtain ⟨f, ρ, S, v, S', re, rs, e, k⟩ := set_of h
    obtain ⟨p, S1, e1, e⟩ := R.bind_eq e
    obtain ⟨ys, S2, e2, e3⟩ := R.bind_eq e
    refine ⟨f, ρ, S, p, S1, re, rs, e1, fun J H1 f1 x1 r1 w D hD => ?_⟩
    rw [own_snd]
    exact lc_turns (re.ext x1) r1 hD w e2 e3 (fun z H3 f3 x3 r3 rv3 => k z H3 f3 (x1.trans x3) r3 rv3) fun i hi => by simpa using hi
theorem p_asg (g : Good T G Gm L cc X) {t : Tg} {ts : List Expr} {k : Nat} {p : Pos} (ht : ckTg cc (fun _ => true) t (.Tuple ts k p) = true) (he : PE X e (tEv G me)) (hw : swappedStores [.Tuple ts k p] e X.env = pure none) :
    PS X (.Assign [.Tuple ts k p] e pos) (tSv G fun ρ S => (me ρ S).bind fun x S1 => match asg S1 t x ρ with
    | some ρ1 => .ok (.nx ρ1) S1
    | none => .bad) := by
  refine PS.imp (ps_asg he (pg_ok (own := fun _ => true) g t ht) sw_tup1 hw (by rfl)) fun D σ H h => ?_
  obtain ⟨f, ρ, S, fl, S', re, rs, e, k⟩ := h
  obtain ⟨x, S1, e1, e⟩ := R.bind_eq e
  cases q : asg S1 t x ρ with
  | none => rw [q] at e; cases e
  | some ρ1 =>
    rw [q] at e
    obtain ⟨rfl, rfl⟩ := ok_inj e
    exact ⟨f, ρ, S, x, S1, re, rs, e1, fun xv H1 f1 x1 r1 rv1 => ⟨f1, ρ, S1, x, ρ1, re.ext x1, r1, rv1, q, fun σ' r _ => k H1 f1 x1 r1 σ' r⟩⟩
theorem p_par (g : Good T G Gm L cc X) {i j : Nat} {x y : Str} {px py pt pt2 : Pos} {kt k2 : Nat} (hi : cc.N[i]? = some x) (hj : cc.N[j]? = some y) (hij : i ≠ j) (hx : kindB cc.sc x .local = true) (hy : kindB cc.sc y .local = true)
    (n1 : notStar a = true) (n2 : notStar b = true) (ha : PE X a (tEv G ma)) (hb : PE X b (tEv G mb)) (hl : (px.line == py.line) = true) (hxy : (x == y) = false) (hf : foldedForSure 8 a = false) (hc : constantsAlone 8 a = false) :
    PS X (.Assign [.Tuple [.Name x px, .Name y py] kt pt] (.Tuple [a, b] k2 pt2) pos) (tSv G fun ρ S => (ma ρ S).bind fun x S1 => (mb ρ S1).bind fun y S2 => .ok (.nx ((ρ.set i (some x)).set j (some y))) S2) := by
  have hxl : X.env.scope.names.lookup x = some .local := by rw [g.sc]; exact kindB_eq hx
  have hyl : X.env.scope.names.lookup y = some .local := by rw [g.sc]; exact kindB_eq hy
  have kx : X.env.kindOf x = some .local := hxl
  have ky : X.env.kindOf y = some .local := hyl
  have bk : X.env.blockKind = .function := by
    have : X.env.scope.kind = .function := by rw [g.sc]; exact g.kind
    unfold Env.blockKind; rw [this]; rfl
  have hxy' : x ≠ y := fun z => by rw [z] at hxy; simp at hxy
  have hw : swappedStores [.Tuple [.Name x px, .Name y py] kt pt] (.Tuple [a, b] k2 pt2) X.env = pure (some [x, y]) := by
    have st : ([a, b].any fun | .Starred .. => true | _ => false) = false := by
      rw [List.any_cons, List.any_cons]
      have z : ∀ {e : Expr}, notStar e = true → (match e with | .Starred .. => true | _ => false) = false := fun {e} h => by cases e <;> first | rfl | cases h
      simp only [z n1, z n2, List.any_nil, Bool.or_false]
    have hl' : (py.line == px.line) = true := by rw [beq_iff_eq] at hl ⊢; exact hl.symm
    have nm : ([Expr.Name x px, Expr.Name y py].filterMap fun
      | .Name id pos => if X.env.kindOf id == some .local && pos.line == px.line then some id else none
      | _ => none) = [x, y] := by
      rw [List.filterMap_cons_some (b := x) (by simp [kx]), List.filterMap_cons_some (b := y) (by rw [beq_iff_eq] at hl'; simp [ky, hl'])]
      rfl
    have ed : [x, y].eraseDups = [x, y] := by
      simp [List.eraseDups_cons, Ne.symm hxy', hxy']
    have fa : [a, b].all (foldedForSure 8) = false := by rw [List.all_cons, hf]; rfl
    have ca : [a, b].all (constantsAlone 8) = false := by rw [List.all_cons, hc]; rfl
    unfold swappedStores
    simp only [st, fa, ca]
    have key : ∀ ns : List Str, ns = [x, y] → (if (ns.length != 2 || ns.eraseDups.length != ns.length) = true then (pure none : Sem (Option (List Str))) else if false = true then pure none else if false = true then (do unsupported "assign.tuple-of-constant-expressions:order-of-the-stores"; pure (some ns)) else pure (some ns)) = pure (some [x, y]) := by
      rintro ns rfl
      rw [ed, if_neg (by simp), if_neg (by decide), if_neg (by decide)]
    refine (if_neg (fun z => ?_)).trans ((if_neg (fun z => ?_)).trans (key _ nm))
    · rw [bk] at z; cases z
    · exact Bool.false_ne_true (st.symm.trans z)
  refine PS.imp (ps_par (ta := tAv G fun ρ S => (ma ρ S).bind fun x S1 => (mb ρ S1).bind fun y S2 => .ok [x, y] S2) g.calm (by rw [g.N]; exact g.nd) (by rw [g.N]; exact hi) (by rw [g.N]; exact hj) hij hxl hyl ?_ hw sw_tup1) fun D σ H h => ?_
  · refine PA.imp (pa_of_cons ha (pa_of_cons hb pa_of_nil n2) n1) fun σ H Q => ?_
    rintro ⟨f, ρ, S, vs, S', re, rs, e, k⟩
    refine ⟨f, ρ, S, vs, S', re, rs, ?_, k⟩
    simpa only [R.bind_assoc, R.ok_bind] using e
  · obtain ⟨f, ρ, S, fl, S', re, rs, e, k⟩ := h
    obtain ⟨u, S1, e1, e⟩ := R.bind_eq e
    obtain ⟨w, S2, e2, e⟩ := R.bind_eq e
    obtain ⟨rfl, rfl⟩ := ok_inj e
    refine ⟨f, ρ, S, [u, w], S2, re, rs, by simp only [e1, e2, R.bind], fun xs H1 f1 x1 r1 rv1 => ?_⟩
    obtain ⟨y, z, rfl, h, h'⟩ := rv1.two
    exact ⟨y, z, rfl, k H1 f1 x1 r1 _ (((re.ext x1).set h i).set h' j)⟩
end
end Ev

set_option Elab.async false
set_option linter.all false
set_option maxRecDepth 100000
set_option maxHeartbeats 4000000
/-! ### Statements, the rest -/
namespace Ev
open PySem PySem.Spec PyProof.Rows L2 RT RZ
theorem sw_sub1 {e o i : Expr} {p : Pos} {l : Nat} {env : PySem.Env} : swapsWithSole [.Subscript o i p] e l env = pure false := by
  cases e <;> rfl
section
variable {T : Tab} {G : Gx} {Gm : Gm} {L : Nat} {cc : CC} {X : Cx} {a b c e o i : Expr} {pos : Pos} {ma mb mc me mo mi mv : Env → Store → R Val}
theorem p_setix (g : Good T G Gm L cc X) {p : Pos} (hv : PE X e (tEv G mv)) (ho : PE X o (tEv G mo)) (hi : PE X i (tEv G mi)) (hn : notSlice i = true) :
    PS X (.Assign [.Subscript o i p] e pos) (tSv G fun ρ S => (mv ρ S).bind fun v S1 => (mo ρ S1).bind fun o S2 => (mi ρ S2).bind fun k S3 => match setixV o k v S3 with
    | some S4 => .ok (.nx ρ) S4
    | none => .bad) := by
  refine PS.imp (ps_asg hv (pg_sub ho hi (set_V (G := G)) (by intro v; cases i <;> first | rfl | cases hn)) sw_sub1 (by cases e <;> rfl) (by rfl)) fun D σ H h => ?_
  obtain ⟨f, ρ, S, fl, S', re, rs, e, k⟩ := h
  obtain ⟨v, S1, e1, e⟩ := R.bind_eq e
  obtain ⟨w, S2, e2, e⟩ := R.bind_eq e
  obtain ⟨n, S3, e3, e⟩ := R.bind_eq e
  cases q : setixV w n v S3 with
  | none => rw [q] at e; cases e
  | some S4 =>
    rw [q] at e
    obtain ⟨rfl, rfl⟩ := ok_inj e
    exact ⟨f, ρ, S, v, S1, re, rs, e1, fun xv H1 f1 x1 r1 rv1 => ⟨f1, ρ, S1, w, S2, re.ext x1, r1, e2, fun wv H2 f2 x2 r2 rv2 => ⟨f2, ρ, S2, n, S3, (re.ext x1).ext x2, r2, e3, fun nv H3 f3 x3 r3 rv3 =>
      ⟨f3, S3, w, n, v, S4, r3, rv2.ext x3, rv3, (rv1.ext x2).ext x3, q, fun H4 x4 r4 => k H4 f3 (((x1.trans x2).trans x3).trans x4) r4 _ ((((re.ext x1).ext x2).ext x3).ext x4)⟩⟩⟩⟩
theorem fld_put {f : List Addr} {H : Hp} {S S' : Store} {v w : Val} {x z : V} {g : String} (r : RS G f H S) (h : RV G f H v x) (hz : RV G f H w z) (e : setfldV v g w S = some S') :
    ∃ a c dx hs, x = .ref a ∧ (∃ fs, objOf S v = some (c, fs)) ∧ H a = some (.ins (G.cls c) dx hs) ∧ hs.length < 1000 ∧ Ext f H f (upd H a (.ins (G.cls c) dx (putF (Str.ofString g) z hs))) ∧ RS G f (upd H a (.ins (G.cls c) dx (putF (Str.ofString g) z hs))) S' := by
  cases v with
  | ref k =>
    obtain ⟨a, rfl, ha⟩ := h
    simp only [setfldV] at e
    cases q : S[k]? with
    | none => rw [q] at e; cases e
    | some d =>
      rw [q] at e
      cases d with
      | obj c fs =>
        simp only at e
        by_cases hl : fs.length < 900
        · rw [if_pos hl] at e
          cases e
          obtain ⟨dx, hs, h1, h2⟩ := r.cell q ha
          have x := Ext.write (o := .ins (G.cls c) dx (putF (Str.ofString g) z hs)) r (List.mem_of_getElem? ha)
          have hp := RFs.put ofString_inj (g := g) (hz.ext x) (h2.ext x)
          refine ⟨a, c, dx, hs, rfl, ⟨fs, by simp only [objOf, q]⟩, h1, by have := h2.len; omega, x, r.write ha ⟨dx, _, upd_same, hp⟩⟩
        · rw [if_neg hl] at e; cases e
      | _ => cases e
  | _ => cases e
theorem p_setfld (g : Good T G Gm L cc X) {p : Pos} {f : String} {nm : Str} (hf : Str.ofString f = nm) (hv : PE X e (tEv G mv)) (ho : PE X o (tEv G mo)) :
    PS X (.Assign [.Attribute o nm p] e pos) (tSv G fun ρ S => (mv ρ S).bind fun v S1 => (mo ρ S1).bind fun o S2 => match objOf S2 o with
    | some (c, _) => if Gm.fld c f = true then (match setfldV o f v S2 with
      | some S3 => .ok (.nx ρ) S3
      | none => .bad) else .bad
    | none => .bad) := by
  subst hf
  refine PS.imp (ps_fld ho hv sw_at) fun D σ H h => ?_
  obtain ⟨fl, ρ, S, fw, S', re, rs, e, k⟩ := h
  obtain ⟨v, S1, e1, e⟩ := R.bind_eq e
  obtain ⟨w, S2, e2, e⟩ := R.bind_eq e
  cases q : objOf S2 w with
  | none => rw [q] at e; cases e
  | some pr =>
    obtain ⟨c, fs⟩ := pr
    rw [q] at e
    simp only at e
    by_cases hc : Gm.fld c f = true
    · rw [if_pos hc] at e
      cases q2 : setfldV w f v S2 with
      | none => rw [q2] at e; cases e
      | some S3 =>
        rw [q2] at e
        obtain ⟨rfl, rfl⟩ := ok_inj e
        obtain ⟨h1, h2⟩ := g.fac.fld c f hc
        refine ⟨fl, ρ, S, v, S1, re, rs, e1, fun xv H1 f1 x1 r1 rv1 => ⟨f1, ρ, S1, w, S2, re.ext x1, r1, e2, fun wv H2 f2 x2 r2 rv2 => ?_⟩⟩
        obtain ⟨ad, c', dx, hs, rfl, ⟨fs', q3⟩, hH, hl, x3, r3⟩ := fld_put r2 rv2 (rv1.ext x2) q2
        rw [q] at q3
        cases q3
        exact ⟨ad, _, dx, hs, rfl, hH, by rw [g.K]; exact h1, by rw [g.K]; exact h2, hl, k _ f2 ((x1.trans x2).trans x3) r3 _ (((re.ext x1).ext x2).ext x3)⟩
    · rw [if_neg hc] at e; cases e
theorem p_aug (g : Good T G Gm L cc X) {j : Nat} {x : Str} {px : Pos} (op : BOp) (h : nmB cc j x = true) (he : PE X e (tEv G me)) :
    PS X (.AugAssign (.Name x px) op.op e pos) (tSv G fun ρ S => match ρ[j]? with
    | some (some x) => (me ρ S).bind fun y S1 => (augV op x y S1).bind fun z S2 => .ok (.nx (ρ.set j (some z))) S2
    | _ => .bad) := by
  obtain ⟨h1, h2, h3⟩ := nm_loc g h
  refine PS.imp (ps_aug (by rw [g.N]; exact g.nd) h1 h2 he (aug_V (G := G) op) h3) fun D σ H h => ?_
  obtain ⟨f, ρ, S, fl, S', re, rs, e, k⟩ := h
  rcases q : ρ[j]? with _ | (_ | v)
  · simp only [q] at e; cases e
  · simp only [q] at e; cases e
  · simp only [q] at e
    obtain ⟨y, S1, e1, e⟩ := R.bind_eq e
    obtain ⟨z, S2, e2, e⟩ := R.bind_eq e
    obtain ⟨rfl, rfl⟩ := ok_inj e
    obtain ⟨xv, hx, rx⟩ := re.at_ j v q
    exact ⟨xv, hx, f, ρ, S, y, S1, re, rs, e1, fun yv H1 f1 x1 r1 rv1 => ⟨f1, S1, v, y, z, S2, r1, rx.ext x1, rv1, e2, fun zv H2 f2 x2 r2 rv2 => k H2 f2 (x1.trans x2) r2 _ (((re.ext x1).ext x2).set rv2 j)⟩⟩
def rGetV (G : Gx) : V → V → Hp → VK → Prop := fun o i H Q => ∃ f S n iv w, RS G f H S ∧ RV G f H (.ref n) o ∧ RV G f H iv i ∧ ixV (.ref n) iv S = some w ∧ ∀ z, RV G f H w z → Q z H
theorem get_V (hK : X.K = G.K) : PGet X (rGetV G) := by
  intro pins s σ H o i ov iv Q I ro ri h
  obtain ⟨f, S, n, j, w, r, h1, h2, e, k⟩ := h
  obtain ⟨m, vs, rfl, e1, e2⟩ := ixV_eq e
  cases h2
  obtain ⟨t, rfl⟩ := ri
  obtain ⟨a, xs, rfl, hv, hs⟩ := seq_at r h1 e1
  rcases hs with ⟨t, _⟩ | ⟨_, hq⟩
  · cases t
  obtain rfl : ov = Value.ref a := ro
  obtain ⟨z, hz, rz⟩ := atI_map hv e2
  obtain ⟨its, rr, pl, hz'⟩ := I.list (by rw [hK]; exact hq)
  obtain ⟨j, g1, g2, g3, g4, g5⟩ := atI_get hz
  obtain ⟨w', ew, rw'⟩ := rr.get g2
  have hl := rr.length
  have hn := line63
  have fin : EP X pins σ Q w' s := ⟨z, H, I, rw', k z rz⟩
  by_cases h0 : 0 ≤ m
  · have hj : m.toNat = j := by
      rw [seqIndex_of h0 g5] at g1
      exact Option.some.inj g1
    exact getItem_listL pl.isList h0 (by omega) (by rw [hj]; simpa using ew) fin
  · have hj : (m + (its.toArray.size : Int)).toNat = j := by
      rw [seqIndex_neg (by omega) g4] at g1
      rw [List.size_toArray, ← hl]
      exact Option.some.inj g1
    exact wpAny_getItem_list_neg pl.isList (by omega) (by rw [List.size_toArray] <;> omega) (by omega) (by rw [hj]; simpa using ew) fin
theorem p_augix (g : Good T G Gm L cc X) {p : Pos} (op : BOp) (ho : PE X o (tEv G mo)) (hi : PE X i (tEv G mi)) (he : PE X e (tEv G me)) (hn : notSlice i = true) :
    PS X (.AugAssign (.Subscript o i p) op.op e pos) (tSv G fun ρ S => (mo ρ S).bind fun o S1 => (mi ρ S1).bind fun k S2 => (ofO (ixV o k S2) S2).bind fun x S2 => (me ρ S2).bind fun y S3 => (augV op x y S3).bind fun z S4 => match setixV o k z S4 with
    | some S5 => .ok (.nx ρ) S5
    | none => .bad) := by
  refine PS.imp (ps_augS ho hi (get_V (G := G) g.K) he (aug_V (G := G) op) (set_V (G := G)) (by intros; cases i <;> first | rfl | cases hn)) fun D σ H h => ?_
  obtain ⟨f, ρ, S, fl, S', re, rs, e, k⟩ := h
  obtain ⟨w, S1, e1, e⟩ := R.bind_eq e
  obtain ⟨n, S2, e2, e⟩ := R.bind_eq e
  obtain ⟨x, e3, e⟩ := bind_ofO e
  obtain ⟨y, S3, e4, e⟩ := R.bind_eq e
  obtain ⟨z, S4, e5, e⟩ := R.bind_eq e
  cases q : setixV w n z S4 with
  | none => rw [q] at e; cases e
  | some S5 =>
    rw [q] at e
    obtain ⟨rfl, rfl⟩ := ok_inj e
    obtain ⟨nn, rfl⟩ : ∃ nn, w = .ref nn := by
      cases w with
      | ref nn => exact ⟨nn, rfl⟩
      | _ => cases q
    exact ⟨f, ρ, S, .ref nn, S1, re, rs, e1, fun wv H1 f1 x1 r1 rv1 => ⟨f1, ρ, S1, n, S2, re.ext x1, r1, e2, fun nv H2 f2 x2 r2 rv2 => ⟨f2, S2, nn, n, x, r2, rv1.ext x2, rv2, e3, fun xv rvx =>
      ⟨f2, ρ, S2, y, S3, (re.ext x1).ext x2, r2, e4, fun yv H3 f3 x3 r3 rv3 => ⟨f3, S3, x, y, z, S4, r3, rvx.ext x3, rv3, e5, fun zv H4 f4 x4 r4 rv4 =>
        ⟨f4, S4, .ref nn, n, z, S5, r4, (((rv1.ext x2).ext x3).ext x4), ((rv2.ext x3).ext x4), rv4, q, fun H5 x5 r5 => k H5 f4 ((((x1.trans x2).trans x3).trans x4).trans x5) r5 _ (((((re.ext x1).ext x2).ext x3).ext x4).ext x5)⟩⟩⟩⟩⟩⟩
theorem p_augfld (g : Good T G Gm L cc X) {p : Pos} {f : String} {nm : Str} (op : BOp) (hf : Str.ofString f = nm) (ho : PE X o (tEv G mo)) (he : PE X e (tEv G me)) :
    PS X (.AugAssign (.Attribute o nm p) op.op e pos) (tSv G fun ρ S => (mo ρ S).bind fun o S1 => match objOf S1 o with
    | some (c, fs) => if Gm.fld c f = true then (ofO (fs.lookup f) S1).bind fun x S1 => (me ρ S1).bind fun y S2 => (augV op x y S2).bind fun z S3 => (match objOf S3 o, setfldV o f z S3 with
      | some (c', _), some S4 => chk (c' = c) (.ok (.nx ρ) S4)
      | _, _ => .bad) else .bad
    | none => .bad) := by
  subst hf
  refine PS.imp (ps_fldaug ho he (aug_V (G := G) op)) fun D σ H h => ?_
  obtain ⟨fl, ρ, S, fw, S', re, rs, e, k⟩ := h
  obtain ⟨w, S1, e1, e⟩ := R.bind_eq e
  cases q : objOf S1 w with
  | none => rw [q] at e; cases e
  | some pr =>
    obtain ⟨c, fs⟩ := pr
    rw [q] at e
    simp only at e
    by_cases hc : Gm.fld c f = true
    · rw [if_pos hc] at e
      obtain ⟨x, e2, e⟩ := bind_ofO e
      obtain ⟨y, S2, e3, e⟩ := R.bind_eq e
      obtain ⟨z, S3, e4, e⟩ := R.bind_eq e
      cases q2 : objOf S3 w with
      | none => rw [q2] at e; cases e
      | some pr2 =>
        obtain ⟨c2, fs2⟩ := pr2
        cases q3 : setfldV w f z S3 with
        | none => rw [q2, q3] at e; cases e
        | some S4 =>
          rw [q2, q3] at e
          obtain ⟨hc2, e7⟩ := chk_eq e
          obtain ⟨rfl, rfl⟩ := ok_inj e7
          subst hc2
          obtain ⟨h1, h2⟩ := g.fac.fld _ f hc
          refine ⟨fl, ρ, S, w, S1, re, rs, e1, fun wv H1 f1 x1 r1 rv1 => ?_⟩
          obtain ⟨ad, dx, hs, rfl, hH, hfs⟩ := obj_at r1 rv1 q
          obtain ⟨xv, hx, rx⟩ := RFs.look ofString_inj hfs e2
          refine ⟨ad, _, dx, hs, xv, rfl, hH, by rw [g.K]; exact h1, by rw [g.K]; exact h2, hx, f1, ρ, S1, y, S2, re.ext x1, r1, e3, fun yv H2 f2 x2 r2 rv2 => ⟨f2, S2, x, y, z, S3, r2, rx.ext x2, rv2, e4, fun zv H3 f3 x3 r3 rv3 => ?_⟩⟩
          obtain ⟨ad', c', dx', hs', e6, ⟨fs', q4⟩, hH', hl, x4, r4⟩ := fld_put r3 ((rv1.ext x2).ext x3) rv3 q3
          cases e6
          rw [q2] at q4
          cases q4
          exact ⟨dx', hs', hH', hl, k _ f3 (((x1.trans x2).trans x3).trans x4) r4 _ ((((re.ext x1).ext x2).ext x3).ext x4)⟩
    · rw [if_neg hc] at e; cases e
theorem p_ex {p : Pos} (he : PE X e (tEv G me)) (hn : notComp e = true) : PS X (.Expr e p) (tSv G fun ρ S => (me ρ S).bind fun _ S1 => .ok (.nx ρ) S1) := PS.imp (ps_expr he (sw_nc hn)) fun D σ H h => by
  obtain ⟨f, ρ, S, fl, S', re, rs, e, k⟩ := h
  obtain ⟨x, S1, e1, e⟩ := R.bind_eq e
  obtain ⟨rfl, rfl⟩ := ok_inj e
  exact ⟨f, ρ, S, x, S1, re, rs, e1, fun xv H1 f1 x1 r1 rv1 => k H1 f1 x1 r1 _ (re.ext x1)⟩
theorem p_ret {p : Pos} (he : PE X e (tEv G me)) : PS X (.Return (some e) p) (tSv G fun ρ S => (me ρ S).bind fun x S1 => .ok (.rt x) S1) := PS.imp (ps_ret he) fun D σ H h => by
  obtain ⟨f, ρ, S, fl, S', re, rs, e, k⟩ := h
  obtain ⟨x, S1, e1, e⟩ := R.bind_eq e
  obtain ⟨rfl, rfl⟩ := ok_inj e
  exact ⟨f, ρ, S, x, S1, re, rs, e1, fun xv H1 f1 x1 r1 rv1 => k H1 f1 x1 r1 _ rv1⟩
theorem p_retn {p : Pos} : PS X (.Return none p) (tSv G fun ρ S => .ok (.rt .non) S) := PS.imp ps_retN fun D σ H h => by
  obtain ⟨f, ρ, S, fl, S', re, rs, e, k⟩ := h
  obtain ⟨rfl, rfl⟩ := ok_inj e
  exact k H f rs.ext rs _ rfl
theorem p_pass {p : Pos} : PS X (.Pass p) (tSv G fun ρ S => .ok (.nx ρ) S) := PS.imp ps_pass fun D σ H h => by
  obtain ⟨f, ρ, S, fl, S', re, rs, e, k⟩ := h
  obtain ⟨rfl, rfl⟩ := ok_inj e
  exact k H f rs.ext rs _ re
theorem p_brk {p : Pos} : PS X (.Break p) (tSv G fun ρ S => .ok (.bk ρ) S) := PS.imp ps_break fun D σ H h => by
  obtain ⟨f, ρ, S, fl, S', re, rs, e, k⟩ := h
  obtain ⟨rfl, rfl⟩ := ok_inj e
  exact k H f rs.ext rs _ re
theorem p_cnt {p : Pos} : PS X (.Continue p) (tSv G fun ρ S => .ok (.ct ρ) S) := PS.imp ps_continue fun D σ H h => by
  obtain ⟨f, ρ, S, fl, S', re, rs, e, k⟩ := h
  obtain ⟨rfl, rfl⟩ := ok_inj e
  exact k H f rs.ext rs _ re
theorem p_never {st : Stmt} : PS X st (tSv G fun _ _ => .bad) := PS.imp ps_never fun D σ H h => by
  obtain ⟨f, ρ, S, fl, S', re, rs, e, k⟩ := h
  cases e
theorem p_ite {mt : Env → Store → R Bool} {ms mr : Env → Store → R Fl} {p q : List Stmt} (hc : PT X c (tTv G mt)) (ha : PSs X p (tSv G ms)) (hb : PSs X q (tSv G mr)) :
    PS X (.If c p q pos) (tSv G fun ρ S => (mt ρ S).bind fun t S1 => if t = true then ms ρ S1 else mr ρ S1) := PS.imp (ps_if hc ha hb) fun D σ H h => by
  obtain ⟨f, ρ, S, fl, S', re, rs, e, k⟩ := h
  obtain ⟨t, S1, e1, e⟩ := R.bind_eq e
  refine ⟨f, ρ, S, t, S1, re, rs, e1, fun H1 f1 x1 r1 => ?_⟩
  cases t with
  | true =>
    rw [if_pos rfl] at e ⊢
    exact ⟨f1, ρ, S1, fl, S', re.ext x1, r1, e, fun H2 f2 x2 r2 => k H2 f2 (x1.trans x2) r2⟩
  | false =>
    rw [if_neg (by decide)] at e ⊢
    exact ⟨f1, ρ, S1, fl, S', re.ext x1, r1, e, fun H2 f2 x2 r2 => k H2 f2 (x1.trans x2) r2⟩
theorem p_nil : PSs X [] (tSv G fun ρ S => .ok (.nx ρ) S) := PSs.imp pss_nil fun D σ H h => by
  obtain ⟨f, ρ, S, fl, S', re, rs, e, k⟩ := h
  obtain ⟨rfl, rfl⟩ := ok_inj e
  exact k H f rs.ext rs _ re
theorem p_cons {st : Stmt} {rest : List Stmt} {ms mr : Env → Store → R Fl} (h1 : PS X st (tSv G ms)) (h2 : PSs X rest (tSv G mr)) :
    PSs X (st :: rest) (tSv G fun ρ S => (ms ρ S).bind fun fl S1 => match fl with
    | .nx ρ1 => mr ρ1 S1
    | fl => .ok fl S1) := PSs.imp (pss_cons h1 h2) fun D σ H h => by
  obtain ⟨f, ρ, S, fl, S', re, rs, e, k⟩ := h
  obtain ⟨fl1, S1, e1, e⟩ := R.bind_eq e
  refine ⟨f, ρ, S, fl1, S1, re, rs, e1, fun H1 f1 x1 r1 => ?_⟩
  cases fl1 with
  | nx ρ1 => exact fun σ1 re1 => ⟨f1, ρ1, S1, fl, S', re1, r1, e, fun H2 f2 x2 r2 => k H2 f2 (x1.trans x2) r2⟩
  | rt v =>
    obtain ⟨rfl, rfl⟩ := ok_inj e
    exact k H1 f1 x1 r1
  | bk v =>
    obtain ⟨rfl, rfl⟩ := ok_inj e
    exact k H1 f1 x1 r1
  | ct v =>
    obtain ⟨rfl, rfl⟩ := ok_inj e
    exact k H1 f1 x1 r1
/-! loops -/
def clFl (cl : List Nat) : Fl → Fl
  | .nx ρ2 => .nx (clr cl ρ2)
  | .ct ρ2 => .ct (clr cl ρ2)
  | .bk ρ2 => .bk (clr cl ρ2)
  | .rt v => .rt v
theorem FlK.clr {D : Ends} {f : List Addr} {H : Hp} {cl : List Nat} {fl : Fl} (h : FlK G D f H (clFl cl fl)) : FlK G D f H fl := by
  cases fl with
  | nx ρ => exact fun σ r => h σ (r.cl cl)
  | ct ρ => exact fun σ r => h σ (r.cl cl)
  | bk ρ => exact fun σ r => h σ (r.cl cl)
  | rt v => exact h
theorem p_for (g : Good T G Gm L cc X) {t : Tg} {tg iter : Expr} {body : List Stmt} {cl : List Nat} {mI : Env → Store → R (List Val × List (Nat × Cell))} {mB : Env → Store → R Fl} (ht : ckTg cc (fun _ => true) t tg = true) (hi : PI X tg iter (tIv G mI)) (hn : notSet iter = true) (hb : PSs X body (tSv G mB)) :
    PS X (.For tg iter body [] pos) (tSv G fun ρ S => (mI ρ S).bind fun p S1 => forL p.2 (fun x ρ S => match asg S t x ρ with
    | some ρ1 => (mB ρ1 S).bind fun fl S2 => .ok (clFl cl fl) S2
    | none => .bad) p.1 (clr cl ρ) S1) := by
  refine PS.imp (ps_for g.never g.calm hi (pg_ok (own := fun _ => true) g t ht) hb (foldedSet hn)) fun D σ H h => ?_
  obtain ⟨f, ρ, S, fl, S', re, rs, e, k⟩ := h
  obtain ⟨⟨items, gs⟩, S1, e1, e⟩ := R.bind_eq e
  refine ⟨f, ρ, S, (items, gs), S1, re, rs, e1, fun J H1 f1 x1 r1 w => ?_⟩
  simp only at e w
  refine ⟨fun i m σ H => m = items.length - i ∧ i ≤ items.length ∧ ∃ f2 ρ2 S2, Ext f1 H1 f2 H ∧ RE G f2 H ρ2 σ ∧ RS G f2 H S2 ∧ forL gs (fun x ρ S => match asg S t x ρ with
    | some ρ1 => (mB ρ1 S).bind fun fl S2 => .ok (clFl cl fl) S2
    | none => .bad) (items.drop i) ρ2 S2 = .ok fl S', ⟨items.length, by omega, by omega, f1, _, S1, r1.ext, (re.ext x1).cl cl, r1, e⟩, ?_⟩
  rintro i m σ2 H2 ⟨hm, hi', f2, ρ2, S2, x2, re2, r2, e2⟩
  cases q : items[i]? with
  | none =>
    have hil : i = items.length := by
      have := List.getElem?_eq_none_iff.mp q
      omega
    subst hil
    rw [List.drop_length] at e2
    unfold forL at e2
    by_cases hg : gdOk gs S2
    · rw [if_pos hg] at e2
      obtain ⟨rfl, rfl⟩ := ok_inj e2
      refine .inl ⟨(w G.blk (fun a h => .inl h) f2 H2 S2 x2 r2 hg).1, k H2 f2 (x1.trans x2) r2 _ re2⟩
    · rw [if_neg hg] at e2; cases e2
  | some v =>
    have hlt : i < items.length := (List.getElem?_eq_some_iff.mp q).1
    have hdrop : items.drop i = v :: items.drop (i + 1) := by
      rw [List.drop_eq_getElem_cons hlt]
      rw [List.getElem?_eq_getElem hlt] at q
      rw [Option.some.inj q]
    rw [hdrop] at e2
    unfold forL at e2
    by_cases hg : gdOk gs S2
    · rw [if_pos hg] at e2
      obtain ⟨flx, S3, e3, e2⟩ := R.bind_eq e2
      obtain ⟨hgo, hy⟩ := (w G.blk (fun a h => .inl h) f2 H2 S2 x2 r2 hg).2 i v q
      refine .inr ⟨hgo, _, fun σ' H' h => ⟨items.length - (i + 1), by omega, h⟩, fun x H3 y3 => ?_⟩
      obtain ⟨x3, r3, rv3⟩ := hy x H3 y3
      have r3 : RS G f2 H3 S2 := r3
      have rv3 : RV G f2 H3 v x := rv3
      cases qa : asg S2 t v ρ2 with
      | none => simp only [qa] at e3; cases e3
      | some ρ3 =>
        simp only [qa] at e3
        obtain ⟨flb, S4, e4, e5⟩ := R.bind_eq e3
        obtain ⟨rfl, rfl⟩ := ok_inj e5
        refine ⟨f2, ρ2, S2, v, ρ3, re2.ext x3, r3, rv3, qa, fun σ3 re3 _ => ⟨f2, ρ3, S2, flb, S4, re3, r3, e4, fun H5 f5 x5 r5 => ?_⟩⟩
        have xx : Ext f1 H1 f5 H5 := (x2.trans x3).trans x5
        cases flb with
        | nx ρ4 => exact fun σ5 re5 => ⟨rfl, hlt, f5, _, S4, xx, re5.cl cl, r5, e2⟩
        | ct ρ4 => exact fun σ5 re5 => ⟨rfl, hlt, f5, _, S4, xx, re5.cl cl, r5, e2⟩
        | bk ρ4 =>
          obtain ⟨rfl, rfl⟩ := ok_inj e2
          exact fun σ5 re5 => k H5 f5 (x1.trans xx) r5 _ (re5.cl cl)
        | rt v4 =>
          obtain ⟨rfl, rfl⟩ := ok_inj e2
          exact k H5 f5 (x1.trans xx) r5
    · rw [if_neg hg] at e2; cases e2
theorem p_wh (g : Good T G Gm L cc X) {body : List Stmt} {cl : List Nat} {n : Nat} {mt : Env → Store → R Bool} {mB : Env → Store → R Fl} (hc : PT X c (tTv G mt)) (hb : PSs X body (tSv G mB)) :
    PS X (.While c body [] pos) (tSv G fun ρ S => whL mt (fun ρ S => (mB ρ S).bind fun fl S2 => .ok (clFl cl fl) S2) n (clr cl ρ) S) := by
  refine PS.imp (ps_while g.never hc hb) fun D σ H h => ?_
  obtain ⟨f, ρ, S, fl, S', re, rs, e, k⟩ := h
  refine ⟨fun m σ H2 => ∃ f2 ρ2 S2, Ext f H f2 H2 ∧ RE G f2 H2 ρ2 σ ∧ RS G f2 H2 S2 ∧ whL mt (fun ρ S => (mB ρ S).bind fun fl S2 => .ok (clFl cl fl) S2) m ρ2 S2 = .ok fl S', ⟨n, f, _, S, rs.ext, re.cl cl, rs, e⟩, ?_⟩
  rintro m σ2 H2 ⟨f2, ρ2, S2, x2, re2, r2, e2⟩
  cases m with
  | zero => cases e2
  | succ m =>
    unfold whL at e2
    obtain ⟨t, S3, e3, e2⟩ := R.bind_eq e2
    refine ⟨f2, ρ2, S2, t, S3, re2, r2, e3, fun H3 f3 x3 r3 => ?_⟩
    cases t with
    | false =>
      rw [if_neg (by decide)] at e2 ⊢
      obtain ⟨rfl, rfl⟩ := ok_inj e2
      exact k H3 f3 (x2.trans x3) r3 _ (re2.ext x3)
    | true =>
      rw [if_pos rfl] at e2 ⊢
      obtain ⟨flx, S4, e4, e2⟩ := R.bind_eq e2
      obtain ⟨flb, S5, e5, e6⟩ := R.bind_eq e4
      obtain ⟨rfl, rfl⟩ := ok_inj e6
      refine ⟨_, fun σ' H' h => ⟨m, Nat.lt_succ_self m, h⟩, f3, ρ2, S3, flb, S5, re2.ext x3, r3, e5, fun H5 f5 x5 r5 => ?_⟩
      have xx : Ext f H f5 H5 := (x2.trans x3).trans x5
      cases flb with
      | nx ρ4 => exact fun σ5 re5 => ⟨f5, _, S5, xx, re5.cl cl, r5, e2⟩
      | ct ρ4 => exact fun σ5 re5 => ⟨f5, _, S5, xx, re5.cl cl, r5, e2⟩
      | bk ρ4 =>
        obtain ⟨rfl, rfl⟩ := ok_inj e2
        exact fun σ5 re5 => k H5 f5 xx r5 _ (re5.cl cl)
      | rt v4 =>
        obtain ⟨rfl, rfl⟩ := ok_inj e2
        exact k H5 f5 xx r5
end
end Ev

set_option Elab.async false
set_option linter.all false
set_option maxRecDepth 100000
set_option maxHeartbeats 4000000
/-! ### Every statement that passes the check -/
namespace Ev
open PySem PySem.Spec PyProof.Rows L2 RT RZ
section
variable {T : Tab} {Gm : Gm} {L : Nat} {G : Gx} {cc : CC} {X : Cx}
theorem and2 {a b : Bool} (h : (a && b) = true) : a = true ∧ b = true := by simpa using h
theorem q_set {i : Nat} {a : E} {s : Stmt} (g : Good T G Gm L cc X) (h : ckS T (.set i a) cc s = true) : PS X s (tSv G (denS Gm (.set i a))) := by
  cases s with
  | Assign ts e pos =>
    cases ts with
    | nil => cases h
    | cons t r =>
      cases r with
      | cons => cases t <;> cases h
      | nil =>
        cases t with
        | Name x px =>
          have h : (nmB cc i x && ckE T a cc e && (notComp e || !kindB cc.sc x .local || lcOn x px e)) = true := h
          obtain ⟨h, h3⟩ := and2 h
          obtain ⟨h1, h2⟩ := and2 h
          have he := s_E a g h2
          by_cases hc : notComp e = true
          · exact p_set g h1 he.pe (sw_nc hc)
          · by_cases hk : kindB cc.sc x .local = true
            · have hc' : notComp e = false := by simpa using hc
              rw [hc', hk] at h3
              cases e with
              | ListComp el gens scope lp =>
                have h3 : (px.line == lp.line && !(scope.names.any fun (n, k) => n == x && (k == .local || k == .cell))) = true := h3
                obtain ⟨h5, h6⟩ := and2 h3
                have h6 : (scope.names.any fun (n, k) => n == x && (k == .local || k == .cell)) = false   := by simpa using h6
                cases a with
                | lc m own tg it cond elt =>
                  match gens, h2 with
                  | [⟨t, iter, ifs, 0⟩], h2 =>
                    have h2 : (blkC cc.N cc.sc scope (ownN cc.N own) && ckTg (cc.blk scope) (fun i => own.contains i) tg t && ckI T it cc t iter && notSet iter && ckC T cond (cc.blk scope) ifs && ckE T elt (cc.blk scope) el) = true := h2
                    obtain ⟨h2, b6⟩ := and2 h2
                    obtain ⟨h2, b5⟩ := and2 h2
                    obtain ⟨h2, b4⟩ := and2 h2
                    obtain ⟨h2, b3⟩ := and2 h2
                    obtain ⟨b1, b2⟩ := and2 h2
                    have hN : cc.N[i]? = some x := of_decide_eq_true (and2 h1).1
                    exact p_setLc g hN hk h5 h6 b1 b2 (s_I it g b3) b4 (fun G' X' g' => s_C cond g' b5) (fun G' X' g' => (s_E elt g' b6).pe)
                | _ => cases h2
              | _ => cases h3
            · refine p_set g h1 he.pe (sw_nl ?_)
              rw [g.sc]
              simpa using hk
        | _ => cases h
  | _ => cases h
theorem q_asg {t : Tg} {a : E} {s : Stmt} (g : Good T G Gm L cc X) (h : ckS T (.asg t a) cc s = true) : PS X s (tSv G (denS Gm (.asg t a))) := by
  cases s with
  | Assign ts e pos =>
    cases ts with
    | nil => cases h
    | cons tx r =>
      cases r with
      | cons => cases tx <;> cases h
      | nil =>
        cases tx with
        | Tuple es k p =>
          have h : (ckTg cc (fun _ => true) t (.Tuple es k p) && ckE T a cc e && noSwp es e) = true := h
          obtain ⟨h, h3⟩ := and2 h
          obtain ⟨h1, h2⟩ := and2 h
          exact p_asg g h1 (s_E a g h2).pe (sw_none h3)
        | _ => cases h
  | _ => cases h
theorem parT_inv {ts : List Expr} {x y : Str} {px py : Pos} (h : parT ts = some (x, px, y, py)) : ts = [.Name x px, .Name y py] := by
  unfold parT at h
  split at h
  · simp only [Option.some.injEq, Prod.mk.injEq] at h
    obtain ⟨rfl, rfl, rfl, rfl⟩ := h
    rfl
  · cases h
theorem parE_inv {e e1 e2 : Expr} (h : parE e = some (e1, e2)) : ∃ k p, e = .Tuple [e1, e2] k p := by
  unfold parE at h
  split at h
  · simp only [Option.some.injEq, Prod.mk.injEq] at h
    obtain ⟨rfl, rfl⟩ := h
    exact ⟨_, _, rfl⟩
  · cases h
theorem q_par {i j : Nat} {a b : E} {s : Stmt} (g : Good T G Gm L cc X) (h : ckS T (.par i j a b) cc s = true) : PS X s (tSv G (denS Gm (.par i j a b))) := by
  cases s with
  | Assign ts e pos =>
    cases ts with
    | nil => cases h
    | cons tx r =>
      cases r with
      | cons => cases tx <;> cases h
      | nil =>
        cases tx with
        | Tuple es k p =>
          have h : (match parT es, parE e with
            | some (x, px, y, py), some (e1, e2) => decide (cc.N[i]? = some x) && decide (cc.N[j]? = some y) && decide (i ≠ j) && kindB cc.sc x .local && kindB cc.sc y .local && notStar e1 && notStar e2 && ckE T a cc e1 && ckE T b cc e2 &&
              px.line == py.line && !(x == y) && !foldedForSure 8 e1 && !constantsAlone 8 e1
            | _, _ => false) = true := h
          cases q1 : parT es with
          | none => rw [q1] at h; cases h
          | some z =>
            obtain ⟨x, px, y, py⟩ := z
            cases q2 : parE e with
            | none => rw [q1, q2] at h; cases h
            | some z =>
              obtain ⟨e1, e2⟩ := z
              rw [q1, q2] at h
              obtain rfl := parT_inv q1
              obtain ⟨k2, p2, rfl⟩ := parE_inv q2
              have h : (decide (cc.N[i]? = some x) && decide (cc.N[j]? = some y) && decide (i ≠ j) && kindB cc.sc x .local && kindB cc.sc y .local && notStar e1 && notStar e2 && ckE T a cc e1 && ckE T b cc e2 &&
                px.line == py.line && !(x == y) && !foldedForSure 8 e1 && !constantsAlone 8 e1) = true := h
              obtain ⟨h, h13⟩ := and2 h
              obtain ⟨h, h12⟩ := and2 h
              obtain ⟨h, h11⟩ := and2 h
              obtain ⟨h, h10⟩ := and2 h
              obtain ⟨h, h9⟩ := and2 h
              obtain ⟨h, h8⟩ := and2 h
              obtain ⟨h, h7⟩ := and2 h
              obtain ⟨h, h6⟩ := and2 h
              obtain ⟨h, h5⟩ := and2 h
              obtain ⟨h, h4⟩ := and2 h
              obtain ⟨h, h3⟩ := and2 h
              obtain ⟨h1, h2⟩ := and2 h
              exact p_par g (of_decide_eq_true h1) (of_decide_eq_true h2) (of_decide_eq_true h3) h4 h5 h6 h7 (s_E a g h8).pe (s_E b g h9).pe h10 (by simpa using h11) (by simpa using h12) (by simpa using h13)
        | _ => cases h
  | _ => cases h
theorem q_setix {a i v : E} {s : Stmt} (g : Good T G Gm L cc X) (h : ckS T (.setix a i v) cc s = true) : PS X s (tSv G (denS Gm (.setix a i v))) := by
  cases s with
  | Assign ts e pos =>
    cases ts with
    | nil => cases h
    | cons tx r =>
      cases r with
      | cons => cases tx <;> cases h
      | nil =>
        cases tx with
        | Subscript x k p =>
          have h : (ckE T v cc e && ckE T a cc x && ckE T i cc k && notSlice k) = true := h
          obtain ⟨h, h4⟩ := and2 h
          obtain ⟨h, h3⟩ := and2 h
          obtain ⟨h1, h2⟩ := and2 h
          exact p_setix g (s_E v g h1).pe (s_E a g h2).pe (s_E i g h3).pe h4
        | _ => cases h
  | _ => cases h
theorem q_setfld {a v : E} {f : String} {s : Stmt} (g : Good T G Gm L cc X) (h : ckS T (.setfld a f v) cc s = true) : PS X s (tSv G (denS Gm (.setfld a f v))) := by
  cases s with
  | Assign ts e pos =>
    cases ts with
    | nil => cases h
    | cons tx r =>
      cases r with
      | cons => cases tx <;> cases h
      | nil =>
        cases tx with
        | Attribute x n p =>
          have h : (ckE T v cc e && ckE T a cc x && Str.ofString f == n && notSuper x) = true := h
          obtain ⟨h, h4⟩ := and2 h
          obtain ⟨h, h3⟩ := and2 h
          obtain ⟨h1, h2⟩ := and2 h
          exact p_setfld g (eq_of_beq h3) (s_E v g h1).pe (s_E a g h2).pe
        | _ => cases h
  | _ => cases h
theorem q_aug {i : Nat} {op : BOp} {a : E} {s : Stmt} (g : Good T G Gm L cc X) (h : ckS T (.aug i op a) cc s = true) : PS X s (tSv G (denS Gm (.aug i op a))) := by
  cases s with
  | AugAssign tx o e pos =>
    cases tx with
    | Name x px =>
      have h : (nmB cc i x && opB o op && ckE T a cc e && okN x) = true := h
      obtain ⟨h, h4⟩ := and2 h
      obtain ⟨h, h3⟩ := and2 h
      obtain ⟨h1, h2⟩ := and2 h
      obtain rfl := opB_eq h2
      exact p_aug g op h1 (s_E a g h3).pe
    | _ => cases h
  | _ => cases h
theorem q_augix {a i v : E} {op : BOp} {s : Stmt} (g : Good T G Gm L cc X) (h : ckS T (.augix a i op v) cc s = true) : PS X s (tSv G (denS Gm (.augix a i op v))) := by
  cases s with
  | AugAssign tx o e pos =>
    cases tx with
    | Subscript x k p =>
      have h : (opB o op && ckE T v cc e && ckE T a cc x && ckE T i cc k && notSlice k) = true := h
      obtain ⟨h, h5⟩ := and2 h
      obtain ⟨h, h4⟩ := and2 h
      obtain ⟨h, h3⟩ := and2 h
      obtain ⟨h1, h2⟩ := and2 h
      obtain rfl := opB_eq h1
      exact p_augix g op (s_E a g h3).pe (s_E i g h4).pe (s_E v g h2).pe h5
    | _ => cases h
  | _ => cases h
theorem q_augfld {a v : E} {f : String} {op : BOp} {s : Stmt} (g : Good T G Gm L cc X) (h : ckS T (.augfld a f op v) cc s = true) : PS X s (tSv G (denS Gm (.augfld a f op v))) := by
  cases s with
  | AugAssign tx o e pos =>
    cases tx with
    | Attribute x n p =>
      have h : (opB o op && ckE T v cc e && ckE T a cc x && Str.ofString f == n && notSuper x) = true := h
      obtain ⟨h, h5⟩ := and2 h
      obtain ⟨h, h4⟩ := and2 h
      obtain ⟨h, h3⟩ := and2 h
      obtain ⟨h1, h2⟩ := and2 h
      obtain rfl := opB_eq h1
      exact p_augfld g op (eq_of_beq h4) (s_E a g h3).pe (s_E v g h2).pe
    | _ => cases h
  | _ => cases h
mutual
theorem s_S : ∀ (x : S_) {G : Gx} {cc : CC} {X : Cx} {s : Stmt}, Good T G Gm L cc X → ckS T x cc s = true → PS X s (tSv G (denS Gm x))
  | .set i a, G, cc, X, s, g, h => q_set g h
  | .asg t a, G, cc, X, s, g, h => q_asg g h
  | .par i j a b, G, cc, X, s, g, h => q_par g h
  | .setix a i v, G, cc, X, s, g, h => q_setix g h
  | .setfld a f v, G, cc, X, s, g, h => q_setfld g h
  | .aug i op a, G, cc, X, s, g, h => q_aug g h
  | .augix a i op v, G, cc, X, s, g, h => q_augix g h
  | .augfld a f op v, G, cc, X, s, g, h => q_augfld g h
  | .ex a, G, cc, X, s, g, h => by
    cases s with
    | Expr e pos =>
      have h : (ckE T a cc e && notComp e) = true := h
      obtain ⟨h1, h2⟩ := and2 h
      exact p_ex (s_E a g h1).pe h2
    | _ => cases h
  | .ret a, G, cc, X, s, g, h => by
    cases s with
    | Return v pos =>
      cases v with
      | none => cases h
      | some e =>
        have h : ckE T a cc e = true := h
        exact p_ret (s_E a g h).pe
    | _ => cases h
  | .retn, G, cc, X, s, g, h => by
    cases s with
    | Return v pos =>
      cases v with
      | none => exact p_retn
      | some e => cases h
    | _ => cases h
  | .ite c a b, G, cc, X, s, g, h => by
    cases s with
    | If t x y pos =>
      have h : (ckE T c cc t && ckSs T a cc x && ckSs T b cc y) = true := h
      obtain ⟨h, h3⟩ := and2 h
      obtain ⟨h1, h2⟩ := and2 h
      exact p_ite (s_E c g h1).pt (s_Ss a g h2) (s_Ss b g h3)
    | _ => cases h
  | .for_ t it body cl, G, cc, X, s, g, h => by
    cases s with
    | For tg iter b el pos =>
      cases el with
      | cons => cases h
      | nil =>
        have h : (ckTg cc (fun _ => true) t tg && ckI T it cc tg iter && notSet iter && ckSs T body cc b) = true := h
        obtain ⟨h, h4⟩ := and2 h
        obtain ⟨h, h3⟩ := and2 h
        obtain ⟨h1, h2⟩ := and2 h
        exact p_for (cl := cl) g h1 (s_I it g h2) h3 (s_Ss body g h4)
    | _ => cases h
  | .wh c body cl, G, cc, X, s, g, h => by
    cases s with
    | While t b el pos =>
      cases el with
      | cons => cases h
      | nil =>
        have h : (ckE T c cc t && ckSs T body cc b) = true := h
        obtain ⟨h1, h2⟩ := and2 h
        exact p_wh (cl := cl) (n := Gm.fuel) g (s_E c g h1).pt (s_Ss body g h2)
    | _ => cases h
  | .pass, G, cc, X, s, g, h => by
    cases s with
    | Pass pos => exact p_pass
    | _ => cases h
  | .brk, G, cc, X, s, g, h => by
    cases s with
    | Break pos => exact p_brk
    | _ => cases h
  | .cnt, G, cc, X, s, g, h => by
    cases s with
    | Continue pos => exact p_cnt
    | _ => cases h
  | .never, G, cc, X, s, g, h => p_never
theorem s_Ss : ∀ (x : Ss) {G : Gx} {cc : CC} {X : Cx} {s : List Stmt}, Good T G Gm L cc X → ckSs T x cc s = true → PSs X s (tSv G (denSs Gm x))
  | .nil, G, cc, X, s, g, h => by
    cases s with
    | nil => exact p_nil
    | cons => cases h
  | .cons a as, G, cc, X, s, g, h => by
    cases s with
    | nil => cases h
    | cons y ys =>
      have h : (ckS T a cc y && ckSs T as cc ys) = true := h
      obtain ⟨h1, h2⟩ := and2 h
      exact p_cons (s_S a g h1) (s_Ss as g h2)
end
end
end Ev

set_option Elab.async false
set_option linter.all false
set_option maxRecDepth 100000
set_option maxHeartbeats 4000000
/-! ### Defs: what a def's meaning promises, to every depth -/
namespace Ev
open PySem PySem.Spec PyProof.Rows L2 RT RZ
theorem RE.of_vals {G : Gx} {f : List Addr} {H : Hp} : ∀ {us : List Val} {xs : List V} (n : Nat), RVs G f H us xs → RE G f H (us.map some ++ List.replicate n none) (xs.map some ++ List.replicate n none)
  | us, xs, n, h => ⟨by simp [h.len], fun i v e => by
    by_cases hi : i < us.length
    · rw [List.getElem?_append_left (by simpa using hi)] at e
      rw [List.getElem?_map] at e
      cases q : us[i]? with
      | none => rw [q] at e; cases e
      | some w =>
        rw [q] at e
        cases e
        obtain ⟨x, hx, rx⟩ := h.get q
        refine ⟨x, ?_, rx⟩
        rw [List.getElem?_append_left (by rw [List.length_map, ← h.len]; exact hi), List.getElem?_map, hx]
        rfl
    · rw [List.getElem?_append_right (by simpa using hi)] at e
      rw [List.getElem?_replicate] at e
      split at e <;> cases e⟩
theorem end_ok {G : Gx} {f f1 : List Addr} {H H1 : Hp} {S S1 S' : Store} {v v' : Val} {x : V} {tr : Bool} {Q : VK} (rs : RS G f H S) (x1 : Ext f H f1 H1) (r1 : RS G f1 H1 S1) (rv : RV G f1 H1 v x) (e : endV tr S v S1 = .ok v' S') (k : Wk G f H S' v' Q) : Q x H1 := by
  unfold endV at e
  cases tr with
  | true =>
    rw [if_pos rfl] at e
    obtain ⟨h1, h2, h3⟩ := exit_ok rs x1 r1 rv e
    exact k x H1 f h1 h2 h3
  | false =>
    rw [if_neg (by decide)] at e
    obtain ⟨rfl, rfl⟩ := ok_inj e
    exact k x H1 f1 x1 r1 rv
/-- a def of the text and its meaning -/
structure FnC (T : Tab) (G : Gx) (fn : Fn) (x : Str) (st : Stmt) (N : List Str) : Prop where
  fun_ : ∃ dvs kws, L2.FunD G.K x (Str.ofString fn.qual) (defArgs st) (defBody st) (defScope st) dvs kws (G.fa fn.qual) (G.fd fn.qual)
  sc : FnScope N (G.ps fn.qual) (defScope st)
  n : fn.n = (G.ps fn.qual).length
  loc : fn.loc = N.length
  ck : ckSs T fn.body ⟨N, defScope st, fun _ => true⟩ (defBody st) = true
theorem lev_facts {T : Tab} {G : Gx} {P : Prog} {fuel : Nat} {mg : Str → Option Value} (F : Facts T G (lev P fuel 0) mg) : ∀ k, Facts T G (lev P fuel k) mg
  | 0 => F
  | k + 1 => ⟨F.top, F.sh, F.blt, F.con, F.fld, F.prop, F.meth, F.init, F.isi, F.cls⟩
theorem fns_ok {T : Tab} {G : Gx} {P : Prog} {fuel : Nat} {prog : Program} {w : World} {mg : Str → Option Value} {base : Heap} (F : ∀ b : List Addr, Facts T { G with blk := b } (lev P fuel 0) mg)
    (hf : ∀ q fn, T.quals.contains q = true → P.fns.find? (fun f => f.qual == q) = some fn → ∃ x st N, FnC T G fn x st N) :
    ∀ k, ∀ q : String, T.quals.contains q = true → FnG prog w G.K mg base (2 * k + 1) (G.fa q) (G.fd q) (G.ps q) (spF G (lev P fuel k) q)
  | 0, q, hq => by
    refine ⟨fun vs H Q E h => ?_, fun A outer s H args us vs Q E _ _ _ _ _ h => ?_⟩
    · obtain ⟨blk, f, S, us, v, S', rs, rv, e, l, k⟩ := h
      exact l
    · obtain ⟨blk, f, S, us, v, S', rs, rv, e, l, k⟩ := h
      cases e
  | k + 1, q, hq => by
    have ih := fns_ok (prog := prog) (w := w) (base := base) F hf k
    cases qf : P.fns.find? (fun f => f.qual == q) with
    | none =>
      refine ⟨fun vs H Q E h => ?_, fun A outer s H args us vs Q E _ _ _ _ _ h => ?_⟩
      · obtain ⟨blk, f, S, us, v, S', rs, rv, e, l, k⟩ := h
        exact l
      · obtain ⟨blk, f, S, us, v, S', rs, rv, e, l, k⟩ := h
        simp only [lev, qf] at e
        cases e
    | some fn =>
      obtain ⟨x, st, N, c⟩ := hf q fn hq qf
      have hqq : fn.qual = q := by
        have := List.find?_some qf
        exact eq_of_beq this
      subst hqq
      have goal : FnG prog w G.K mg base (2 * k + 2 + 1) (G.fa fn.qual) (G.fd fn.qual) (G.ps fn.qual) (spF G (lev P fuel (k + 1)) fn.qual) := by
        obtain ⟨dvs, kws, FD⟩ := c.fun_
        refine fnG_ok FD c.sc (fun vs H Q E h => ?_) (fun cdv A outer s H vs Q E hg hr h => ?_)
        · obtain ⟨blk, f, S, us, v, S', rs, rv, e, l, k⟩ := h
          exact l
        · obtain ⟨blk, f, S, us, v, S', rs, rv, e, l, k2⟩ := h
          simp only [lev, qf, runFn] at e
          have hul : us.length = fn.n := by rw [rv.len, l, c.n]
          rw [if_pos hul] at e
          obtain ⟨fl, S1, e1, e2⟩ := R.bind_eq e
          have good : Good T { G with blk := blk } (lev P fuel k) (2 * k + 1) ⟨N, defScope st, fun _ => true⟩ (cxOf CX0 prog w G.K mg base N (Str.ofString fn.qual) (defScope st) (G.fa fn.qual) cdv A outer s H E).nox :=
            ⟨rfl, rfl, rfl, rfl, rfl, c.sc.nd, c.sc.kind, rfl, hr, lev_facts (F blk) k, hg, ih⟩
          refine ⟨tSv { G with blk := blk } (denSs (lev P fuel k) fn.body), PSs.nox (s_Ss fn.body good c.ck), f, us.map some ++ List.replicate (fn.loc - fn.n) none, S, fl, S1, ?_, rs, e1, fun H1 f1 x1 r1 => ?_⟩
          · unfold L2.start
            rw [c.loc, c.n, ← l]
            exact RE.of_vals _ rv
          · cases fl with
            | nx ρ => exact fun σ _ => end_ok rs x1 r1 (v := .non) (x := .non) rfl e2 k2
            | rt u => exact fun z rz => end_ok rs x1 r1 rz e2 k2
            | bk ρ => cases e2
            | ct ρ => cases e2
      exact goal
end Ev

set_option Elab.async false
set_option linter.all false
set_option maxRecDepth 100000
set_option maxHeartbeats 4000000
/-! ### A program's source as one datum; what the head has to tell; the promise of its law -/
namespace Ev
open PySem PySem.Spec PyProof.Rows L2 RT RZ
structure Ent where
  fn : Fn
  c : Option String
  x : String
  st : Stmt
  N : List Str
  ps : List Str
  dfl : List He.Dv
  kwd : List (Str × He.Dv)
structure ClsE where
  c : String
  fields : List String
  meths : List (String × String)
  init : Option String
structure Src where
  ents : List Ent
  clss : List ClsE
  cons : List (String × Int)
  shs : List (String × Nat × List Str × Nat)
  tms : List (List Nat)
def Ent.at_ (e : Ent) : Str × Option Str := match e.c with
  | none => (Str.ofString e.x, none)
  | some c => (Str.ofString c, some (Str.ofString e.x))
def Ent.d (e : Ent) : He.DefD := ⟨e.at_, Str.ofString e.x, Str.ofString e.fn.qual, defArgs e.st, defBody e.st, defScope e.st, e.dfl, e.kwd⟩
def Src.tops (s : Src) : List String := (s.ents.filter fun e => e.c.isNone).map (·.x)
def Src.quals (s : Src) : List String := s.ents.map (·.fn.qual)
def Src.meths (s : Src) : List (String × String × String) := s.clss.flatMap fun k => k.meths.map fun m => (k.c, m.1, m.2)
def Src.inits (s : Src) : List (String × String) := s.clss.filterMap fun k => k.init.map fun q => (k.c, q)
def Src.T (s : Src) : Tab := ⟨s.quals, s.tops, s.shs, s.meths, s.inits, s.clss.map (·.c)⟩
def Src.P (s : Src) : Prog := ⟨s.ents.map (·.fn), fun x => (s.cons.lookup x).map Val.int,
  fun c f => (s.clss.find? fun k => k.c == c).bind fun k => k.meths.lookup f,
  fun c => (s.clss.find? fun k => k.c == c).bind (·.init),
  fun c f => match s.clss.find? fun k => k.c == c with
    | some k => k.fields.contains f
    | none => false,
  fun _ _ => none, fun _ _ => none,
  fun sh vs => (s.tms[sh]?).bind fun tm => tm.mapM fun i => vs[i]?⟩
def Src.ent? (s : Src) (q : String) : Option Ent := s.ents.find? fun e => e.fn.qual == q
def fdOf (K : PySem.W.Frag) (p : Str × Option Str) : FuncData := match K.lookup (He.fAd K p) with
  | some ⟨_, _, .func fd, _⟩ => fd
  | _ => PySem.W.fnOf "" "" ⟨[], [], none, [], [], none, []⟩ [] ⟨.function, [], false, false, []⟩ .none .none .none .none none .none .none
def Src.G (s : Src) (K : PySem.W.Frag) : Gx := ⟨K, fun c => He.ga K (Str.ofString c), fun q => match s.ent? q with
    | some e => He.fAd K e.at_
    | none => 0, fun q => match s.ent? q with
    | some e => fdOf K e.at_
    | none => fdOf K ("", none), fun q => match s.ent? q with
    | some e => e.ps
    | none => [], []⟩
/-- what the head has to tell -/
def Src.fa (s : Src) : List He.Fa := s.tops.map (fun x => .glo (Str.ofString x)) ++ bltNames.map (fun x => .free (Str.ofString x)) ++ s.cons.map (fun p => .int (Str.ofString p.1) p.2) ++
  s.clss.flatMap fun k => .glo (Str.ofString k.c) :: .cls (Str.ofString k.c) :: (k.fields.map (fun f => .noat (Str.ofString k.c) (Str.ofString f)) ++ k.meths.map (fun m => .meth (Str.ofString k.c) (Str.ofString m.1)) ++ (match k.init with
    | some _ => [.mkr (Str.ofString k.c)]
    | none => []))
def Src.fn (s : Src) : List He.DefD := s.ents.map Ent.d
def scB (N P : List Str) (sc : Scope) : Bool :=
  decide (sc.kind = .function) && !sc.isCoroutine && !sc.isGenerator && decide N.Nodup && decide (N.take P.length = P) && P.all (fun x => decide (sc.names.lookup x = some .local) || decide (sc.names.lookup x = some .cell)) && sc.names.all (fun y => !decide (y.2 = .free))
theorem scB_ok {N P : List Str} {sc : Scope} (h : scB N P sc = true) : FnScope N P sc := by
  unfold scB at h
  simp only [Bool.and_eq_true, Bool.not_eq_true', decide_eq_true_eq, List.all_eq_true, Bool.or_eq_true, decide_eq_false_iff_not] at h
  obtain ⟨⟨⟨⟨⟨⟨h1, h2⟩, h3⟩, h4⟩, h5⟩, h6⟩, h7⟩ := h
  exact ⟨h1, h2, h3, h4, h5, h6, h7⟩
/-- a def's names and text -/
def Ent.ok (T : Tab) (e : Ent) : Bool := scB e.N e.ps (defScope e.st) && e.fn.n == e.ps.length && e.fn.loc == e.N.length && ckSs T e.fn.body ⟨e.N, defScope e.st, fun _ => true⟩ (defBody e.st)
/-- the tables agree -/
def Src.tabOk (s : Src) : Bool := (s.ents.all fun e => match s.ent? e.fn.qual with
    | some e' => e'.at_ == e.at_
    | none => false) &&
  (s.tops.all fun f => match s.ent? f with
    | some e => e.c.isNone && e.x == f
    | none => false) &&
  (s.clss.all fun k => (match s.clss.find? fun k' => k'.c == k.c with
      | some k' => k'.meths == k.meths && k'.init == k.init && k'.fields == k.fields
      | none => false) && (k.meths.all fun m => match s.ent? m.2 with
      | some e => e.c == some k.c && e.x == m.1
      | none => false) && (match k.init with
      | some q => (match s.ent? q with
        | some e => e.c == some k.c && e.x == "__init__"
        | none => false)
      | none => true)) &&
  (s.shs.all fun p => s.quals.contains p.1)
/-- how a call's shape binds, by the text -/
def ShN (e : Ent) (n : Nat) (ks : List Str) (tm : List Nat) : Prop := e.dfl = [] ∧ ∀ (kV doc pm : Value) (an : Option Addr) (cdv ct : Value) (us ws : List Value), us.length = n → ws.length = ks.length →
  ∃ ds, tm.mapM (fun i => (us ++ ws)[i]?) = some ds ∧ ds.length = e.ps.length ∧ bindArgs (PySem.W.fnOf (Str.ofString e.x) (Str.ofString e.fn.qual) (defArgs e.st) (defBody e.st) (defScope e.st) .none kV doc pm an cdv ct) ⟨us, ks.zip ws⟩ = pure (e.ps.zip ds)
def Src.ShP (s : Src) (p : String × Nat × List Str × Nat) : Prop := ∃ e tm, s.ent? p.1 = some e ∧ s.tms[p.2.2.2]? = some tm ∧ ShN e p.2.1 p.2.2.1 tm
theorem pick_rv {G : Gx} {f : List Addr} {H : Hp} {vals : List Val} {xs : List V} (h : RVs G f H vals xs) : ∀ {tm : List Nat} {vals' : List Val}, tm.mapM (fun i => vals[i]?) = some vals' → ∃ xs', tm.mapM (fun i => xs[i]?) = some xs' ∧ RVs G f H vals' xs'
  | [], vals', e => by
    cases e
    exact ⟨[], rfl, rfl⟩
  | i :: tm, vals', e => by
    rw [List.mapM_cons] at e
    cases q : vals[i]? with
    | none => rw [q] at e; cases e
    | some v =>
      cases q2 : tm.mapM (fun i => vals[i]?) with
      | none => rw [q, q2] at e; cases e
      | some ws =>
        rw [q, q2] at e
        cases e
        obtain ⟨x, hx, rx⟩ := h.get q
        obtain ⟨xs', h1, h2⟩ := pick_rv h q2
        refine ⟨x :: xs', ?_, RVs.cons rx h2⟩
        rw [List.mapM_cons, hx, h1]
        rfl
theorem pick_vals {xs : List V} {us : List Value} (h : Vals xs us) : ∀ {tm : List Nat} {xs' : List V} {ds : List Value}, tm.mapM (fun i => xs[i]?) = some xs' → tm.mapM (fun i => us[i]?) = some ds → Vals xs' ds
  | [], _, _, e, e2 => by
    cases e
    cases e2
    exact .nil
  | i :: tm, xs', ds, e, e2 => by
    rw [List.mapM_cons] at e e2
    cases q : xs[i]? with
    | none => rw [q] at e; cases e
    | some v =>
      cases q2 : tm.mapM (fun i => xs[i]?) with
      | none => rw [q, q2] at e; cases e
      | some ws =>
        rw [q, q2] at e
        cases e
        obtain ⟨u, hu, ru⟩ := h.get q
        rw [hu] at e2
        cases q3 : tm.mapM (fun i => us[i]?) with
        | none => rw [q3] at e2; cases e2
        | some zs =>
          rw [q3] at e2
          cases e2
          exact .cons ru (pick_vals h q2 q3)
section
variable {s : Src} {K : PySem.W.Frag} {h : Heap} {mg : Str → Option Value}
theorem fdOf_eq {x qual : Str} {pa : Arguments} {b : List Stmt} {sc : Scope} {dvs : List V} {kws : List (Str × V)} {p : Str × Option Str} {fd : FuncData} (F : FunD K x qual pa b sc dvs kws (He.fAd K p) fd) : fd = fdOf K p := by
  obtain ⟨oc, od, dV, kV, doc, pm, an, cdv, ct, osl, rfl, lk, _⟩ := F.ex
  unfold fdOf
  rw [lk]
theorem Src.ent_mem {q : String} {e : Ent} (he : s.ent? q = some e) : e ∈ s.ents ∧ e.fn.qual = q := by
  unfold Src.ent? at he
  have h2 := List.find?_some he
  exact ⟨List.mem_of_find?_eq_some he, by simpa using h2⟩
theorem Src.funD (c : He.SaysD s.fa s.fn K) {e : Ent} (he : e ∈ s.ents) : FunD K (Str.ofString e.x) (Str.ofString e.fn.qual) (defArgs e.st) (defBody e.st) (defScope e.st) (e.d.dvs K) (e.d.kws K) (He.fAd K e.at_) (fdOf K e.at_) := by
  obtain ⟨fd, F⟩ := c.defs (d := e.d) (List.mem_map_of_mem he)
  have hfd : fd = fdOf K e.at_ := fdOf_eq F
  rw [← hfd]
  exact F
theorem Src.G_fa {q : String} {e : Ent} (he : s.ent? q = some e) : (s.G K).fa q = He.fAd K e.at_ := by
  show (match s.ent? q with | some e => He.fAd K e.at_ | none => 0) = _
  rw [he]
theorem Src.G_fd {q : String} {e : Ent} (he : s.ent? q = some e) : (s.G K).fd q = fdOf K e.at_ := by
  show (match s.ent? q with | some e => fdOf K e.at_ | none => _) = _
  rw [he]
theorem Src.G_ps {q : String} {e : Ent} (he : s.ent? q = some e) : (s.G K).ps q = e.ps := by
  show (match s.ent? q with | some e => e.ps | none => []) = _
  rw [he]
theorem Src.sh_ok (c : He.SaysD s.fa s.fn K) {fuel : Nat} {b : List Addr} {p : String × Nat × List Str × Nat} (hp : s.ShP p) : ShOk { s.G K with blk := b } (lev s.P fuel 0) p.1 p.2.1 p.2.2.1 p.2.2.2 := by
  obtain ⟨e, tm, he, ht, hd, hb⟩ := hp
  intro blk sh us ws f H vals vals' xs KX lu lw rv r ha
  have F := Src.funD c (Src.ent_mem he).1
  have ha : tm.mapM (fun i => vals[i]?) = some vals' := by
    have ha : ((s.tms[p.2.2.2]?).bind fun tm => tm.mapM fun i => vals[i]?) = some vals' := ha
    rw [ht] at ha
    exact ha
  obtain ⟨xs', h1, h2⟩ := pick_rv rv ha
  obtain ⟨oc, od, dV, kV, doc, pm, an, cdv, ct, osl, efd, lk, hcd, hD, hK⟩ := F.ex
  have edV : dV = .none := by
    rcases hD with ⟨_, z⟩ | ⟨z, _⟩
    · exact z
    · exact absurd (by show (e.dfl.map (He.Dv.v K)) = []; rw [hd]; rfl) z
  subst edV
  obtain ⟨ds, g1, g2, g3⟩ := hb kV doc pm an cdv ct us ws lu lw
  have hv := pick_vals r h1 g1
  refine ⟨xs', ds, h2, hv, ?_, ?_⟩
  · show xs'.length = ((s.G K).ps p.1).length
    rw [Src.G_ps he, hv.length, g2]
  · show BindsTo sh ((s.G K).fd p.1) _ (((s.G K).ps p.1).zip ds)
    rw [Src.G_fd he, Src.G_ps he, efd]
    exact .of_eq g3
theorem Src.meth_at {c : String} {k : ClsE} {f q : String} (hk : (s.clss.find? fun k => k.c == c) = some k) (hm : k.meths.lookup f = some q) : (c, f, q) ∈ s.meths := by
  have hc : k.c = c := by
    have := List.find?_some hk
    exact eq_of_beq this
  refine List.mem_flatMap.mpr ⟨k, List.mem_of_find?_eq_some hk, List.mem_map.mpr ⟨(f, q), ?_, by rw [hc]⟩⟩
  have : ∀ l : List (String × String), l.lookup f = some q → (f, q) ∈ l := by
    intro l
    induction l with
    | nil => intro h; cases h
    | cons a l ih =>
      intro h
      obtain ⟨x, y⟩ := a
      rw [List.lookup_cons] at h
      cases qe : (f == x) with
      | true =>
        rw [qe] at h
        cases h
        rw [eq_of_beq qe]
        exact List.mem_cons_self ..
      | false =>
        rw [qe] at h
        exact List.mem_cons_of_mem _ (ih h)
  exact this _ hm
theorem Src.fact_cls {k : ClsE} (hk : k ∈ s.clss) {f : He.Fa} (hf : f ∈ He.Fa.glo (Str.ofString k.c) :: .cls (Str.ofString k.c) :: (k.fields.map (fun f => He.Fa.noat (Str.ofString k.c) (Str.ofString f)) ++ k.meths.map (fun m => He.Fa.meth (Str.ofString k.c) (Str.ofString m.1)) ++ (match k.init with
    | some _ => [He.Fa.mkr (Str.ofString k.c)]
    | none => []))) : f ∈ s.fa := List.mem_append_right _ (List.mem_flatMap.mpr ⟨k, hk, hf⟩)
theorem lookup_memI : ∀ {l : List (String × Int)} {x : String} {i : Int}, l.lookup x = some i → (x, i) ∈ l
  | [], _, _, h => by cases h
  | (y, j) :: l, x, i, h => by
    rw [List.lookup_cons] at h
    cases qe : (x == y) with
    | true =>
      rw [qe] at h
      cases h
      rw [eq_of_beq qe]
      exact List.mem_cons_self ..
    | false =>
      rw [qe] at h
      exact List.mem_cons_of_mem _ (lookup_memI h)
theorem Src.facts (X : K.In h) (Gn : h.Ns mainGlobals mg) (c : He.SaysD s.fa s.fn K) (ht : s.tabOk = true) (hsh : ∀ p ∈ s.shs, s.ShP p) (fuel : Nat) (b : List Addr) : Facts s.T { s.G K with blk := b } (lev s.P fuel 0) mg := by
  simp only [Src.tabOk, Bool.and_eq_true, List.all_eq_true] at ht
  obtain ⟨⟨⟨t1, t2⟩, t3⟩, t4⟩ := ht
  constructor
  · intro f hf
    have hf : f ∈ s.tops := List.contains_iff_mem.mp hf
    have := t2 f hf
    cases q : s.ent? f with
    | none => rw [q] at this; cases this
    | some e =>
      rw [q] at this
      simp only [Bool.and_eq_true] at this
      obtain ⟨h1, h2⟩ := this
      have hx : e.x = f := eq_of_beq h2
      have hat : He.fAd K e.at_ = He.ga K (Str.ofString f) := by
        unfold Ent.at_
        cases qc : e.c with
        | none => rw [hx]; rfl
        | some z => rw [qc] at h1; cases h1
      have F := Src.funD c (Src.ent_mem q).1
      refine ⟨?_, ?_⟩
      · show mg (Str.ofString f) = some (.ref ((s.G K).fa f))
        rw [Src.G_fa q, hat]
        exact He.glo_ok X Gn (c.facts (List.mem_append_left _ (List.mem_append_left _ (List.mem_append_left _ (List.mem_map_of_mem hf)))))
      · show PySem.W.keepIn K (.ref ((s.G K).fa f)) = true
        rw [Src.G_fa q]
        exact F.kp
  · intro q n ks sh hs
    have hs : (q, n, ks, sh) ∈ s.shs := List.contains_iff_mem.mp hs
    exact ⟨t4 _ hs, Src.sh_ok c (hsh _ hs)⟩
  · intro x hx
    have hx : x ∈ bltNames := List.contains_iff_mem.mp hx
    exact He.free_ok X Gn (c.facts (List.mem_append_left _ (List.mem_append_left _ (List.mem_append_right _ (List.mem_map_of_mem hx)))))
  · intro x v e
    have e : (s.cons.lookup x).map Val.int = some v := e
    cases q : s.cons.lookup x with
    | none => rw [q] at e; cases e
    | some i =>
      rw [q] at e
      cases e
      obtain ⟨t, hm⟩ := He.int_ok X Gn (c.facts (List.mem_append_left _ (List.mem_append_right _ (List.mem_map_of_mem (lookup_memI q)))))
      exact ⟨.int i, .int i t, hm, ⟨t, rfl⟩, fun _ _ _ => rfl⟩
  · intro cl f hf
    have hf9 : (match s.clss.find? fun k => k.c == cl with
      | some k => k.fields.contains f
      | none => false) = true := hf
    cases q : s.clss.find? fun k => k.c == cl with
    | none => rw [q] at hf9; cases hf9
    | some k =>
      rw [q] at hf9
      have hc : k.c = cl := by have := List.find?_some q; exact eq_of_beq this
      have hk := List.mem_of_find?_eq_some q
      subst hc
      refine ⟨He.cls_ok (c.facts (Src.fact_cls hk (.tail _ (.head _)))), He.noat_ok (c.facts (Src.fact_cls hk (.tail _ (.tail _ (List.mem_append_left _ (List.mem_append_left _ (List.mem_map_of_mem (List.contains_iff_mem.mp hf9))))))))⟩
  · intro cl f q e
    cases e
  · intro cl f q e
    have e : ((s.clss.find? fun k => k.c == cl).bind fun k => k.meths.lookup f) = some q := e
    cases qk : s.clss.find? fun k => k.c == cl with
    | none => rw [qk] at e; cases e
    | some k =>
      rw [qk] at e
      have e9 : k.meths.lookup f = some q := e
      have hin := Src.meth_at qk e9
      have hc : k.c = cl := by have := List.find?_some qk; exact eq_of_beq this
      have hk := List.mem_of_find?_eq_some qk
      subst hc
      have hmem : (f, q) ∈ k.meths := by
        obtain ⟨k', hk', hm⟩ := List.mem_flatMap.mp hin
        have : ∀ l : List (String × String), l.lookup f = some q → (f, q) ∈ l := by
          intro l
          induction l with
          | nil => intro h; cases h
          | cons a l ih =>
            intro h
            obtain ⟨x, y⟩ := a
            rw [List.lookup_cons] at h
            cases qe : (f == x) with
            | true =>
              rw [qe] at h
              cases h
              rw [eq_of_beq qe]
              exact List.mem_cons_self ..
            | false =>
              rw [qe] at h
              exact List.mem_cons_of_mem _ (ih h)
        exact this _ e9
      have h3 := ((t3 k hk).1).2 _ hmem
      cases qe : s.ent? q with
      | none => simp only [qe] at h3; cases h3
      | some en =>
        simp only [qe, Bool.and_eq_true] at h3
        have hat : He.fAd K en.at_ = He.ma K (He.ga K (Str.ofString k.c)) (Str.ofString f) := by
          unfold Ent.at_
          rw [eq_of_beq h3.1, eq_of_beq h3.2]
          rfl
        refine ⟨hin, He.cls_ok (c.facts (Src.fact_cls hk (.tail _ (.head _)))), ?_⟩
        show Meth K (He.ga K (Str.ofString k.c)) (Str.ofString f) ((s.G K).fa q)
        rw [Src.G_fa qe, hat]
        exact He.meth_ok (c.facts (Src.fact_cls hk (.tail _ (.tail _ (List.mem_append_left _ (List.mem_append_right _ (List.mem_map_of_mem (f := fun m : String × String => He.Fa.meth (Str.ofString k.c) (Str.ofString m.1)) hmem)))))))
  · intro cl q e
    have e : ((s.clss.find? fun k => k.c == cl).bind (·.init)) = some q := e
    cases qk : s.clss.find? fun k => k.c == cl with
    | none => rw [qk] at e; cases e
    | some k =>
      rw [qk] at e
      have e9 : k.init = some q := e
      have hc : k.c = cl := by have := List.find?_some qk; exact eq_of_beq this
      have hk := List.mem_of_find?_eq_some qk
      subst hc
      have h3 := (t3 k hk).2
      rw [e9] at h3
      simp only at h3
      cases qe : s.ent? q with
      | none => simp only [qe] at h3; cases h3
      | some en =>
        simp only [qe, Bool.and_eq_true] at h3
        have hat : He.fAd K en.at_ = He.ma K (He.ga K (Str.ofString k.c)) (Str.ofString "__init__") := by
          unfold Ent.at_
          rw [eq_of_beq h3.1, eq_of_beq h3.2]
          rfl
        refine ⟨List.mem_filterMap.mpr ⟨k, hk, by rw [e9]; rfl⟩, ?_, He.glo_ok X Gn (c.facts (Src.fact_cls hk (.head _)))⟩
        show Mk K (He.ga K (Str.ofString k.c)) ((s.G K).fa q)
        rw [Src.G_fa qe, hat]
        exact He.mkr_ok (c.facts (Src.fact_cls hk (.tail _ (.tail _ (List.mem_append_right _ (by rw [e9]; exact List.mem_singleton.mpr rfl))))))
  · intro t u b e
    cases e
  · intro cl hcl
    obtain ⟨k, hk, rfl⟩ := List.mem_map.mp (List.contains_iff_mem.mp hcl)
    exact He.glo_ok X Gn (c.facts (Src.fact_cls hk (.head _)))
/-- every def to every depth -/
theorem Src.ok (X : K.In h) (Gn : h.Ns mainGlobals mg) (c : He.SaysD s.fa s.fn K) (ht : s.tabOk = true) (hsh : ∀ p ∈ s.shs, s.ShP p) (hck : ∀ e ∈ s.ents, e.ok s.T = true) (fuel : Nat) {prog : Program} {w : World} {base : Heap} (k : Nat) (q : String) (hq : s.T.quals.contains q = true) :
    FnG prog w K mg base (2 * k + 1) ((s.G K).fa q) ((s.G K).fd q) ((s.G K).ps q) (spF (s.G K) (lev s.P fuel k) q) := by
  refine fns_ok (G := s.G K) (fun b => Src.facts X Gn c ht hsh fuel b) (fun q fn hq hf => ?_) k q hq
  have hf : (s.ents.map (·.fn)).find? (fun f => f.qual == q) = some fn := hf
  rw [List.find?_map] at hf
  cases qe : s.ents.find? ((fun f => f.qual == q) ∘ fun x => x.fn) with
  | none => rw [qe] at hf; cases hf
  | some e =>
    rw [qe] at hf
    cases hf
    have he : s.ent? q = some e := qe
    obtain ⟨hm, hqq⟩ := Src.ent_mem he
    have ho := hck e hm
    simp only [Ent.ok, Bool.and_eq_true] at ho
    obtain ⟨⟨⟨o1, o2⟩, o3⟩, o4⟩ := ho
    subst hqq
    refine ⟨Str.ofString e.x, e.st, e.N, ⟨⟨e.d.dvs K, e.d.kws K, ?_⟩, ?_, ?_, eq_of_beq o3, o4⟩⟩
    · show FunD K (Str.ofString e.x) (Str.ofString e.fn.qual) (defArgs e.st) (defBody e.st) (defScope e.st) (e.d.dvs K) (e.d.kws K) ((s.G K).fa e.fn.qual) ((s.G K).fd e.fn.qual)
      rw [Src.G_fa he, Src.G_fd he]
      exact Src.funD c hm
    · show FnScope e.N ((s.G K).ps e.fn.qual) (defScope e.st)
      rw [Src.G_ps he]
      exact scB_ok o1
    · show e.fn.n = ((s.G K).ps e.fn.qual).length
      rw [Src.G_ps he]
      exact eq_of_beq o2
end
end Ev

set_option Elab.async false
set_option linter.all false
set_option maxRecDepth 100000
set_option maxHeartbeats 4000000
/-! ### A law over a head by facts -/
namespace Ev
open PySem PySem.Spec PyProof.Rows L2 RT RZ
/-- the law in plain Lean -/
def Src.Law (s : Src) (fuel k : Nat) : Prop := ∀ ns : List Int, ns.length ≤ 63 → ∃ S', (lev s.P fuel k).call "law" [.rl (ns.map Val.int)] [] = .ok (.bl true) S'
/-- the state at the law's call: nothing is tracked but the script -/
theorem env_law {P : Program} {w : World} {K : PySem.W.Frag} {mg mb : Str → Option Value} {a : Addr} {s : Shared} {vs : List Value} {ns : List Int}
    (KX : K.In s.heap) (hns : s.heap.Ns mainGlobals mg) (hb : s.heap.Ns builtinsNs mb) (hbb : ∀ x : Str, x ≠ "__name__" → mb x = bootBuiltins x) (hlim : s.heap.NoLimit) (hg : s.gens = #[])
    (ha : s.heap.get? a = some { cls := .type "list", data := .seq vs.toArray }) (hi : IntsAre vs ns) (hl : ns.length ≤ sizeLine) :
    ∃ (H : Hp) (base : Heap), Env0 P w K mg base callerA [] s H ∧ K.In base ∧ base.Ns mainGlobals mg ∧ (∀ b, H b = none ∨ ∃ o xs, H b = some (.frz o (.lst xs))) ∧ SqL K H a (ns.map V.int) := by
  have rv := vals_ints hi
  have ln := hi.length
  cases hk : K.lookup a with
  | some o =>
    have e := KX a o hk
    rw [ha] at e
    cases e
    refine ⟨fun _ => none, s.heap, ⟨rfl, ⟨KX, hns, ⟨mb, hb, hbb⟩, hlim⟩, fun b o e => ⟨e, rfl⟩, Nat.le_refl _, trivial, fun b hb => absurd (show b ∈ ([] : List Addr) from hb) (by simp), fun b u z => ?_, .of_eq hg⟩, KX, hns, fun b => .inl rfl, .inr ⟨_, vs.toArray, _, hk, rfl, rfl, rfl, by rw [List.size_toArray, ln]; exact hl, by simpa using rv⟩⟩
    have z' : (none : Option HO) = some u := z
    cases z'
  | none =>
    let H : Hp := fun b => if b = a then some (.frz { cls := .type "list", data := .seq vs.toArray } (.lst (ns.map V.int))) else none
    have Ha : H a = some (.frz { cls := .type "list", data := .seq vs.toArray } (.lst (ns.map V.int))) := if_pos rfl
    have Hn : ∀ b, b ≠ a → H b = none := fun b hb => if_neg hb
    have own : ∀ {b : Addr} {o : Obj} {es : Array DictEntry} {ep : Nat}, s.heap.get? b = some o → o.data = .dict es ep → H b = none := by
      intro b o es ep e d
      refine Hn b fun z => ?_
      subst z
      rw [ha] at e
      cases e
      cases d
    have ns_ : ∀ {b : Addr} {m : Str → Option Value}, s.heap.Ns b m → (hidT s.heap H).Ns b m := fun ⟨o, es, ep, e, d, r⟩ => ⟨o, es, ep, hidT_get e (own e d), d, r⟩
    have KB : K.In (hidT s.heap H) := fun b o e => hidT_get (KX b o e) (Hn b fun z => by rw [z, hk] at e; cases e)
    obtain ⟨mc, l1, l2⟩ := hlim
    refine ⟨H, hidT s.heap H, ⟨rfl, ⟨KB, ns_ hns, ⟨mb, ns_ hb, hbb⟩, ⟨mc, ns_ l1, l2⟩⟩, fun b o e => of_hidT e, Nat.le_of_eq (hidT_size _ _), trivial, fun b hb => absurd (show b ∈ ([] : List Addr) from hb) (by simp), fun b u z => ?_, .of_eq hg⟩, KB, ns_ hns, fun b => ?_, .inl (.inr ⟨_, Ha⟩)⟩
    · by_cases hb : b = a
      · subst hb
        rw [Ha] at z
        cases z
        exact ⟨ha, by rw [List.length_map]; exact hl, vs, _, rv, ha⟩
      · rw [Hn b hb] at z
        cases z
    · by_cases hb : b = a
      · exact .inr ⟨_, _, by rw [hb]; exact Ha⟩
      · exact .inl (Hn b hb)
theorem Src.walk {l : PySem.W.OpenLaw} {q : Program} {loose : List Str} {XP : (Str → Option Value) → Heap → Prop} {d : DefRec} (s : Src) (fuel k : Nat) (e : Ent) (hn : l.most = some 63) (hdf : d.params.defaults = []) (hd : d.name = Str.ofString "law")
    (he : s.ent? "law" = some e) (hps : e.ps = [("script" : Str)]) (hc : e.c = none) (hx : e.x = "law") (hsl : ShN e 1 [] [0]) (ht : s.tabOk = true) (hsh : ∀ p ∈ s.shs, s.ShP p) (hck : ∀ e ∈ s.ents, e.ok s.T = true) (room : Room (2 * k + 1) callerA)
    (law : s.Law fuel k) : PySem.W.WalkO q loose XP (He.hookD n s.fa s.fn).says l.row.toRowW d [] (fun f vs => PySem.call f vs) := by
  refine Att.attach_call hn hdf fun w s₀ s₁ mg mb fa o pm cd doc a vs ns Gn Y ho hd2 hcd hmg hobj hints hlen hg => ?_
  obtain ⟨K, KX, c⟩ := Y
  have hm := (Src.ent_mem he).1
  have F := Src.funD c hm
  have hat : He.fAd K e.at_ = He.ga K (Str.ofString "law") := by
    unfold Ent.at_
    rw [hc, hx]
    rfl
  have htop : ("law" : String) ∈ s.tops := List.mem_map.mpr ⟨e, List.mem_filter.mpr ⟨hm, by rw [hc]; rfl⟩, hx⟩
  have hfa : fa = He.fAd K e.at_ := by
    have h1 : mg (Str.ofString "law") = some (.ref (He.ga K (Str.ofString "law"))) := He.glo_ok KX Gn.T.g (c.facts (List.mem_append_left _ (List.mem_append_left _ (List.mem_append_left _ (List.mem_map_of_mem htop)))))
    rw [hd] at hmg
    rw [hmg] at h1
    rw [hat]
    cases h1
    rfl
  have hq : s.T.quals.contains "law" = true := List.contains_iff_mem.mpr (List.mem_map.mpr ⟨e, hm, (Src.ent_mem he).2⟩)
  have bind : ∀ (sh : Shared) (u : Value), BindsTo sh (fdOf K e.at_) ⟨[u], []⟩ [("script", u)] := by
    intro sh u
    obtain ⟨hdfl, hb⟩ := hsl
    obtain ⟨oc, od, dV, kV, doc, pm, an, cdv, ct, osl, efd, lk, hcd, hD, hK⟩ := F.ex
    have edV : dV = .none := by
      rcases hD with ⟨_, z⟩ | ⟨z, _⟩
      · exact z
      · exact absurd (by show (e.dfl.map (He.Dv.v K)) = []; rw [hdfl]; rfl) z
    subst edV
    obtain ⟨ds, g1, g2, g3⟩ := hb kV doc pm an cdv ct [u] [] rfl rfl
    have hds : ds = [u] := (Option.some.inj g1).symm
    subst hds
    rw [hps] at g3
    rw [efd]
    exact .of_eq g3
  obtain ⟨H, base, e0, KB, GB, hO, hS⟩ := env_law (P := l.prog) (w := w) KX Gn.T.g Gn.T.b Gn.T.builtins Gn.T.nolimit hg hobj hints (Nat.le_trans hlen (by decide))
  have FG := Src.ok (s := s) KX Gn.T.g c ht hsh hck fuel (prog := l.prog) (w := w) (base := base) k "law" hq
  rw [Src.G_fa he, Src.G_fd he, Src.G_ps he, hps] at FG
  rw [hfa]
  refine lawG (mb := mb) (vs := vs) (ns := ns) e0 FG room (bind _ _) hO ?_
  obtain ⟨S', hS'⟩ := law ns hlen
  refine ⟨[], [], [], [.rl (ns.map Val.int)], _, S', ⟨rfl, List.nodup_nil, fun n c a h1 h2 => by simp at h1, fun a ha => by cases ha⟩, ?_, hS', ?_, fun z H' f' x r rv => ?_⟩
  · refine ⟨.ref a, [], rfl, ⟨a, ns.map V.int, rfl, ?_, RVs.ofInts ns⟩, rfl⟩
    rcases hS with z | z
    · exact .inl ⟨z, by simp [Out], by simp [Src.G]⟩
    · exact .inr z
  · rw [Src.G_ps he, hps]
    rfl
  · exact rv
end Ev

set_option Elab.async false
set_option linter.all false
set_option maxRecDepth 100000
set_option maxHeartbeats 4000000
/-! ### Reckoning with meanings: left to right -/
namespace Ev
open PySem L2
/-! the continuations by name, so that a rewriting goes from the left -/
section
variable (G : Gm) (ρ : Env) {S S1 : Store} {x y : Val} {xs ys : List Val} {t : Bool}
noncomputable def lkV : Option (Option Val) → Store → R Val
  | some (some x), S => .ok x S
  | _, _ => .bad
noncomputable def kBin (m : Bool) (op : BOp) (b : E) (r : R Val) : R Val := r.bind fun x S1 => (denE G b ρ S1).bind fun y S2 => binV m op x y S2
noncomputable def kBin2 (m : Bool) (op : BOp) (x : Val) (r : R Val) : R Val := r.bind fun y S2 => binV m op x y S2
noncomputable def kNeg (r : R Val) : R Val := r.bind fun x S1 => match x with
    | .int i => .ok (.int (-i)) S1
    | _ => .bad
noncomputable def kNot (r : R Val) : R Val := r.bind fun x S1 => (ofO (truth S1 x) S1).bind fun t S1 => .ok (.bl (!t)) S1
noncomputable def kNot2 (r : R Bool) : R Val := r.bind fun t S1 => .ok (.bl (!t)) S1
noncomputable def kAnd (b : E) (r : R Val) : R Val := r.bind fun x S1 => (ofO (truth S1 x) S1).bind fun t S1 => if t = true then denE G b ρ S1 else .ok x S1
noncomputable def kAnd2 (b : E) (x : Val) (r : R Bool) : R Val := r.bind fun t S1 => if t = true then denE G b ρ S1 else .ok x S1
noncomputable def kOr (b : E) (r : R Val) : R Val := r.bind fun x S1 => (ofO (truth S1 x) S1).bind fun t S1 => if t = true then .ok x S1 else denE G b ρ S1
noncomputable def kOr2 (b : E) (x : Val) (r : R Bool) : R Val := r.bind fun t S1 => if t = true then .ok x S1 else denE G b ρ S1
noncomputable def kCmp (op : COp) (b : E) (r : R Val) : R Val := r.bind fun x S1 => (denE G b ρ S1).bind fun y S2 => (ofO (cmpV op x y S2) S2).bind fun t S2 => .ok (.bl t) S2
noncomputable def kCmp2 (op : COp) (x : Val) (r : R Val) : R Val := r.bind fun y S2 => (ofO (cmpV op x y S2) S2).bind fun t S2 => .ok (.bl t) S2
noncomputable def kBl (r : R Bool) : R Val := r.bind fun t S2 => .ok (.bl t) S2
noncomputable def tCmp (op : COp) (b : E) (r : R Val) : R Bool := r.bind fun x S1 => (denE G b ρ S1).bind fun y S2 => ofO (cmpV op x y S2) S2
noncomputable def tCmp2 (op : COp) (x : Val) (r : R Val) : R Bool := r.bind fun y S2 => ofO (cmpV op x y S2) S2
noncomputable def tCh (o1 o2 : COp) (b c : E) (r : R Val) : R Bool := r.bind fun x S1 => (denE G b ρ S1).bind fun y S2 => (ofO (cmpV o1 x y S2) S2).bind fun t S2 =>
      if t = true then (denE G c ρ S2).bind fun z S3 => ofO (cmpV o2 y z S3) S3 else .ok false S2
noncomputable def tCh2 (o1 o2 : COp) (c : E) (x : Val) (r : R Val) : R Bool := r.bind fun y S2 => (ofO (cmpV o1 x y S2) S2).bind fun t S2 =>
      if t = true then (denE G c ρ S2).bind fun z S3 => ofO (cmpV o2 y z S3) S3 else .ok false S2
noncomputable def tCh3 (o2 : COp) (c : E) (y : Val) (r : R Bool) : R Bool := r.bind fun t S2 => if t = true then (denE G c ρ S2).bind fun z S3 => ofO (cmpV o2 y z S3) S3 else .ok false S2
noncomputable def kIte (a b : E) (r : R Bool) : R Val := r.bind fun t S1 => if t = true then denE G a ρ S1 else denE G b ρ S1
noncomputable def kTup (r : R (List Val)) : R Val := r.bind fun xs S1 => mkTup xs S1
noncomputable def kLst (m : Bool) (r : R (List Val)) : R Val := r.bind fun xs S1 => mkList m xs S1
noncomputable def kIx (i : E) (r : R Val) : R Val := r.bind fun x S1 => (denE G i ρ S1).bind fun y S2 => ofO (ixV x y S2) S2
noncomputable def kIx2 (x : Val) (r : R Val) : R Val := r.bind fun y S2 => ofO (ixV x y S2) S2
noncomputable def kFld (f : String) (r : R Val) : R Val := r.bind fun x S1 => fldV G x f S1
noncomputable def kEs (es : Es) (r : R Val) : R (List Val) := r.bind fun x S1 => (denEs G es ρ S1).bind fun xs S2 => .ok (x :: xs) S2
noncomputable def kEs2 (x : Val) (r : R (List Val)) : R (List Val) := r.bind fun xs S2 => .ok (x :: xs) S2
noncomputable def kCall (f : String) (sh : Nat) (ks : Es) (r : R (List Val)) : R Val := r.bind fun xs S1 => (denEs G ks ρ S1).bind fun ys S2 => match G.arr sh (xs ++ ys) with
    | some us => G.call f us S2
    | none => .bad
noncomputable def kCall2 (f : String) (sh : Nat) (xs : List Val) (r : R (List Val)) : R Val := r.bind fun ys S2 => match G.arr sh (xs ++ ys) with
    | some us => G.call f us S2
    | none => .bad
noncomputable def kCall3 (f : String) (o : Option (List Val)) (S : Store) : R Val := match o with
    | some us => G.call f us S
    | none => .bad
noncomputable def kMake (m : Bool) (c : String) (sh : Nat) (ks : Es) (r : R (List Val)) : R Val := r.bind fun xs S1 => (denEs G ks ρ S1).bind fun ys S2 => makeV G m c sh (xs ++ ys) S2
noncomputable def kMake2 (m : Bool) (c : String) (sh : Nat) (xs : List Val) (r : R (List Val)) : R Val := r.bind fun ys S2 => makeV G m c sh (xs ++ ys) S2
noncomputable def kMeth (f : String) (sh : Nat) (es ks : Es) (r : R Val) : R Val := r.bind fun x S0 => (denEs G es ρ S0).bind fun xs S1 => (denEs G ks ρ S1).bind fun ys S2 => methV G x f sh (xs ++ ys) S0 S2
noncomputable def kMeth2 (f : String) (sh : Nat) (ks : Es) (x : Val) (S0 : Store) (r : R (List Val)) : R Val := r.bind fun xs S1 => (denEs G ks ρ S1).bind fun ys S2 => methV G x f sh (xs ++ ys) S0 S2
noncomputable def kMeth3 (f : String) (sh : Nat) (x : Val) (S0 : Store) (xs : List Val) (r : R (List Val)) : R Val := r.bind fun ys S2 => methV G x f sh (xs ++ ys) S0 S2
noncomputable def kBlt (m : Bool) (f : Blt) (r : R (List Val)) : R Val := r.bind fun xs S1 => bltV m f xs S1
noncomputable def kBm (f : BM) (es : Es) (r : R Val) : R Val := r.bind fun x S0 => if isLst S0 x = true then (denEs G es ρ S0).bind fun xs S1 => bmV f x xs S1 else .bad
noncomputable def kBm2 (f : BM) (x : Val) (r : R (List Val)) : R Val := r.bind fun xs S1 => bmV f x xs S1
noncomputable def tNot (r : R Bool) : R Bool := r.bind fun t S1 => .ok (!t) S1
noncomputable def tAnd (b : E) (r : R Bool) : R Bool := r.bind fun t S1 => if t = true then denT G b ρ S1 else .ok false S1
noncomputable def tOr (b : E) (r : R Bool) : R Bool := r.bind fun t S1 => if t = true then .ok true S1 else denT G b ρ S1
noncomputable def tTr (r : R Val) : R Bool := r.bind fun v S1 => ofO (truth S1 v) S1
theorem e_v (i : Nat) : denE G (.v i) ρ S = lkV ρ[i]? S := by
  simp only [denE]
  rcases ρ[i]? with _ | (_ | x) <;> rfl
theorem e_lk : lkV (some (some x)) S = .ok x S := rfl
theorem e_i (n : Int) : denE G (.i n) ρ S = .ok (.int n) S := by first | rfl | (simp only [denE]; done) | (simp only [denE]; rfl)
theorem e_b : denE G (.b t) ρ S = .ok (.bl t) S := by first | rfl | (simp only [denE]; done) | (simp only [denE]; rfl)
theorem e_s (z : String) : denE G (.s z) ρ S = .ok (.str (Str.ofString z)) S := by first | rfl | (simp only [denE]; done) | (simp only [denE]; rfl)
theorem e_n : denE G .n ρ S = .ok .non S := by first | rfl | (simp only [denE]; done) | (simp only [denE]; rfl)
theorem e_bin (m : Bool) (op : BOp) (a b : E) : denE G (.bin m op a b) ρ S = kBin G ρ m op b (denE G a ρ S) := by first | rfl | (simp only [denE, kBin]; done) | (simp only [denE, kBin]; rfl)
theorem e_bin1 (m : Bool) (op : BOp) (b : E) : kBin G ρ m op b (.ok x S) = kBin2 m op x (denE G b ρ S) := rfl
theorem e_bin2 (m : Bool) (op : BOp) : kBin2 m op x (.ok y S) = binV m op x y S := rfl
theorem e_neg (a : E) : denE G (.neg a) ρ S = kNeg (denE G a ρ S) := by first | rfl | (simp only [denE, kNeg]; done) | (simp only [denE, kNeg]; rfl)
theorem e_neg1 (i : Int) : kNeg (.ok (.int i) S) = .ok (.int (-i)) S := rfl
theorem e_not (a : E) : denE G (.not a) ρ S = kNot (denE G a ρ S) := by first | rfl | (simp only [denE, kNot]; done) | (simp only [denE, kNot]; rfl)
theorem e_not1 : kNot (.ok x S) = kNot2 (ofO (truth S x) S) := rfl
theorem e_not2 : kNot2 (.ok t S) = .ok (.bl (!t)) S := rfl
theorem e_and (a b : E) : denE G (.and a b) ρ S = kAnd G ρ b (denE G a ρ S) := by first | rfl | (simp only [denE, kAnd]; done) | (simp only [denE, kAnd]; rfl)
theorem e_and1 (b : E) : kAnd G ρ b (.ok x S) = kAnd2 G ρ b x (ofO (truth S x) S) := rfl
theorem e_and2 (b : E) : kAnd2 G ρ b x (.ok t S) = if t = true then denE G b ρ S else .ok x S := rfl
theorem e_or (a b : E) : denE G (.or a b) ρ S = kOr G ρ b (denE G a ρ S) := by first | rfl | (simp only [denE, kOr]; done) | (simp only [denE, kOr]; rfl)
theorem e_or1 (b : E) : kOr G ρ b (.ok x S) = kOr2 G ρ b x (ofO (truth S x) S) := rfl
theorem e_or2 (b : E) : kOr2 G ρ b x (.ok t S) = if t = true then .ok x S else denE G b ρ S := rfl
theorem e_cmp (op : COp) (a b : E) : denE G (.cmp op a b) ρ S = kCmp G ρ op b (denE G a ρ S) := by first | rfl | (simp only [denE, kCmp]; done) | (simp only [denE, kCmp]; rfl)
theorem e_cmp1 (op : COp) (b : E) : kCmp G ρ op b (.ok x S) = kCmp2 op x (denE G b ρ S) := rfl
theorem e_cmp2 (op : COp) : kCmp2 op x (.ok y S) = kBl (ofO (cmpV op x y S) S) := rfl
theorem e_bl : kBl (.ok t S) = .ok (.bl t) S := rfl
theorem e_ite (c a b : E) : denE G (.ite c a b) ρ S = kIte G ρ a b (denT G c ρ S) := by first | rfl | (simp only [denE, kIte]; done) | (simp only [denE, kIte]; rfl)
theorem e_ite1 (a b : E) : kIte G ρ a b (.ok t S) = if t = true then denE G a ρ S else denE G b ρ S := rfl
theorem e_tup (es : Es) : denE G (.tup es) ρ S = kTup (denEs G es ρ S) := by first | rfl | (simp only [denE, kTup]; done) | (simp only [denE, kTup]; rfl)
theorem e_tup1 : kTup (.ok xs S) = mkTup xs S := rfl
theorem e_lst (m : Bool) (es : Es) : denE G (.lst m es) ρ S = kLst m (denEs G es ρ S) := by first | rfl | (simp only [denE, kLst]; done) | (simp only [denE, kLst]; rfl)
theorem e_lst1 (m : Bool) : kLst m (.ok xs S) = mkList m xs S := rfl
theorem e_ix (a i : E) : denE G (.ix a i) ρ S = kIx G ρ i (denE G a ρ S) := by first | rfl | (simp only [denE, kIx]; done) | (simp only [denE, kIx]; rfl)
theorem e_ix1 (i : E) : kIx G ρ i (.ok x S) = kIx2 x (denE G i ρ S) := rfl
theorem e_ix2 : kIx2 x (.ok y S) = ofO (ixV x y S) S := rfl
theorem e_fld (a : E) (f : String) : denE G (.fld a f) ρ S = kFld G f (denE G a ρ S) := by first | rfl | (simp only [denE, kFld]; done) | (simp only [denE, kFld]; rfl)
theorem e_fld1 (f : String) : kFld G f (.ok x S) = fldV G x f S := rfl
theorem e_es0 : denEs G .nil ρ S = .ok [] S := by first | rfl | (simp only [denEs]; done) | (simp only [denEs]; rfl)
theorem e_es (e : E) (es : Es) : denEs G (.cons e es) ρ S = kEs G ρ es (denE G e ρ S) := by first | rfl | (simp only [denEs, kEs]; done) | (simp only [denEs, kEs]; rfl)
theorem e_es1 (es : Es) : kEs G ρ es (.ok x S) = kEs2 x (denEs G es ρ S) := rfl
theorem e_es2 : kEs2 x (.ok xs S) = .ok (x :: xs) S := rfl
theorem e_call (f : String) (sh : Nat) (es ks : Es) : denE G (.call f sh es ks) ρ S = kCall G ρ f sh ks (denEs G es ρ S) := by first | rfl | (simp only [denE, kCall]; done) | (simp only [denE, kCall]; rfl)
theorem e_call1 (f : String) (sh : Nat) (ks : Es) : kCall G ρ f sh ks (.ok xs S) = kCall2 G f sh xs (denEs G ks ρ S) := rfl
theorem e_call2 (f : String) (sh : Nat) : kCall2 G f sh xs (.ok ys S) = kCall3 G f (G.arr sh (xs ++ ys)) S := rfl
theorem e_call3 (f : String) : kCall3 G f (some xs) S = G.call f xs S := rfl
theorem e_make (m : Bool) (c : String) (sh : Nat) (es ks : Es) : denE G (.make m c sh es ks) ρ S = kMake G ρ m c sh ks (denEs G es ρ S) := by first | rfl | (simp only [denE, kMake]; done) | (simp only [denE, kMake]; rfl)
theorem e_make1 (m : Bool) (c : String) (sh : Nat) (ks : Es) : kMake G ρ m c sh ks (.ok xs S) = kMake2 G m c sh xs (denEs G ks ρ S) := rfl
theorem e_make2 (m : Bool) (c : String) (sh : Nat) : kMake2 G m c sh xs (.ok ys S) = makeV G m c sh (xs ++ ys) S := rfl
theorem e_meth (a : E) (f : String) (sh : Nat) (es ks : Es) : denE G (.meth a f sh es ks) ρ S = kMeth G ρ f sh es ks (denE G a ρ S) := by first | rfl | (simp only [denE, kMeth]; done) | (simp only [denE, kMeth]; rfl)
theorem e_meth1 (f : String) (sh : Nat) (es ks : Es) : kMeth G ρ f sh es ks (.ok x S) = kMeth2 G ρ f sh ks x S (denEs G es ρ S) := rfl
theorem e_meth2 (f : String) (sh : Nat) (ks : Es) : kMeth2 G ρ f sh ks x S1 (.ok xs S) = kMeth3 G f sh x S1 xs (denEs G ks ρ S) := rfl
theorem e_meth3 (f : String) (sh : Nat) : kMeth3 G f sh x S1 xs (.ok ys S) = methV G x f sh (xs ++ ys) S1 S := rfl
theorem e_blt (m : Bool) (f : Blt) (es : Es) : denE G (.blt m f es) ρ S = kBlt m f (denEs G es ρ S) := by first | rfl | (simp only [denE, kBlt]; done) | (simp only [denE, kBlt]; rfl)
theorem e_blt1 (m : Bool) (f : Blt) : kBlt m f (.ok xs S) = bltV m f xs S := rfl
theorem e_bm (a : E) (f : BM) (es : Es) : denE G (.bm a f es) ρ S = kBm G ρ f es (denE G a ρ S) := by first | rfl | (simp only [denE, kBm]; done) | (simp only [denE, kBm]; rfl)
theorem e_bm1 (f : BM) (es : Es) : kBm G ρ f es (.ok x S) = if isLst S x = true then kBm2 f x (denEs G es ρ S) else .bad := rfl
theorem e_bm2 (f : BM) : kBm2 f x (.ok xs S) = bmV f x xs S := rfl
theorem u_not (a : E) : denT G (.not a) ρ S = tNot (denT G a ρ S) := by first | rfl | (simp only [denT, tNot]; done) | (simp only [denT, tNot]; rfl)
theorem u_not1 : tNot (.ok t S) = .ok (!t) S := rfl
theorem u_and (a b : E) : denT G (.and a b) ρ S = tAnd G ρ b (denT G a ρ S) := by first | rfl | (simp only [denT, tAnd]; done) | (simp only [denT, tAnd]; rfl)
theorem u_and1 (b : E) : tAnd G ρ b (.ok t S) = if t = true then denT G b ρ S else .ok false S := rfl
theorem u_or (a b : E) : denT G (.or a b) ρ S = tOr G ρ b (denT G a ρ S) := by first | rfl | (simp only [denT, tOr]; done) | (simp only [denT, tOr]; rfl)
theorem u_or1 (b : E) : tOr G ρ b (.ok t S) = if t = true then .ok true S else denT G b ρ S := rfl
theorem u_v (i : Nat) : denT G (.v i) ρ S = tTr (lkV ρ[i]? S) := by
  simp only [denT]
  rcases ρ[i]? with _ | (_ | x) <;> rfl
theorem u_b : denT G (.b t) ρ S = .ok t S := by first | rfl | (simp only [denT]; done) | (simp only [denT]; rfl)
theorem u_tr : tTr (.ok x S) = ofO (truth S x) S := rfl
theorem u_cmp (op : COp) (a b : E) : denT G (.cmp op a b) ρ S = tCmp G ρ op b (denE G a ρ S) := by first | rfl | (simp only [denT, tCmp]; done) | (simp only [denT, tCmp]; rfl)
theorem u_cmp1 (op : COp) (b : E) : tCmp G ρ op b (.ok x S) = tCmp2 op x (denE G b ρ S) := rfl
theorem u_cmp2 (op : COp) : tCmp2 op x (.ok y S) = ofO (cmpV op x y S) S := rfl
theorem u_ch (o1 o2 : COp) (a b c : E) : denT G (.cmp2 o1 o2 a b c) ρ S = tCh G ρ o1 o2 b c (denE G a ρ S) := by first | rfl | (simp only [denT, tCh]; done) | (simp only [denT, tCh]; rfl)
theorem u_ch1 (o1 o2 : COp) (b c : E) : tCh G ρ o1 o2 b c (.ok x S) = tCh2 G ρ o1 o2 c x (denE G b ρ S) := rfl
theorem u_ch2 (o1 o2 : COp) (c : E) : tCh2 G ρ o1 o2 c x (.ok y S) = tCh3 G ρ o2 c y (ofO (cmpV o1 x y S) S) := rfl
theorem u_ch3 (o2 : COp) (c : E) : tCh3 G ρ o2 c y (.ok t S) = if t = true then tCmp2 o2 y (denE G c ρ S) else .ok false S := rfl
theorem u_ix (a i : E) : denT G (.ix a i) ρ S = tTr (denE G (.ix a i) ρ S) := by first | rfl | (simp only [denT, denE, tTr, R.bind_assoc]; done) | (simp only [denT, denE, tTr, R.bind_assoc]; rfl)
theorem u_fld (a : E) (f : String) : denT G (.fld a f) ρ S = tTr (denE G (.fld a f) ρ S) := by first | rfl | (simp only [denT, denE, tTr, R.bind_assoc]; done) | (simp only [denT, denE, tTr, R.bind_assoc]; rfl)
theorem u_meth (a : E) (f : String) (sh : Nat) (es ks : Es) : denT G (.meth a f sh es ks) ρ S = tTr (denE G (.meth a f sh es ks) ρ S) := by first | rfl | (simp only [denT, denE, tTr, R.bind_assoc]; done) | (simp only [denT, denE, tTr, R.bind_assoc]; rfl)
theorem u_blt (m : Bool) (f : Blt) (es : Es) : denT G (.blt m f es) ρ S = tTr (denE G (.blt m f es) ρ S) := by first | rfl | (simp only [denT, denE, tTr, R.bind_assoc]; done) | (simp only [denT, denE, tTr, R.bind_assoc]; rfl)
theorem u_call (f : String) (sh : Nat) (es ks : Es) : denT G (.call f sh es ks) ρ S = tTr (denE G (.call f sh es ks) ρ S) := by
  simp only [denT, denE, tTr, R.bind_assoc]
  refine congrArg _ (funext fun xs => funext fun S1 => congrArg _ (funext fun ys => funext fun S2 => ?_))
  cases G.arr sh (xs ++ ys) <;> rfl
/-! statements -/
noncomputable def kSet (i : Nat) (r : R Val) : R Fl := r.bind fun x S1 => .ok (.nx (ρ.set i (some x))) S1
noncomputable def kAsg (t : Tg) (r : R Val) : R Fl := r.bind fun x S1 => match asg S1 t x ρ with
    | some ρ1 => .ok (.nx ρ1) S1
    | none => .bad
noncomputable def oNx : Option Env → Store → R Fl
  | some ρ1, S => .ok (.nx ρ1) S
  | none, _ => .bad
noncomputable def kPar (i j : Nat) (b : E) (r : R Val) : R Fl := r.bind fun x S1 => (denE G b ρ S1).bind fun y S2 => .ok (.nx ((ρ.set i (some x)).set j (some y))) S2
noncomputable def kPar2 (i j : Nat) (x : Val) (r : R Val) : R Fl := r.bind fun y S2 => .ok (.nx ((ρ.set i (some x)).set j (some y))) S2
noncomputable def kSix (a i : E) (r : R Val) : R Fl := r.bind fun v S1 => (denE G a ρ S1).bind fun o S2 => (denE G i ρ S2).bind fun k S3 => match setixV o k v S3 with
    | some S4 => .ok (.nx ρ) S4
    | none => .bad
noncomputable def kSix2 (i : E) (v : Val) (r : R Val) : R Fl := r.bind fun o S2 => (denE G i ρ S2).bind fun k S3 => match setixV o k v S3 with
    | some S4 => .ok (.nx ρ) S4
    | none => .bad
noncomputable def kSix3 (v o : Val) (r : R Val) : R Fl := r.bind fun k S3 => match setixV o k v S3 with
    | some S4 => .ok (.nx ρ) S4
    | none => .bad
noncomputable def oSt : Option Store → R Fl
  | some S4 => .ok (.nx ρ) S4
  | none => .bad
noncomputable def sfV (o : Val) (f : String) (v : Val) (S : Store) : R Fl := match objOf S o with
    | some (c, _) => if G.fld c f = true then (match setfldV o f v S with
      | some S3 => .ok (.nx ρ) S3
      | none => .bad) else .bad
    | none => .bad
noncomputable def kSf (a : E) (f : String) (r : R Val) : R Fl := r.bind fun v S1 => (denE G a ρ S1).bind fun o S2 => sfV G ρ o f v S2
noncomputable def kSf2 (f : String) (v : Val) (r : R Val) : R Fl := r.bind fun o S2 => sfV G ρ o f v S2
noncomputable def kEx (r : R Val) : R Fl := r.bind fun _ S1 => .ok (.nx ρ) S1
noncomputable def kRt (r : R Val) : R Fl := r.bind fun x S1 => .ok (.rt x) S1
noncomputable def kIf (a b : Ss) (r : R Bool) : R Fl := r.bind fun t S1 => if t = true then denSs G a ρ S1 else denSs G b ρ S1
noncomputable def kSs (r0 : Ss) (r : R Fl) : R Fl := r.bind fun fl S1 => match fl with
    | .nx ρ1 => denSs G r0 ρ1 S1
    | fl => .ok fl S1
theorem s_nil : denSs G .nil ρ S = .ok (.nx ρ) S := by first | rfl | (simp only [denSs]; done) | (simp only [denSs]; rfl)
theorem s_cons (s : S_) (r : Ss) : denSs G (.cons s r) ρ S = kSs G r (denS G s ρ S) := by first | rfl | (simp only [denSs, kSs]; done) | (simp only [denSs, kSs]; rfl)
theorem s_nx (r : Ss) : kSs G r (.ok (.nx ρ) S) = denSs G r ρ S := rfl
theorem s_rt (r : Ss) : kSs G r (.ok (.rt x) S) = .ok (.rt x) S := rfl
theorem s_bk (r : Ss) : kSs G r (.ok (.bk ρ) S) = .ok (.bk ρ) S := rfl
theorem s_ct (r : Ss) : kSs G r (.ok (.ct ρ) S) = .ok (.ct ρ) S := rfl
theorem s_set (i : Nat) (e : E) : denS G (.set i e) ρ S = kSet ρ i (denE G e ρ S) := by first | rfl | (simp only [denS, kSet]; done) | (simp only [denS, kSet]; rfl)
theorem s_set1 (i : Nat) : kSet ρ i (.ok x S) = .ok (.nx (ρ.set i (some x))) S := rfl
theorem s_asg (t : Tg) (e : E) : denS G (.asg t e) ρ S = kAsg ρ t (denE G e ρ S) := by first | rfl | (simp only [denS, kAsg]; done) | (simp only [denS, kAsg]; rfl)
theorem s_asg1 (t : Tg) : kAsg ρ t (.ok x S) = oNx (asg S t x ρ) S := by
  simp only [kAsg, R.ok_bind]
  cases asg S t x ρ <;> rfl
theorem s_asg2 : oNx (some ρ) S = .ok (.nx ρ) S := rfl
theorem s_par (i j : Nat) (a b : E) : denS G (.par i j a b) ρ S = kPar G ρ i j b (denE G a ρ S) := by first | rfl | (simp only [denS, kPar]; done) | (simp only [denS, kPar]; rfl)
theorem s_par1 (i j : Nat) (b : E) : kPar G ρ i j b (.ok x S) = kPar2 ρ i j x (denE G b ρ S) := rfl
theorem s_par2 (i j : Nat) : kPar2 ρ i j x (.ok y S) = .ok (.nx ((ρ.set i (some x)).set j (some y))) S := rfl
theorem s_six (a i e : E) : denS G (.setix a i e) ρ S = kSix G ρ a i (denE G e ρ S) := by first | rfl | (simp only [denS, kSix]; done) | (simp only [denS, kSix]; rfl)
theorem s_six1 (a i : E) : kSix G ρ a i (.ok x S) = kSix2 G ρ i x (denE G a ρ S) := rfl
theorem s_six2 (i : E) : kSix2 G ρ i x (.ok y S) = kSix3 ρ x y (denE G i ρ S) := rfl
theorem s_six3 (z : Val) : kSix3 ρ x y (.ok z S) = oSt ρ (setixV y z x S) := by
  simp only [kSix3, R.ok_bind]
  cases setixV y z x S <;> rfl
theorem s_ost : oSt ρ (some S) = .ok (.nx ρ) S := rfl
theorem s_sf (a : E) (f : String) (e : E) : denS G (.setfld a f e) ρ S = kSf G ρ a f (denE G e ρ S) := by first | rfl | (simp only [denS, kSf, sfV]; done) | (simp only [denS, kSf, sfV]; rfl)
theorem s_sf1 (a : E) (f : String) : kSf G ρ a f (.ok x S) = kSf2 G ρ f x (denE G a ρ S) := rfl
theorem s_sf2 (f : String) : kSf2 G ρ f x (.ok y S) = sfV G ρ y f x S := rfl
theorem s_ex (e : E) : denS G (.ex e) ρ S = kEx ρ (denE G e ρ S) := by first | rfl | (simp only [denS, kEx]; done) | (simp only [denS, kEx]; rfl)
theorem s_ex1 : kEx ρ (.ok x S) = .ok (.nx ρ) S := rfl
theorem s_ret (e : E) : denS G (.ret e) ρ S = kRt (denE G e ρ S) := by first | rfl | (simp only [denS, kRt]; done) | (simp only [denS, kRt]; rfl)
theorem s_ret1 : kRt (.ok x S) = .ok (.rt x) S := rfl
theorem s_retn : denS G .retn ρ S = .ok (.rt .non) S := by first | rfl | (simp only [denS]; done) | (simp only [denS]; rfl)
theorem s_if (c : E) (a b : Ss) : denS G (.ite c a b) ρ S = kIf G ρ a b (denT G c ρ S) := by first | rfl | (simp only [denS, kIf]; done) | (simp only [denS, kIf]; rfl)
theorem s_if1 (a b : Ss) : kIf G ρ a b (.ok t S) = if t = true then denSs G a ρ S else denSs G b ρ S := rfl
theorem s_pass : denS G .pass ρ S = .ok (.nx ρ) S := by first | rfl | (simp only [denS]; done) | (simp only [denS]; rfl)
theorem s_brk : denS G .brk ρ S = .ok (.bk ρ) S := by first | rfl | (simp only [denS]; done) | (simp only [denS]; rfl)
theorem s_cnt : denS G .cnt ρ S = .ok (.ct ρ) S := by first | rfl | (simp only [denS]; done) | (simp only [denS]; rfl)
end
/-- the end of a def's body -/
noncomputable def endR (tr : Bool) (S : Store) (r : R Fl) : R Val := r.bind fun fl S1 => match fl with
    | .nx _ => endV tr S .non S1
    | .rt v => endV tr S v S1
    | _ => .bad
theorem run_eq {G : Gm} {f : Fn} {vs : List Val} {S : Store} (h : vs.length = f.n) : runFn G f vs S = endR f.tr S (denSs G f.body (vs.map some ++ List.replicate (f.loc - f.n) none) S) := by
  unfold runFn endR
  rw [if_pos h] <;> rfl
theorem end_rt {S S1 : Store} {v : Val} : endR false S (.ok (.rt v) S1) = .ok v S1 := rfl
theorem end_nx {S S1 : Store} {ρ : Env} : endR false S (.ok (.nx ρ) S1) = .ok .non S1 := rfl
theorem end_rt_t {S S1 : Store} {v : Val} : endR true S (.ok (.rt v) S1) = exitp S v S1 := rfl
theorem end_nx_t {S S1 : Store} {ρ : Env} : endR true S (.ok (.nx ρ) S1) = exitp S .non S1 := rfl
theorem chk_true {α : Type} [Decidable True] (r : R α) : chk True r = r := if_pos trivial
theorem lev_call {P : Prog} {fuel k : Nat} {q : String} {f : Fn} (h : P.fns.find? (fun f => f.qual == q) = some f) (vs : List Val) (S : Store) : (lev P fuel (k + 1)).call q vs S = runFn (lev P fuel k) f vs S := by
  simp only [lev, h]
section
variable {S : Store} {i j : Int} {xs ys : List Val} {x y : Val} {m : Bool} {k : Nat}
theorem r_add : binV m .add (.int i) (.int j) S = .ok (.int (i + j)) S := rfl
theorem r_sub : binV m .sub (.int i) (.int j) S = .ok (.int (i - j)) S := rfl
theorem r_mul : binV m .mul (.int i) (.int j) S = chk (mulOk i j) (.ok (.int (i * j)) S) := rfl
theorem r_mod : binV m .mod (.int i) (.int j) S = chk (j ≠ 0) (.ok (.int (i.fmod j)) S) := rfl
theorem r_fdiv : binV m .fdiv (.int i) (.int j) S = chk (CDivN i j ∨ CDivW i j) (.ok (.int (i.fdiv j)) S) := rfl
theorem r_modL {n : Nat} (h : (n != 0) = true) : binV m .mod (.int i) (.int (no_index (OfNat.ofNat n : Int))) S = .ok (.int (i.fmod (OfNat.ofNat n : Int))) S := chk_pos (by
  have : n ≠ 0 := by simpa using h
  show ((n : Nat) : Int) ≠ 0
  omega)
theorem r_modP (h : 0 < j) : binV m .mod (.int i) (.int j) S = .ok (.int (i.fmod j)) S := chk_pos (by omega)
theorem r_fdivL {n : Nat} (h : (n != 0 && decide (n < 1073741824)) = true) : binV m .fdiv (.int i) (.int (no_index (OfNat.ofNat n : Int))) S = .ok (.int (i.fdiv (OfNat.ofNat n : Int))) S := chk_pos (.inl (by
  simp at h
  refine ⟨?_, ?_⟩
  · show ((n : Nat) : Int) ≠ 0
    omega
  · show ((n : Nat) : Int).natAbs < _
    omega))
theorem r_fdivP (h : 0 < j ∧ j < 1073741824) : binV m .fdiv (.int i) (.int j) S = .ok (.int (i.fdiv j)) S := chk_pos (.inl ⟨by omega, by omega⟩)
theorem cm_l {a b : Int} (h : a < 18446744073709551616) (h0 : 0 ≤ a) : mulOk a b := .inl (.inl ⟨by omega, by omega⟩)
theorem cm_r {a b : Int} (h : b < 18446744073709551616) (h0 : 0 ≤ b) : mulOk a b := .inl (.inr ⟨by omega, by omega⟩)
theorem cm_l2 {a b : Int} (h : -18446744073709551616 < a) (h0 : a < 18446744073709551616) : mulOk a b := .inl (.inl ⟨by omega, by omega⟩)
theorem cm_r2 {a b : Int} (h : -18446744073709551616 < b) (h0 : b < 18446744073709551616) : mulOk a b := .inl (.inr ⟨by omega, by omega⟩)
theorem lit_lt {n : Nat} (h : decide (n < 18446744073709551616) = true) : ((n : Nat) : Int) < 18446744073709551616 := by
  have := of_decide_eq_true h
  omega
theorem r_mulR {n : Nat} (h : decide (n < 18446744073709551616) = true) : binV m .mul (.int i) (.int (no_index (OfNat.ofNat n : Int))) S = .ok (.int (i * (OfNat.ofNat n : Int))) S := by
  have h2 : mulOk i ((n : Nat) : Int) := cm_r (lit_lt h) (Int.natCast_nonneg n)
  rw [show (OfNat.ofNat n : Int) = ((n : Nat) : Int) from rfl, r_mul, chk_pos h2]
theorem r_mulL {n : Nat} (h : decide (n < 18446744073709551616) = true) : binV m .mul (.int (no_index (OfNat.ofNat n : Int))) (.int i) S = .ok (.int ((OfNat.ofNat n : Int) * i)) S := by
  have h2 : mulOk ((n : Nat) : Int) i := cm_l (lit_lt h) (Int.natCast_nonneg n)
  rw [show (OfNat.ofNat n : Int) = ((n : Nat) : Int) from rfl, r_mul, chk_pos h2]
theorem r_mulP (h : -18446744073709551616 < i ∧ i < 18446744073709551616) : binV m .mul (.int i) (.int j) S = .ok (.int (i * j)) S := chk_pos (cm_l2 h.1 h.2)
theorem r_mulP2 (h : -18446744073709551616 < j ∧ j < 18446744073709551616) : binV m .mul (.int i) (.int j) S = .ok (.int (i * j)) S := chk_pos (cm_r2 h.1 h.2)
theorem r_pow : binV m .pow (.int i) (.int j) S = chk (CPow i j) (.ok (.int (i ^ j.toNat)) S) := rfl
theorem r_tt : binV m .add (.tup xs) (.tup ys) S = mkTup (xs ++ ys) S := rfl
theorem r_lt : cmpV .lt (.int i) (.int j) S = some (decide (i < j)) := rfl
theorem r_le : cmpV .le (.int i) (.int j) S = some (decide (i ≤ j)) := rfl
theorem r_gt : cmpV .gt (.int i) (.int j) S = some (decide (j < i)) := rfl
theorem r_ge : cmpV .ge (.int i) (.int j) S = some (decide (j ≤ i)) := rfl
theorem r_eq : cmpV .eq (.int i) (.int j) S = some (decide (i = j)) := rfl
theorem r_ne : cmpV .ne (.int i) (.int j) S = some (!decide (i = j)) := rfl
theorem r_ofO {α : Type} (a : α) : ofO (some a) S = .ok a S := rfl
theorem r_ixf : ixV (.fl xs) (.int i) S = atI xs i := rfl
theorem r_ixr : ixV (.rl xs) (.int i) S = atI xs i := rfl
theorem r_ixt : ixV (.tup xs) (.int i) S = atI xs i := rfl
theorem r_ixs (h : S[k]? = some (.lst xs)) : ixV (.ref k) (.int i) S = atI xs i := by
  show (match seqOf S (.ref k) with | some xs => atI xs i | none => none) = _
  simp only [seqOf, h]
theorem r_setix (h : S[k]? = some (.lst xs)) {n : Nat} (hn : ixN xs.length i = some n) : setixV (.ref k) (.int i) x S = some (S.set k (.lst (xs.set n x))) := by
  simp only [setixV, h, hn]
theorem r_lenf : lenB [.fl xs] S = .ok (.int xs.length) S := rfl
theorem r_lenr : lenB [.rl xs] S = .ok (.int xs.length) S := rfl
theorem r_lent : lenB [.tup xs] S = .ok (.int xs.length) S := rfl
theorem r_lens (h : S[k]? = some (.lst xs)) : lenB [.ref k] S = .ok (.int xs.length) S := by
  show (match seqOf S (.ref k) with | some xs => R.ok (Val.int xs.length) S | none => R.bad) = _
  simp only [seqOf, h]
theorem r_int : intB [.int i] S = .ok (.int i) S := rfl
theorem r_abs : absB [.int i] S = .ok (.int (if i < 0 then -i else i)) S := rfl
theorem r_min2 : minB [.int i, .int j] S = .ok (.int (if j < i then j else i)) S := rfl
theorem r_max2 : maxB [.int i, .int j] S = .ok (.int (if j > i then j else i)) S := rfl
theorem r_ti : truth S (.int i) = some (i != 0) := rfl
theorem r_tb (b : Bool) : truth S (.bl b) = some b := rfl
theorem r_list_m : listB true [.fl xs] S = .ok (.ref S.length) (S ++ [.lst xs]) := rfl
theorem r_mk (h : xs.length ≤ LINE) : mkList false xs S = .ok (.fl xs) S := by
  unfold mkList
  simp [h]
theorem r_mkm (h : xs.length ≤ LINE) : mkList true xs S = .ok (.ref S.length) (S ++ [.lst xs]) := by
  unfold mkList
  simp [h]
end
theorem atI_nat {α : Type} {xs : List α} {n : Nat} : atI xs (n : Int) = xs[n]? := by
  unfold atI ixN
  by_cases h : n < xs.length
  · simp [h]
  · simp [h]
theorem atI_0 {α : Type} {xs : List α} : atI xs 0 = xs[0]? := atI_nat (n := 0)
theorem atI_1 {α : Type} {xs : List α} : atI xs 1 = xs[1]? := atI_nat (n := 1)
theorem atI_2 {α : Type} {xs : List α} {n : Nat} : atI xs (no_index (OfNat.ofNat n : Int)) = xs[n]? := atI_nat (n := n)
/-! loops -/
theorem forL_nil {gs : List (Nat × Cell)} {step : Val → Env → Store → R Fl} {ρ : Env} {S : Store} (h : gdOk gs S) : forL gs step [] ρ S = .ok (.nx ρ) S := by
  unfold forL
  rw [if_pos h]
theorem forL_cons {gs : List (Nat × Cell)} {step : Val → Env → Store → R Fl} {x : Val} {xs : List Val} {ρ : Env} {S : Store} (h : gdOk gs S) : forL gs step (x :: xs) ρ S = (step x ρ S).bind fun fl S1 => match fl with
      | .nx ρ1 => forL gs step xs ρ1 S1
      | .ct ρ1 => forL gs step xs ρ1 S1
      | .bk ρ1 => .ok (.nx ρ1) S1
      | .rt v => .ok (.rt v) S1 := by
  rw [forL, if_pos h] <;> rfl
theorem lcL_nil_ {gs : List (Nat × Cell)} {step : Val → Store → R (Option Val)} {S : Store} (h : gdOk gs S) : lcL gs step [] S = .ok [] S := by
  unfold lcL
  rw [if_pos h]
theorem lcL_cons_ {gs : List (Nat × Cell)} {step : Val → Store → R (Option Val)} {x : Val} {xs : List Val} {S : Store} (h : gdOk gs S) : lcL gs step (x :: xs) S = (step x S).bind fun o S1 => (lcL gs step xs S1).bind fun ys S2 => .ok (optCons o ys) S2 := by
  rw [lcL, if_pos h]
/-- a for whose turns all go on: an invariant by the number of turns -/
theorem forL_inv {gs : List (Nat × Cell)} {step : Val → Env → Store → R Fl} (Inv : Nat → Env → Store → Prop) : ∀ (xs : List Val) (i : Nat) (ρ : Env) (S : Store), Inv i ρ S →
    (∀ (j : Nat) (x : Val) (ρ : Env) (S : Store), xs[j]? = some x → Inv (i + j) ρ S → gdOk gs S ∧ ∃ ρ' S', (step x ρ S = .ok (.nx ρ') S' ∨ step x ρ S = .ok (.ct ρ') S') ∧ Inv (i + j + 1) ρ' S') →
    (∀ ρ S, Inv (i + xs.length) ρ S → gdOk gs S) → ∃ ρ' S', forL gs step xs ρ S = .ok (.nx ρ') S' ∧ Inv (i + xs.length) ρ' S'
  | [], i, ρ, S, h, _, hl => ⟨ρ, S, forL_nil (hl ρ S h), h⟩
  | x :: xs, i, ρ, S, h, hs, hl => by
    obtain ⟨hg, ρ1, S1, e, h1⟩ := hs 0 x ρ S rfl h
    obtain ⟨ρ2, S2, e2, h2⟩ := forL_inv Inv xs (i + 1) ρ1 S1 h1 (fun j y ρ S hy hi => by
      have := hs (j + 1) y ρ S (by simpa using hy) (by rw [← Nat.add_assoc, Nat.add_right_comm]; exact hi)
      rw [← Nat.add_assoc, Nat.add_right_comm i j 1] at this
      exact this) (fun ρ S hi => hl ρ S (by rw [List.length_cons, ← Nat.add_assoc, Nat.add_right_comm]; exact hi))
    refine ⟨ρ2, S2, ?_, by rw [List.length_cons, ← Nat.add_assoc, Nat.add_right_comm]; exact h2⟩
    rw [forL_cons hg]
    rcases e with e | e
    · rw [e]
      exact e2
    · rw [e]
      exact e2
/-- a comprehension whose turns leave the store in an invariant: items by relation -/
theorem lcL_map {gs : List (Nat × Cell)} {step : Val → Store → R (Option Val)} (Inv : Nat → Store → Prop) (Out : Nat → Val → Prop) : ∀ (xs : List Val) (i : Nat) (S : Store), Inv i S →
    (∀ (j : Nat) (x : Val) (S : Store), xs[j]? = some x → Inv (i + j) S → gdOk gs S ∧ ∃ y S', step x S = .ok (some y) S' ∧ Out (i + j) y ∧ Inv (i + j + 1) S') →
    (∀ S, Inv (i + xs.length) S → gdOk gs S) → ∃ ys S', lcL gs step xs S = .ok ys S' ∧ ys.length = xs.length ∧ (∀ j y, ys[j]? = some y → Out (i + j) y) ∧ Inv (i + xs.length) S'
  | [], i, S, h, _, hl => ⟨[], S, lcL_nil_ (hl S h), rfl, fun j y e => by simp at e, h⟩
  | x :: xs, i, S, h, hs, hl => by
    obtain ⟨hg, y, S1, e, o, h1⟩ := hs 0 x S rfl h
    obtain ⟨ys, S2, e2, l2, o2, h2⟩ := lcL_map Inv Out xs (i + 1) S1 h1 (fun j y S hy hi => by
      have := hs (j + 1) y S (by simpa using hy) (by rw [← Nat.add_assoc, Nat.add_right_comm]; exact hi)
      rw [← Nat.add_assoc, Nat.add_right_comm i j 1] at this
      exact this) (fun S hi => hl S (by rw [List.length_cons, ← Nat.add_assoc, Nat.add_right_comm]; exact hi))
    refine ⟨y :: ys, S2, ?_, by simp [l2], fun j z hz => ?_, by rw [List.length_cons, ← Nat.add_assoc, Nat.add_right_comm]; exact h2⟩
    · rw [lcL_cons_ hg, e]
      show (lcL gs step xs S1).bind _ = _
      rw [e2]
      rfl
    · cases j with
      | zero =>
        cases hz
        exact o
      | succ j =>
        have := o2 j z (by simpa using hz)
        rw [Nat.add_assoc, Nat.add_comm 1 j] at this
        exact this
/-! loops and comprehensions by name -/
section
variable (G : Gm) (ρ : Env) {S S1 : Store} {x y : Val} {xs ys : List Val}
noncomputable def lcS (own : List Nat) (tg : Tg) (cond : OE) (elt : E) : Val → Store → R (Option Val) := fun x S => match asg S tg x (clr own ρ) with
    | some ρ1 => (denC G cond ρ1 S).bind fun t S2 => if t = true then (denE G elt ρ1 S2).bind fun y S3 => .ok (some y) S3 else .ok none S2
    | none => .bad
noncomputable def kLc (m : Bool) (own : List Nat) (tg : Tg) (cond : OE) (elt : E) (r : R (List Val × List (Nat × Cell))) : R Val := r.bind fun p S1 => (lcL p.2 (lcS G ρ own tg cond elt) p.1 S1).bind fun ys S2 => mkList m ys S2
theorem e_lc (m : Bool) (own : List Nat) (tg : Tg) (it : It) (cond : OE) (elt : E) : denE G (.lc m own tg it cond elt) ρ S = kLc G ρ m own tg cond elt (denI G it ρ S) := rfl
theorem e_lc1 (m : Bool) (own : List Nat) (tg : Tg) (cond : OE) (elt : E) (p : List Val × List (Nat × Cell)) : kLc G ρ m own tg cond elt (.ok p S) = kLst m (lcL p.2 (lcS G ρ own tg cond elt) p.1 S) := rfl
noncomputable def kC (elt : E) (r : R Bool) : R (Option Val) := r.bind fun t S2 => if t = true then (denE G elt ρ S2).bind fun y S3 => .ok (some y) S3 else .ok none S2
def kSo (r : R Val) : R (Option Val) := r.bind fun y S3 => .ok (some y) S3
theorem lcS_eq {own : List Nat} {tg : Tg} {cond : OE} {elt : E} {ρ1 : Env} (h : asg S tg x (clr own ρ) = some ρ1) : lcS G ρ own tg cond elt x S = kC G ρ1 elt (denC G cond ρ1 S) := by
  unfold lcS
  rw [h]
  rfl
theorem c_no : denC G .none ρ S = .ok true S := rfl
theorem c_so (e : E) : denC G (.some e) ρ S = denT G e ρ S := rfl
theorem kC_ok (elt : E) (t : Bool) : kC G ρ elt (.ok t S) = if t = true then kSo (denE G elt ρ S) else .ok none S := rfl
theorem kSo_ok : kSo (.ok x S) = .ok (some x) S := rfl
def kIe (r : R Val) : R (List Val × List (Nat × Cell)) := r.bind fun x S1 => (ofO (seqOf S1 x) S1).bind fun xs S1 => .ok (xs, gdOf S1 x) S1
theorem i_e (a : E) : denI G (.e a) ρ S = kIe (denE G a ρ S) := rfl
theorem i_rl : kIe (.ok (.rl xs) S) = .ok (xs, []) S := rfl
theorem i_fl : kIe (.ok (.fl xs) S) = .ok (xs, []) S := rfl
theorem i_tup : kIe (.ok (.tup xs) S) = .ok (xs, []) S := rfl
theorem i_ref {k : Nat} (h : S[k]? = some (.lst xs)) : kIe (.ok (.ref k) S) = .ok (xs, [(k, .lst xs)]) S := by
  show (ofO (seqOf S (.ref k)) S).bind (fun xs S1 => R.ok (xs, gdOf S1 (.ref k)) S1) = _
  simp only [seqOf, gdOf, h, ofO, R.ok_bind]
noncomputable def kRg (r : R (List Val)) : R (List Val × List (Nat × Cell)) := r.bind fun xs S1 => rangeM xs S1
theorem i_rg (es : Es) : denI G (.range es) ρ S = kRg (denEs G es ρ S) := rfl
theorem i_rg1 {j : Int} (h : inR j) : kRg (.ok [.int j] S) = .ok (rangeL 0 j, []) S := chk_pos h
theorem i_rg2 {i j : Int} (h : inR i ∧ inR j) : kRg (.ok [.int i, .int j] S) = .ok (rangeL i j, []) S := chk_pos h
def kStep (cl : List Nat) (r : R Fl) : R Fl := r.bind fun fl S2 => .ok (clFl cl fl) S2
noncomputable def stepF (t : Tg) (body : Ss) (cl : List Nat) : Val → Env → Store → R Fl := fun x ρ S => match asg S t x ρ with
    | some ρ1 => kStep cl (denSs G body ρ1 S)
    | none => .bad
noncomputable def kFor (t : Tg) (body : Ss) (cl : List Nat) (r : R (List Val × List (Nat × Cell))) : R Fl := r.bind fun p S1 => forL p.2 (stepF G t body cl) p.1 (clr cl ρ) S1
theorem s_for (t : Tg) (it : It) (body : Ss) (cl : List Nat) : denS G (.for_ t it body cl) ρ S = kFor G ρ t body cl (denI G it ρ S) := rfl
theorem s_for1 (t : Tg) (body : Ss) (cl : List Nat) (p : List Val × List (Nat × Cell)) : kFor G ρ t body cl (.ok p S) = forL p.2 (stepF G t body cl) p.1 (clr cl ρ) S := rfl
theorem stepF_eq {t : Tg} {body : Ss} {cl : List Nat} {ρ1 : Env} (h : asg S t x ρ = some ρ1) : stepF G t body cl x ρ S = kStep cl (denSs G body ρ1 S) := by
  unfold stepF
  rw [h]
theorem step_ok (cl : List Nat) (fl : Fl) : kStep cl (.ok fl S) = .ok (clFl cl fl) S := rfl
theorem cl_nx (cl : List Nat) : clFl cl (.nx ρ) = .nx (clr cl ρ) := rfl
theorem cl_ct (cl : List Nat) : clFl cl (.ct ρ) = .ct (clr cl ρ) := rfl
theorem cl_bk (cl : List Nat) : clFl cl (.bk ρ) = .bk (clr cl ρ) := rfl
theorem cl_rt (cl : List Nat) : clFl cl (.rt x) = .rt x := rfl
noncomputable def bodyF (body : Ss) (cl : List Nat) : Env → Store → R Fl := fun ρ S => kStep cl (denSs G body ρ S)
theorem s_wh (c : E) (body : Ss) (cl : List Nat) : denS G (.wh c body cl) ρ S = whL (denT G c) (bodyF G body cl) G.fuel (clr cl ρ) S := rfl
theorem wh_no {c : Env → Store → R Bool} {b : Env → Store → R Fl} {n : Nat} (h : c ρ S = .ok false S1) : whL c b (n + 1) ρ S = .ok (.nx ρ) S1 := by
  unfold whL
  rw [h]
  rfl
theorem wh_yes {c : Env → Store → R Bool} {b : Env → Store → R Fl} {n : Nat} {ρ1 : Env} {S2 : Store} (h : c ρ S = .ok true S1) (hb : b ρ S1 = .ok (.nx ρ1) S2) : whL c b (n + 1) ρ S = whL c b n ρ1 S2 := by
  rw [whL, h]
  show (b ρ S1).bind _ = _
  rw [hb]
  rfl
end
/-- the end of a repr-ing, frozen, def -/
theorem exit_lst {S S1 : Store} {k : Nat} {xs : List Val} (h : S1[k]? = some (.lst xs)) (hk : S.length ≤ k) (hx : Val.belL S.length xs = true) (hpre : ∀ i, i < S.length → S1[i]? = S[i]?) : exitp S (.ref k) S1 = .ok (.fl xs) S := by
  have hlt : k < S1.length := (List.getElem?_eq_some_iff.mp h).1
  have each : ∀ ys : List Val, Val.belL S.length ys = true → ys.mapM (freeze 7 S.length S1) = some ys := by
    intro ys
    induction ys with
    | nil => intro _; rfl
    | cons y ys ih =>
      intro hy
      rw [Val.belL, Bool.and_eq_true] at hy
      rw [List.mapM_cons, show freeze 7 S.length S1 y = some y from by unfold freeze; rw [if_pos hy.1], ih hy.2]
      rfl
  have fr : freeze 8 S.length S1 (.ref k) = some (.fl xs) := by
    unfold freeze
    rw [if_neg (by simp [Val.bel]; omega)]
    simp only [h]
    rw [each xs hx]
    rfl
  have ko : KeepOk S S1 := ⟨by omega, fun i c c' h1 h2 => .inl (by
    have hi := (List.getElem?_eq_some_iff.mp h1).1
    rw [hpre i hi, h1] at h2
    exact (Option.some.inj h2).symm)⟩
  unfold exitp
  rw [fr]
  simp only
  rw [if_pos ko]
  congr 1
  apply List.ext_getElem?
  intro i
  by_cases hi : i < S.length
  · rw [List.getElem?_take_of_lt hi, hpre i hi]
  · rw [List.getElem?_eq_none (by rw [List.length_take]; omega), List.getElem?_eq_none (by omega)]
theorem belL_ints (n : Nat) : ∀ is : List Int, Val.belL n (is.map Val.int) = true
  | [] => rfl
  | i :: is => by
    rw [List.map_cons, Val.belL, belL_ints n is]
    rfl
section
variable {S : Store} {A B A' : Cell} {k : Nat} {xs : List Val} {y : Val}
theorem g_0 : (S ++ [A, B])[S.length]? = some A := by simp
theorem g_1 : (S ++ [A, B])[S.length + 1]? = some B := by simp
theorem w_0 : (S ++ [A, B]).set S.length A' = S ++ [A', B] := by simp
theorem w_1 : (S ++ [A, B]).set (S.length + 1) A' = S ++ [A, A'] := by
  rw [List.set_append_right _ _ (by omega)]
  simp
theorem r_app (h : S[k]? = some (.lst xs)) (hl : xs.length < LINE) : bmV .append (.ref k) [y] S = .ok .non (S.set k (.lst (xs ++ [y]))) := by
  show bmO .append (.ref k) [y] S = _
  unfold bmO
  simp only [h]
  exact chk_pos hl
theorem r_isl (h : S[k]? = some (.lst xs)) : isLst S (.ref k) = true := by
  simp only [isLst, h]
theorem r_p18 {m : Bool} : binV m .pow (.int 10) (.int 18) S = .ok (.int 1000000000000000000) S := by
  have h : CPow 10 18 := ⟨by decide, by decide, by decide⟩
  rw [r_pow, chk_pos h]
  rfl
end
end Ev

set_option Elab.async false
set_option linter.all false
set_option maxRecDepth 100000
set_option maxHeartbeats 0
namespace Lw
open PySem PySem.Spec PyProof.Rows L2 Ev
def top (i : Nat) : Stmt := PySem.Challenge.pw_everystage_k59_work_with_falls.main.body.getD i (.Pass ⟨0, 0, 0, 0⟩)
/-- Worker.__init__: 0 self, 1 work, 2 every, 3 cost, 4 falls -/
def b_Worker___init__ : Ss := (.cons (.setfld (.v 0) "work" (.v 1))
  (.cons (.setfld (.v 0) "every" (.v 2))
  (.cons (.setfld (.v 0) "cost" (.v 3))
  (.cons (.setfld (.v 0) "falls" (.blt true .list (.cons (.v 4) .nil)))
  (.cons (.setfld (.v 0) "moment" (.i 0))
  (.cons (.setfld (.v 0) "kept" (.i 0))
  (.cons (.setfld (.v 0) "lost" (.i 0))
  .nil)))))))
def f_Worker___init__ : Fn := ⟨"Worker.__init__", 5, 5, b_Worker___init__, false⟩
def e_Worker___init__ : Ent := ⟨f_Worker___init__, some "Worker", "__init__", (inClass (top 1) 0), ["self", "work", "every", "cost", "falls"], ["self", "work", "every", "cost", "falls"], [], []⟩
/-- Worker.go_on: 0 self, 1 left, 2 units, 3 end -/
def b_Worker_go_on : Ss := (.cons (.set 1 (.bin false .sub (.fld (.v 0) "work") (.fld (.v 0) "kept")))
  (.cons (.set 2 (.blt false .min (.cons (.v 1) (.cons (.fld (.v 0) "every") .nil))))
  (.cons (.set 3 (.bin false .add (.fld (.v 0) "moment") (.ite (.cmp .eq (.v 2) (.v 1)) (.v 2) (.bin false .add (.v 2) (.fld (.v 0) "cost")))))
  (.cons (.ite (.and (.cmp .gt (.blt false .len (.cons (.fld (.v 0) "falls") .nil)) (.i 0)) (.cmp .lt (.ix (.fld (.v 0) "falls") (.i 0)) (.v 3))) (.cons (.ex (.meth (.v 0) "fall" 0 (.cons (.blt false .min (.cons (.v 2) (.cons (.bin false .sub (.ix (.fld (.v 0) "falls") (.i 0)) (.fld (.v 0) "moment")) .nil))) .nil) .nil))
  .nil) (.cons (.setfld (.v 0) "moment" (.v 3))
  (.cons (.augfld (.v 0) "kept" .add (.v 2))
  (.cons (.ex (.meth (.v 0) "drop_passed" 1 .nil .nil))
  .nil))))
  .nil))))
def f_Worker_go_on : Fn := ⟨"Worker.go_on", 1, 4, b_Worker_go_on, false⟩
def e_Worker_go_on : Ent := ⟨f_Worker_go_on, some "Worker", "go_on", (inClass (top 1) 1), ["self", "left", "units", "end"], ["self"], [], []⟩
/-- Worker.fall: 0 self, 1 done -/
def b_Worker_fall : Ss := (.cons (.setfld (.v 0) "moment" (.bm (.fld (.v 0) "falls") .pop (.cons (.i 0) .nil)))
  (.cons (.augfld (.v 0) "lost" .add (.v 1))
  .nil))
def f_Worker_fall : Fn := ⟨"Worker.fall", 2, 2, b_Worker_fall, false⟩
def e_Worker_fall : Ent := ⟨f_Worker_fall, some "Worker", "fall", (inClass (top 1) 2), ["self", "done"], ["self", "done"], [], []⟩
/-- Worker.drop_passed: 0 self -/
def l_Worker_drop_passed_0 : Ss := (.cons (.ex (.bm (.fld (.v 0) "falls") .pop (.cons (.i 0) .nil)))
  .nil)
def b_Worker_drop_passed : Ss := (.cons (.wh (.and (.cmp .gt (.blt false .len (.cons (.fld (.v 0) "falls") .nil)) (.i 0)) (.cmp .le (.ix (.fld (.v 0) "falls") (.i 0)) (.fld (.v 0) "moment"))) l_Worker_drop_passed_0 [])
  .nil)
def f_Worker_drop_passed : Fn := ⟨"Worker.drop_passed", 1, 1, b_Worker_drop_passed, false⟩
def e_Worker_drop_passed : Ent := ⟨f_Worker_drop_passed, some "Worker", "drop_passed", (inClass (top 1) 3), ["self"], ["self"], [], []⟩
/-- Worker.run: 0 self -/
def l_Worker_run_0 : Ss := (.cons (.ex (.meth (.v 0) "go_on" 1 .nil .nil))
  .nil)
def b_Worker_run : Ss := (.cons (.wh (.cmp .lt (.fld (.v 0) "kept") (.fld (.v 0) "work")) l_Worker_run_0 [])
  .nil)
def f_Worker_run : Fn := ⟨"Worker.run", 1, 1, b_Worker_run, false⟩
def e_Worker_run : Ent := ⟨f_Worker_run, some "Worker", "run", (inClass (top 1) 4), ["self"], ["self"], [], []⟩
/-- worker_done: 0 work, 1 every, 2 cost, 3 falls, 4 worker -/
def b_worker_done : Ss := (.cons (.set 4 (.make true "Worker" 2 (.cons (.v 0) (.cons (.v 1) (.cons (.v 2) (.cons (.v 3) .nil)))) .nil))
  (.cons (.ex (.meth (.v 4) "run" 1 .nil .nil))
  (.cons (.ret (.v 4))
  .nil)))
def f_worker_done : Fn := ⟨"worker_done", 4, 5, b_worker_done, true⟩
def e_worker_done : Ent := ⟨f_worker_done, none, "worker_done", (top 2), ["work", "every", "cost", "falls", "worker"], ["work", "every", "cost", "falls"], [], []⟩
/-- time_with_falls: 0 work, 1 every, 2 cost, 3 falls -/
def b_time_with_falls : Ss := (.cons (.ret (.fld (.call "worker_done" 3 (.cons (.v 0) (.cons (.v 1) (.cons (.v 2) (.cons (.v 3) .nil)))) .nil) "moment"))
  .nil)
def f_time_with_falls : Fn := ⟨"time_with_falls", 4, 4, b_time_with_falls, false⟩
def e_time_with_falls : Ent := ⟨f_time_with_falls, none, "time_with_falls", (top 3), ["work", "every", "cost", "falls"], ["work", "every", "cost", "falls"], [], []⟩
/-- units_again: 0 work, 1 every, 2 cost, 3 falls -/
def b_units_again : Ss := (.cons (.ret (.fld (.call "worker_done" 3 (.cons (.v 0) (.cons (.v 1) (.cons (.v 2) (.cons (.v 3) .nil)))) .nil) "lost"))
  .nil)
def f_units_again : Fn := ⟨"units_again", 4, 4, b_units_again, false⟩
def e_units_again : Ent := ⟨f_units_again, none, "units_again", (top 4), ["work", "every", "cost", "falls"], ["work", "every", "cost", "falls"], [], []⟩
/-- least_every: 0 work, 1 cost, 2 falls, 3 every -/
def b_least_every : Ss := (.cons (.ret (.ix (.blt false .min (.cons (.lc false [3] (.nm 3) (.range (.cons (.i 1) (.cons (.bin false .add (.v 0) (.i 1)) .nil))) .none (.tup (.cons (.call "time_with_falls" 3 (.cons (.v 0) (.cons (.v 3) (.cons (.v 1) (.cons (.v 2) .nil)))) .nil) (.cons (.v 3) .nil)))) .nil)) (.i 1)))
  .nil)
def f_least_every : Fn := ⟨"least_every", 3, 4, b_least_every, false⟩
def e_least_every : Ent := ⟨f_least_every, none, "least_every", (top 5), ["work", "cost", "falls", "every"], ["work", "cost", "falls"], [], []⟩
/-- _law_draws: 0 script, 1 many, 2 rests, 3 cell, 4 draws, 5 k, 6 spot, 7 mixed -/
def l__law_draws_0 : Ss := (.cons (.set 3 (.v 5))
  (.cons (.ite (.cmp .gt (.blt false .len (.cons (.v 0) .nil)) (.i 0)) (.cons (.set 6 (.bin false .mod (.v 5) (.blt false .len (.cons (.v 0) .nil))))
  (.cons (.set 3 (.blt false .int (.cons (.ix (.v 0) (.v 6)) .nil)))
  (.cons (.ite (.and (.cmp .ge (.v 3) (.bin false .pow (.i 10) (.i 18))) (.cmp .gt (.ix (.v 2) (.v 6)) (.i 0))) (.cons (.ex (.bm (.v 4) .append (.cons (.bin false .mod (.blt false .int (.cons (.ix (.v 2) (.v 6)) .nil)) (.i 1000003)) .nil)))
  (.cons (.setix (.v 2) (.v 6) (.bin false .fdiv (.blt false .int (.cons (.ix (.v 2) (.v 6)) .nil)) (.i 1000003)))
  (.cons .cnt
  .nil))) .nil)
  .nil))) .nil)
  (.cons (.set 7 (.bin false .mod (.blt false .int (.cons (.bin false .add (.bin false .add (.bin false .mul (.v 3) (.i 48271)) (.bin false .mul (.v 5) (.i 69621))) (.i 11)) .nil)) (.i 2147483647)))
  (.cons (.set 7 (.bin false .mod (.blt false .int (.cons (.bin false .add (.bin false .fdiv (.bin false .mul (.v 7) (.v 7)) (.i 4096)) (.v 7)) .nil)) (.i 2147483629)))
  (.cons (.ex (.bm (.v 4) .append (.cons (.bin false .mod (.blt false .int (.cons (.bin false .add (.bin false .fdiv (.bin false .mul (.v 7) (.v 7)) (.i 4096)) (.bin false .mul (.v 5) (.i 7919))) .nil)) (.i 2147483629)) .nil)))
  .nil)))))
def b__law_draws : Ss := (.cons (.set 2 (.lc true [3] (.nm 3) (.e (.v 0)) .none (.blt false .abs (.cons (.blt false .int (.cons (.v 3) .nil)) .nil))))
  (.cons (.set 4 (.lst true .nil))
  (.cons (.for_ (.nm 5) (.range (.cons (.v 1) .nil)) l__law_draws_0 [5, 6, 7])
  (.cons (.ret (.v 4))
  .nil))))
def f__law_draws : Fn := ⟨"_law_draws", 2, 8, b__law_draws, true⟩
def e__law_draws : Ent := ⟨f__law_draws, none, "_law_draws", (top 7), ["script", "many", "rests", "cell", "draws", "k", "spot", "mixed"], ["script", "many"], [], []⟩
/-- _law_take: 0 hand, 1 many, 2 spot, 3 draws -/
def b__law_take : Ss := (.cons (.set 2 (.ix (.v 0) (.i 1)))
  (.cons (.setix (.v 0) (.i 1) (.bin false .add (.v 2) (.i 1)))
  (.cons (.set 3 (.ix (.v 0) (.i 0)))
  (.cons (.ite (.cmp .ge (.v 2) (.blt false .len (.cons (.v 3) .nil))) (.cons (.ret (.i 0))
  .nil) .nil)
  (.cons (.ret (.bin false .mod (.bin false .fdiv (.blt false .int (.cons (.ix (.v 3) (.v 2)) .nil)) (.i 7)) (.v 1)))
  .nil)))))
def f__law_take : Fn := ⟨"_law_take", 2, 4, b__law_take, false⟩
def e__law_take : Ent := ⟨f__law_take, none, "_law_take", (top 8), ["hand", "many", "spot", "draws"], ["hand", "many"], [], []⟩
/-- _law_runs: 0 work, 1 every, 2 cost, 3 falls, 4 time, 5 done, 6 lost, 7 spot, 8 step, 9 units, 10 end -/
def l__law_runs_0 : Ss := (.cons (.set 7 (.bin false .add (.v 7) (.i 1)))
  .nil)
def l__law_runs_1 : Ss := (.cons (.ite (.cmp .ge (.v 5) (.v 0)) (.cons .brk
  .nil) .nil)
  (.cons (.set 9 (.blt false .min (.cons (.v 1) (.cons (.bin false .sub (.v 0) (.v 5)) .nil))))
  (.cons (.set 10 (.bin false .add (.v 4) (.v 9)))
  (.cons (.ite (.cmp .lt (.bin false .add (.v 5) (.v 9)) (.v 0)) (.cons (.set 10 (.bin false .add (.v 10) (.v 2)))
  .nil) .nil)
  (.cons (.wh (.and (.cmp .lt (.v 7) (.blt false .len (.cons (.v 3) .nil))) (.cmp .le (.ix (.v 3) (.v 7)) (.v 4))) l__law_runs_0 [])
  (.cons (.ite (.and (.cmp .lt (.v 7) (.blt false .len (.cons (.v 3) .nil))) (.cmp .lt (.ix (.v 3) (.v 7)) (.v 10))) (.cons (.set 6 (.bin false .add (.v 6) (.blt false .min (.cons (.v 9) (.cons (.bin false .sub (.ix (.v 3) (.v 7)) (.v 4)) .nil)))))
  (.cons (.set 4 (.ix (.v 3) (.v 7)))
  .nil)) (.cons (.set 4 (.v 10))
  (.cons (.set 5 (.bin false .add (.v 5) (.v 9)))
  .nil)))
  .nil))))))
def b__law_runs : Ss := (.cons (.set 4 (.i 0))
  (.cons (.set 5 (.i 0))
  (.cons (.set 6 (.i 0))
  (.cons (.set 7 (.i 0))
  (.cons (.for_ (.nm 8) (.range (.cons (.bin false .add (.bin false .add (.v 0) (.blt false .len (.cons (.v 3) .nil))) (.i 1)) .nil)) l__law_runs_1 [8, 9, 10])
  (.cons (.ret (.lst false (.cons (.v 4) (.cons (.v 6) .nil))))
  .nil))))))
def f__law_runs : Fn := ⟨"_law_runs", 4, 11, b__law_runs, false⟩
def e__law_runs : Ent := ⟨f__law_runs, none, "_law_runs", (top 9), ["work", "every", "cost", "falls", "time", "done", "lost", "spot", "step", "units", "end"], ["work", "every", "cost", "falls"], [], []⟩
/-- _law_drawn_falls: 0 hand, 1 work, 2 every, 3 cost, 4 falls, 5 moment, 6 k, 7 step -/
def l__law_drawn_falls_0 : Ss := (.cons (.set 7 (.bin false .add (.i 1) (.ix (.lst false (.cons (.call "_law_take" 0 (.cons (.v 0) (.cons (.i 4) .nil)) .nil) (.cons (.call "_law_take" 0 (.cons (.v 0) (.cons (.bin false .add (.v 1) (.i 3)) .nil)) .nil) (.cons (.bin false .sub (.bin false .add (.v 2) (.v 3)) (.i 1)) (.cons (.bin false .sub (.v 2) (.i 1)) .nil))))) (.call "_law_take" 0 (.cons (.v 0) (.cons (.i 4) .nil)) .nil))))
  (.cons (.set 5 (.bin false .add (.v 5) (.blt false .max (.cons (.i 1) (.cons (.v 7) .nil)))))
  (.cons (.ex (.bm (.v 4) .append (.cons (.v 5) .nil)))
  .nil)))
def b__law_drawn_falls : Ss := (.cons (.set 4 (.lst true .nil))
  (.cons (.set 5 (.i 0))
  (.cons (.for_ (.nm 6) (.range (.cons (.ix (.lst false (.cons (.i 0) (.cons (.i 1) (.cons (.i 2) (.cons (.i 3) (.cons (.i 6) (.cons (.i 20) .nil))))))) (.call "_law_take" 0 (.cons (.v 0) (.cons (.i 6) .nil)) .nil)) .nil)) l__law_drawn_falls_0 [6, 7])
  (.cons (.ret (.v 4))
  .nil))))
def f__law_drawn_falls : Fn := ⟨"_law_drawn_falls", 4, 8, b__law_drawn_falls, true⟩
def e__law_drawn_falls : Ent := ⟨f__law_drawn_falls, none, "_law_drawn_falls", (top 10), ["hand", "work", "every", "cost", "falls", "moment", "k", "step"], ["hand", "work", "every", "cost"], [], []⟩
/-- law: 0 script, 1 hand, 2 k, 3 work, 4 every, 5 cost, 6 falls, 7 passed, 8 time, 9 lost, 10 small, 11 times, 12 more -/
def l_law_0 : Ss := (.cons (.set 3 (.ix (.lst false (.cons (.call "_law_take" 0 (.cons (.v 1) (.cons (.i 12) .nil)) .nil) (.cons (.call "_law_take" 0 (.cons (.v 1) (.cons (.i 201) .nil)) .nil) .nil))) (.call "_law_take" 0 (.cons (.v 1) (.cons (.i 2) .nil)) .nil)))
  (.cons (.set 4 (.bin false .add (.i 1) (.ix (.lst false (.cons (.call "_law_take" 0 (.cons (.v 1) (.cons (.i 5) .nil)) .nil) (.cons (.call "_law_take" 0 (.cons (.v 1) (.cons (.bin false .add (.v 3) (.i 2)) .nil)) .nil) .nil))) (.call "_law_take" 0 (.cons (.v 1) (.cons (.i 2) .nil)) .nil))))
  (.cons (.set 5 (.ix (.lst false (.cons (.call "_law_take" 0 (.cons (.v 1) (.cons (.i 4) .nil)) .nil) (.cons (.call "_law_take" 0 (.cons (.v 1) (.cons (.i 51) .nil)) .nil) (.cons (.i 0) .nil)))) (.call "_law_take" 0 (.cons (.v 1) (.cons (.i 3) .nil)) .nil)))
  (.cons (.set 6 (.call "_law_drawn_falls" 3 (.cons (.v 1) (.cons (.v 3) (.cons (.v 4) (.cons (.v 5) .nil)))) .nil))
  (.cons (.set 7 (.ix (.lst false (.cons (.blt false .list (.cons (.v 6) .nil)) (.cons (.blt false .tuple (.cons (.v 6) .nil)) .nil))) (.call "_law_take" 0 (.cons (.v 1) (.cons (.i 2) .nil)) .nil)))
  (.cons (.asg (.tup [(.nm 8), (.nm 9)]) (.call "_law_runs" 3 (.cons (.v 3) (.cons (.v 4) (.cons (.v 5) (.cons (.v 6) .nil)))) .nil))
  (.cons (.ite (.cmp .ne (.blt false .repr (.cons (.call "time_with_falls" 3 .nil (.cons (.v 3) (.cons (.v 4) (.cons (.v 5) (.cons (.v 7) .nil))))) .nil)) (.blt false .repr (.cons (.v 8) .nil))) (.cons (.ret (.b false))
  .nil) .nil)
  (.cons (.ite (.or (.cmp .ne (.blt false .repr (.cons (.call "units_again" 3 .nil (.cons (.v 3) (.cons (.v 4) (.cons (.v 5) (.cons (.v 7) .nil))))) .nil)) (.blt false .repr (.cons (.v 9) .nil))) (.cmp .ne (.blt false .list (.cons (.v 7) .nil)) (.v 6))) (.cons (.ret (.b false))
  .nil) .nil)
  (.cons (.ite (.and (.cmp .gt (.v 3) (.i 0)) (.cmp .ne (.call "time_with_falls" 3 (.cons (.v 3) (.cons (.v 4) (.cons (.v 5) (.cons (.lst false .nil) .nil)))) .nil) (.bin false .add (.v 3) (.bin false .mul (.v 5) (.bin false .fdiv (.bin false .sub (.v 3) (.i 1)) (.v 4)))))) (.cons (.ret (.b false))
  .nil) .nil)
  (.cons (.set 10 (.bin false .add (.i 1) (.bin false .mod (.blt false .int (.cons (.v 3) .nil)) (.i 25))))
  (.cons (.set 11 (.lc false [12] (.nm 12) (.range (.cons (.i 1) (.cons (.bin false .add (.v 10) (.i 1)) .nil))) .none (.ix (.call "_law_runs" 3 (.cons (.v 10) (.cons (.v 12) (.cons (.v 5) (.cons (.v 6) .nil)))) .nil) (.i 0))))
  (.cons (.ite (.cmp .ne (.blt false .repr (.cons (.call "least_every" 4 .nil (.cons (.v 10) (.cons (.v 5) (.cons (.v 7) .nil)))) .nil)) (.blt false .repr (.cons (.bin false .add (.i 1) (.bm (.v 11) .index (.cons (.blt false .min (.cons (.v 11) .nil)) .nil))) .nil))) (.cons (.ret (.b false))
  .nil) .nil)
  (.cons (.ite (.cmp .ne (.blt false .list (.cons (.v 7) .nil)) (.v 6)) (.cons (.ret (.b false))
  .nil) .nil)
  .nil)))))))))))))
def b_law : Ss := (.cons (.set 1 (.lst true (.cons (.call "_law_draws" 0 (.cons (.v 0) (.cons (.i 100) .nil)) .nil) (.cons (.i 0) .nil))))
  (.cons (.for_ (.nm 2) (.range (.cons (.i 3) .nil)) l_law_0 [2, 3, 4, 5, 6, 7, 8, 9, 10, 11, 12])
  (.cons (.ret (.b true))
  .nil)))
def f_law : Fn := ⟨"law", 1, 13, b_law, true⟩
def e_law : Ent := ⟨f_law, none, "law", (top 11), ["script", "hand", "k", "work", "every", "cost", "falls", "passed", "time", "lost", "small", "times", "more"], ["script"], [], []⟩
def src : Src := ⟨[e_Worker___init__, e_Worker_go_on, e_Worker_fall, e_Worker_drop_passed, e_Worker_run, e_worker_done, e_time_with_falls, e_units_again, e_least_every, e__law_draws, e__law_take, e__law_runs, e__law_drawn_falls, e_law], [⟨"Worker", ["work", "every", "cost", "falls", "moment", "kept", "lost"], [("go_on", "Worker.go_on"), ("fall", "Worker.fall"), ("drop_passed", "Worker.drop_passed"), ("run", "Worker.run")], some "Worker.__init__"⟩], [], [("Worker.fall", 2, [], 0), ("Worker.drop_passed", 1, [], 1), ("Worker.go_on", 1, [], 1), ("Worker.__init__", 5, [], 2), ("Worker.run", 1, [], 1), ("worker_done", 4, [], 3), ("time_with_falls", 4, [], 3), ("_law_take", 2, [], 0), ("_law_draws", 2, [], 0), ("_law_drawn_falls", 4, [], 3), ("_law_runs", 4, [], 3), ("time_with_falls", 0, ["work", "every", "cost", "falls"], 3), ("units_again", 0, ["work", "every", "cost", "falls"], 3), ("least_every", 0, ["work", "cost", "falls"], 4)], [[0, 1], [0], [0, 1, 2, 3, 4], [0, 1, 2, 3], [0, 1, 2]]⟩
theorem tab_ok : src.tabOk = true := by decide +kernel
theorem ck_Worker___init__ : Ent.ok src.T e_Worker___init__ = true := by decide +kernel
theorem ck_Worker_go_on : Ent.ok src.T e_Worker_go_on = true := by decide +kernel
theorem ck_Worker_fall : Ent.ok src.T e_Worker_fall = true := by decide +kernel
theorem ck_Worker_drop_passed : Ent.ok src.T e_Worker_drop_passed = true := by decide +kernel
theorem ck_Worker_run : Ent.ok src.T e_Worker_run = true := by decide +kernel
theorem ck_worker_done : Ent.ok src.T e_worker_done = true := by decide +kernel
theorem ck_time_with_falls : Ent.ok src.T e_time_with_falls = true := by decide +kernel
theorem ck_units_again : Ent.ok src.T e_units_again = true := by decide +kernel
theorem ck_least_every : Ent.ok src.T e_least_every = true := by decide +kernel
theorem ck__law_draws : Ent.ok src.T e__law_draws = true := by decide +kernel
theorem ck__law_take : Ent.ok src.T e__law_take = true := by decide +kernel
theorem ck__law_runs : Ent.ok src.T e__law_runs = true := by decide +kernel
theorem ck__law_drawn_falls : Ent.ok src.T e__law_drawn_falls = true := by decide +kernel
theorem ck_law : Ent.ok src.T e_law = true := by decide +kernel
theorem ck_all : ∀ e ∈ src.ents, e.ok src.T = true := (List.forall_mem_cons.mpr ⟨ck_Worker___init__, (List.forall_mem_cons.mpr ⟨ck_Worker_go_on, (List.forall_mem_cons.mpr ⟨ck_Worker_fall, (List.forall_mem_cons.mpr ⟨ck_Worker_drop_passed, (List.forall_mem_cons.mpr ⟨ck_Worker_run, (List.forall_mem_cons.mpr ⟨ck_worker_done, (List.forall_mem_cons.mpr ⟨ck_time_with_falls, (List.forall_mem_cons.mpr ⟨ck_units_again, (List.forall_mem_cons.mpr ⟨ck_least_every, (List.forall_mem_cons.mpr ⟨ck__law_draws, (List.forall_mem_cons.mpr ⟨ck__law_take, (List.forall_mem_cons.mpr ⟨ck__law_runs, (List.forall_mem_cons.mpr ⟨ck__law_drawn_falls, (List.forall_mem_cons.mpr ⟨ck_law, (List.forall_mem_nil _)⟩)⟩)⟩)⟩)⟩)⟩)⟩)⟩)⟩)⟩)⟩)⟩)⟩)⟩)
theorem sh_0 : ShN e_Worker_fall 2 [] [0, 1] := ⟨rfl, fun _ _ _ _ _ _ us ws h1 h2 => match us, ws, h1, h2 with
  | [u0, u1], [], _, _ => ⟨[u0, u1], rfl, rfl, by kernel_rfl⟩⟩
theorem sh_1 : ShN e_Worker_drop_passed 1 [] [0] := ⟨rfl, fun _ _ _ _ _ _ us ws h1 h2 => match us, ws, h1, h2 with
  | [u0], [], _, _ => ⟨[u0], rfl, rfl, by kernel_rfl⟩⟩
theorem sh_2 : ShN e_Worker_go_on 1 [] [0] := ⟨rfl, fun _ _ _ _ _ _ us ws h1 h2 => match us, ws, h1, h2 with
  | [u0], [], _, _ => ⟨[u0], rfl, rfl, by kernel_rfl⟩⟩
theorem sh_3 : ShN e_Worker___init__ 5 [] [0, 1, 2, 3, 4] := ⟨rfl, fun _ _ _ _ _ _ us ws h1 h2 => match us, ws, h1, h2 with
  | [u0, u1, u2, u3, u4], [], _, _ => ⟨[u0, u1, u2, u3, u4], rfl, rfl, by kernel_rfl⟩⟩
theorem sh_4 : ShN e_Worker_run 1 [] [0] := ⟨rfl, fun _ _ _ _ _ _ us ws h1 h2 => match us, ws, h1, h2 with
  | [u0], [], _, _ => ⟨[u0], rfl, rfl, by kernel_rfl⟩⟩
theorem sh_5 : ShN e_worker_done 4 [] [0, 1, 2, 3] := ⟨rfl, fun _ _ _ _ _ _ us ws h1 h2 => match us, ws, h1, h2 with
  | [u0, u1, u2, u3], [], _, _ => ⟨[u0, u1, u2, u3], rfl, rfl, by kernel_rfl⟩⟩
theorem sh_6 : ShN e_time_with_falls 4 [] [0, 1, 2, 3] := ⟨rfl, fun _ _ _ _ _ _ us ws h1 h2 => match us, ws, h1, h2 with
  | [u0, u1, u2, u3], [], _, _ => ⟨[u0, u1, u2, u3], rfl, rfl, by kernel_rfl⟩⟩
theorem sh_7 : ShN e__law_take 2 [] [0, 1] := ⟨rfl, fun _ _ _ _ _ _ us ws h1 h2 => match us, ws, h1, h2 with
  | [u0, u1], [], _, _ => ⟨[u0, u1], rfl, rfl, by kernel_rfl⟩⟩
theorem sh_8 : ShN e__law_draws 2 [] [0, 1] := ⟨rfl, fun _ _ _ _ _ _ us ws h1 h2 => match us, ws, h1, h2 with
  | [u0, u1], [], _, _ => ⟨[u0, u1], rfl, rfl, by kernel_rfl⟩⟩
theorem sh_9 : ShN e__law_drawn_falls 4 [] [0, 1, 2, 3] := ⟨rfl, fun _ _ _ _ _ _ us ws h1 h2 => match us, ws, h1, h2 with
  | [u0, u1, u2, u3], [], _, _ => ⟨[u0, u1, u2, u3], rfl, rfl, by kernel_rfl⟩⟩
theorem sh_10 : ShN e__law_runs 4 [] [0, 1, 2, 3] := ⟨rfl, fun _ _ _ _ _ _ us ws h1 h2 => match us, ws, h1, h2 with
  | [u0, u1, u2, u3], [], _, _ => ⟨[u0, u1, u2, u3], rfl, rfl, by kernel_rfl⟩⟩
theorem sh_11 : ShN e_time_with_falls 0 ["work", "every", "cost", "falls"] [0, 1, 2, 3] := ⟨rfl, fun _ _ _ _ _ _ us ws h1 h2 => match us, ws, h1, h2 with
  | [], [w0, w1, w2, w3], _, _ => ⟨[w0, w1, w2, w3], rfl, rfl, by kernel_rfl⟩⟩
theorem sh_12 : ShN e_units_again 0 ["work", "every", "cost", "falls"] [0, 1, 2, 3] := ⟨rfl, fun _ _ _ _ _ _ us ws h1 h2 => match us, ws, h1, h2 with
  | [], [w0, w1, w2, w3], _, _ => ⟨[w0, w1, w2, w3], rfl, rfl, by kernel_rfl⟩⟩
theorem sh_13 : ShN e_least_every 0 ["work", "cost", "falls"] [0, 1, 2] := ⟨rfl, fun _ _ _ _ _ _ us ws h1 h2 => match us, ws, h1, h2 with
  | [], [w0, w1, w2], _, _ => ⟨[w0, w1, w2], rfl, rfl, by kernel_rfl⟩⟩
theorem sh_all : ∀ p ∈ src.shs, src.ShP p := (List.forall_mem_cons.mpr ⟨⟨e_Worker_fall, _, rfl, rfl, sh_0⟩, (List.forall_mem_cons.mpr ⟨⟨e_Worker_drop_passed, _, rfl, rfl, sh_1⟩, (List.forall_mem_cons.mpr ⟨⟨e_Worker_go_on, _, rfl, rfl, sh_2⟩, (List.forall_mem_cons.mpr ⟨⟨e_Worker___init__, _, rfl, rfl, sh_3⟩, (List.forall_mem_cons.mpr ⟨⟨e_Worker_run, _, rfl, rfl, sh_4⟩, (List.forall_mem_cons.mpr ⟨⟨e_worker_done, _, rfl, rfl, sh_5⟩, (List.forall_mem_cons.mpr ⟨⟨e_time_with_falls, _, rfl, rfl, sh_6⟩, (List.forall_mem_cons.mpr ⟨⟨e__law_take, _, rfl, rfl, sh_7⟩, (List.forall_mem_cons.mpr ⟨⟨e__law_draws, _, rfl, rfl, sh_8⟩, (List.forall_mem_cons.mpr ⟨⟨e__law_drawn_falls, _, rfl, rfl, sh_9⟩, (List.forall_mem_cons.mpr ⟨⟨e__law_runs, _, rfl, rfl, sh_10⟩, (List.forall_mem_cons.mpr ⟨⟨e_time_with_falls, _, rfl, rfl, sh_11⟩, (List.forall_mem_cons.mpr ⟨⟨e_units_again, _, rfl, rfl, sh_12⟩, (List.forall_mem_cons.mpr ⟨⟨e_least_every, _, rfl, rfl, sh_13⟩, (List.forall_mem_nil _)⟩)⟩)⟩)⟩)⟩)⟩)⟩)⟩)⟩)⟩)⟩)⟩)⟩)⟩)
theorem sh_law : ShN e_law 1 [] [0] := ⟨rfl, fun _ _ _ _ _ _ us ws h1 h2 => match us, ws, h1, h2 with
  | [u0], [], _, _ => ⟨[u0], rfl, rfl, by kernel_rfl⟩⟩
abbrev RowW : PySem.W.OpenRow := PySem.W.OpenLaw.row PySem.Challenge.rw_everystage_k59_work_with_falls
abbrev hk : PySem.W.Hook := He.hookD 4 src.fa src.fn
def ob (s : PySem.W.SharedT) : He.AlD := He.obsDG 4 src.fa src.fn (HandSHeadRun.getT s)
theorem ob_eq (s : PySem.W.SharedT) : ob s = hk.obs s.abs := He.obsDG_eq (HandSHeadRun.getT_eq s)
def others : List Str := ["__name__", "Worker", "worker_done", "time_with_falls", "units_again", "least_every", "_law_draws", "_law_take", "_law_runs", "_law_drawn_falls"]
theorem run (w : World) : HandSHeadRun.RunEq RowW (PySem.W.view RowW.prog [11]) hk ob 2000 others w := by
  intro os
  kernel_rfl
end Lw

set_option Elab.async false
set_option linter.all false
set_option maxRecDepth 100000
set_option maxHeartbeats 400000
namespace Lw
open PySem Ev
theorem find_take : src.P.fns.find? (fun f => f.qual == "_law_take") = some f__law_take := by rfl
structure Hand (h : Nat) (S : Store) (is : List Int) (p : Int) : Prop where
  at_ : S[h]? = some (.lst [.fl (is.map Val.int), .int p])
  nn : 0 ≤ p
theorem take_ok {fuel k h : Nat} {S : Store} {is : List Int} {p : Int} {m : Int} (H : Hand h S is p) (hm : 0 < m) : ∃ r, 0 ≤ r ∧ r < m ∧ (lev src.P fuel (k + 1)).call "_law_take" [.ref h, .int m] S = .ok (.int r) (S.set h (.lst [.fl (is.map Val.int), .int (p + 1)])) := by
  have h1 := H.at_
  have hlt : h < S.length := (List.getElem?_eq_some_iff.mp h1).1
  rw [lev_call find_take, run_eq rfl]
  have h2 : setixV (.ref h) (.int 1) (.int (p + 1)) S = some (S.set h (.lst [.fl (is.map Val.int), .int (p + 1)])) := r_setix h1 (n := 1) rfl
  have h3 : (S.set h (.lst [.fl (is.map Val.int), .int (p + 1)]))[h]? = some (.lst [.fl (is.map Val.int), .int (p + 1)]) := List.getElem?_set_self hlt
  simp -implicitDefEqProofs [Ev.R.ok_bind, e_v, e_lk, e_i, e_b, e_s, e_n, e_bin, e_bin1, e_bin2, e_neg, e_neg1, e_not, e_not1, e_not2, e_and, e_and1, e_and2, e_or, e_or1, e_or2, e_cmp, e_cmp1, e_cmp2, e_bl, e_ite, e_ite1, e_tup, e_tup1, e_lst, e_lst1, e_ix, e_ix1, e_ix2, e_fld, e_fld1, e_es0, e_es, e_es1, e_es2, e_call, e_call1, e_call2, e_call3, e_make, e_make1, e_make2, e_meth, e_meth1, e_meth2, e_meth3, e_blt, e_blt1, e_bm, e_bm1, e_bm2, u_not, u_not1, u_and, u_and1, u_or, u_or1, u_v, u_b, u_tr, u_cmp, u_cmp1, u_cmp2, u_ch, u_ch1, u_ch2, u_ch3, u_ix, u_fld, u_meth, u_blt, u_call, s_nil, s_cons, s_nx, s_rt, s_bk, s_ct, s_set, s_set1, s_asg, s_asg1, s_asg2, s_par, s_par1, s_par2, s_six, s_six1, s_six2, s_six3, s_ost, s_sf, s_sf1, s_sf2, s_ex, s_ex1, s_ret, s_ret1, s_retn, s_if, s_if1, s_pass, s_brk, s_cnt, e_lc, e_lc1, c_no, c_so, kC_ok, kSo_ok, i_e, i_rl, i_fl, i_tup, i_rg, s_for, s_for1, step_ok, cl_nx, cl_ct, cl_bk, cl_rt, s_wh, r_add, r_sub, r_mulR, r_mulL, r_modL, r_fdivL, r_tt, r_p18, r_lt, r_le, r_gt, r_ge, r_eq, r_ne, r_ofO, r_ixf, r_ixr, r_ixt, r_lenf, r_lenr, r_lent, r_int, r_abs, r_min2, r_max2, r_ti, r_tb, end_rt, end_nx, end_rt_t, end_nx_t, chk_true, atI_0, atI_1, atI_2, atI_nat, bltV, asg, asgL, clr, f__law_take, b__law_take, r_ixs h1, h2, r_ixs h3]
  by_cases hp : (is.length : Int) ≤ p
  · exact ⟨0, by omega, hm, by simp -implicitDefEqProofs [Ev.R.ok_bind, e_v, e_lk, e_i, e_b, e_s, e_n, e_bin, e_bin1, e_bin2, e_neg, e_neg1, e_not, e_not1, e_not2, e_and, e_and1, e_and2, e_or, e_or1, e_or2, e_cmp, e_cmp1, e_cmp2, e_bl, e_ite, e_ite1, e_tup, e_tup1, e_lst, e_lst1, e_ix, e_ix1, e_ix2, e_fld, e_fld1, e_es0, e_es, e_es1, e_es2, e_call, e_call1, e_call2, e_call3, e_make, e_make1, e_make2, e_meth, e_meth1, e_meth2, e_meth3, e_blt, e_blt1, e_bm, e_bm1, e_bm2, u_not, u_not1, u_and, u_and1, u_or, u_or1, u_v, u_b, u_tr, u_cmp, u_cmp1, u_cmp2, u_ch, u_ch1, u_ch2, u_ch3, u_ix, u_fld, u_meth, u_blt, u_call, s_nil, s_cons, s_nx, s_rt, s_bk, s_ct, s_set, s_set1, s_asg, s_asg1, s_asg2, s_par, s_par1, s_par2, s_six, s_six1, s_six2, s_six3, s_ost, s_sf, s_sf1, s_sf2, s_ex, s_ex1, s_ret, s_ret1, s_retn, s_if, s_if1, s_pass, s_brk, s_cnt, e_lc, e_lc1, c_no, c_so, kC_ok, kSo_ok, i_e, i_rl, i_fl, i_tup, i_rg, s_for, s_for1, step_ok, cl_nx, cl_ct, cl_bk, cl_rt, s_wh, r_add, r_sub, r_mulR, r_mulL, r_modL, r_fdivL, r_tt, r_p18, r_lt, r_le, r_gt, r_ge, r_eq, r_ne, r_ofO, r_ixf, r_ixr, r_ixt, r_lenf, r_lenr, r_lent, r_int, r_abs, r_min2, r_max2, r_ti, r_tb, end_rt, end_nx, end_rt_t, end_nx_t, chk_true, atI_0, atI_1, atI_2, atI_nat, bltV, asg, asgL, clr, hp]⟩
  · obtain ⟨n, rfl⟩ : ∃ n : Nat, p = (n : Int) := ⟨p.toNat, by have := H.nn; omega⟩
    have hn : n < is.length := by omega
    refine ⟨(is[n].fdiv 7).fmod m, Int.fmod_nonneg_of_pos _ hm, Int.fmod_lt_of_pos _ hm, ?_⟩
    simp -implicitDefEqProofs [Ev.R.ok_bind, e_v, e_lk, e_i, e_b, e_s, e_n, e_bin, e_bin1, e_bin2, e_neg, e_neg1, e_not, e_not1, e_not2, e_and, e_and1, e_and2, e_or, e_or1, e_or2, e_cmp, e_cmp1, e_cmp2, e_bl, e_ite, e_ite1, e_tup, e_tup1, e_lst, e_lst1, e_ix, e_ix1, e_ix2, e_fld, e_fld1, e_es0, e_es, e_es1, e_es2, e_call, e_call1, e_call2, e_call3, e_make, e_make1, e_make2, e_meth, e_meth1, e_meth2, e_meth3, e_blt, e_blt1, e_bm, e_bm1, e_bm2, u_not, u_not1, u_and, u_and1, u_or, u_or1, u_v, u_b, u_tr, u_cmp, u_cmp1, u_cmp2, u_ch, u_ch1, u_ch2, u_ch3, u_ix, u_fld, u_meth, u_blt, u_call, s_nil, s_cons, s_nx, s_rt, s_bk, s_ct, s_set, s_set1, s_asg, s_asg1, s_asg2, s_par, s_par1, s_par2, s_six, s_six1, s_six2, s_six3, s_ost, s_sf, s_sf1, s_sf2, s_ex, s_ex1, s_ret, s_ret1, s_retn, s_if, s_if1, s_pass, s_brk, s_cnt, e_lc, e_lc1, c_no, c_so, kC_ok, kSo_ok, i_e, i_rl, i_fl, i_tup, i_rg, s_for, s_for1, step_ok, cl_nx, cl_ct, cl_bk, cl_rt, s_wh, r_add, r_sub, r_mulR, r_mulL, r_modL, r_fdivL, r_tt, r_p18, r_lt, r_le, r_gt, r_ge, r_eq, r_ne, r_ofO, r_ixf, r_ixr, r_ixt, r_lenf, r_lenr, r_lent, r_int, r_abs, r_min2, r_max2, r_ti, r_tb, end_rt, end_nx, end_rt_t, end_nx_t, chk_true, atI_0, atI_1, atI_2, atI_nat, bltV, asg, asgL, clr, hp, List.getElem?_eq_getElem hn, r_modP hm]
theorem find_draws : src.P.fns.find? (fun f => f.qual == "_law_draws") = some f__law_draws := by rfl
theorem le_line {n : Nat} (h : n ≤ 100000) : n ≤ LINE := Nat.le_trans h (by decide)
theorem lt_line {n : Nat} (h : n < 100000) : n < LINE := Nat.lt_of_lt_of_le h (by decide)
theorem rests_ok {G : Gm} {ρ : Ev.Env} (h : ρ.length = 8) : ∀ (ns : List Int) (S : Store), lcL [] (lcS G ρ [3] (.nm 3) .none (.blt false .abs (.cons (.blt false .int (.cons (.v 3) .nil)) .nil))) (ns.map Val.int) S = .ok (ns.map fun n => Val.int (if n < 0 then -n else n)) S
  | [], S => lcL_nil_ (gdOk_nil S)
  | n :: ns, S => by
    rw [List.map_cons, lcL_cons_ (gdOk_nil S), lcS_eq (h := rfl)]
    have e : (List.set ρ 3 (some (Val.int n)))[3]? = some (some (Val.int n)) := by
      rw [List.getElem?_set_self]
      omega
    simp -implicitDefEqProofs [Ev.R.ok_bind, e_v, e_lk, e_i, e_b, e_s, e_n, e_bin, e_bin1, e_bin2, e_neg, e_neg1, e_not, e_not1, e_not2, e_and, e_and1, e_and2, e_or, e_or1, e_or2, e_cmp, e_cmp1, e_cmp2, e_bl, e_ite, e_ite1, e_tup, e_tup1, e_lst, e_lst1, e_ix, e_ix1, e_ix2, e_fld, e_fld1, e_es0, e_es, e_es1, e_es2, e_call, e_call1, e_call2, e_call3, e_make, e_make1, e_make2, e_meth, e_meth1, e_meth2, e_meth3, e_blt, e_blt1, e_bm, e_bm1, e_bm2, u_not, u_not1, u_and, u_and1, u_or, u_or1, u_v, u_b, u_tr, u_cmp, u_cmp1, u_cmp2, u_ch, u_ch1, u_ch2, u_ch3, u_ix, u_fld, u_meth, u_blt, u_call, s_nil, s_cons, s_nx, s_rt, s_bk, s_ct, s_set, s_set1, s_asg, s_asg1, s_asg2, s_par, s_par1, s_par2, s_six, s_six1, s_six2, s_six3, s_ost, s_sf, s_sf1, s_sf2, s_ex, s_ex1, s_ret, s_ret1, s_retn, s_if, s_if1, s_pass, s_brk, s_cnt, e_lc, e_lc1, c_no, c_so, kC_ok, kSo_ok, i_e, i_rl, i_fl, i_tup, i_rg, s_for, s_for1, step_ok, cl_nx, cl_ct, cl_bk, cl_rt, s_wh, r_add, r_sub, r_mulR, r_mulL, r_modL, r_fdivL, r_tt, r_p18, r_lt, r_le, r_gt, r_ge, r_eq, r_ne, r_ofO, r_ixf, r_ixr, r_ixt, r_lenf, r_lenr, r_lent, r_int, r_abs, r_min2, r_max2, r_ti, r_tb, end_rt, end_nx, end_rt_t, end_nx_t, chk_true, atI_0, atI_1, atI_2, atI_nat, bltV, asg, asgL, clr, e, rests_ok h ns S, optCons]
def drawsInv (ns : List Int) (many : Nat) (S : Store) (i : Nat) (ρ : Ev.Env) (S' : Store) : Prop := ∃ (c : Option Val) (rs ds : List Int), ρ = [some (Val.rl (ns.map Val.int)), some (Val.int many), some (Val.ref S.length), c, some (Val.ref (S.length + 1)), none, none, none] ∧
  S' = S ++ [Cell.lst (rs.map Val.int), Cell.lst (ds.map Val.int)] ∧ rs.length = ns.length ∧ ds.length = i
def mixA (c i : Int) : Int := (c * 48271 + i * 69621 + 11).fmod 2147483647
def mixB (m : Int) : Int := ((m * m).fdiv 4096 + m).fmod 2147483629
def mixC (m i : Int) : Int := ((m * m).fdiv 4096 + i * 7919).fmod 2147483629
theorem mixA_b (c i : Int) : 0 ≤ mixA c i ∧ mixA c i < 2147483647 := ⟨Int.fmod_nonneg_of_pos _ (by decide), Int.fmod_lt_of_pos _ (by decide)⟩
theorem mixB_b (m : Int) : 0 ≤ mixB m ∧ mixB m < 2147483629 := ⟨Int.fmod_nonneg_of_pos _ (by decide), Int.fmod_lt_of_pos _ (by decide)⟩
theorem draws_step {G : Gm} (ns : List Int) (many : Nat) (S : Store) (i : Nat) (hi : i < 1000) (hl : ns.length ≤ 63) (ρ : Ev.Env) (S' : Store) (h : drawsInv ns many S i ρ S') : ∃ ρ2 S2, (stepF G (.nm 5) l__law_draws_0 [5, 6, 7] (.int i) ρ S' = .ok (.nx ρ2) S2 ∨ stepF G (.nm 5) l__law_draws_0 [5, 6, 7] (.int i) ρ S' = .ok (.ct ρ2) S2) ∧ drawsInv ns many S (i + 1) ρ2 S2 := by
  obtain ⟨c0, rs, ds, rfl, rfl, hrs, hds⟩ := h
  rw [stepF_eq (h := rfl)]
  have e1 : ∀ c i : Int, (c * 48271 + i * 69621 + 11).fmod 2147483647 = mixA c i := fun _ _ => rfl
  have e2 : ∀ m : Int, ((m * m).fdiv 4096 + m).fmod 2147483629 = mixB m := fun _ => rfl
  have e3 : ∀ m i : Int, ((m * m).fdiv 4096 + i * 7919).fmod 2147483629 = mixC m i := fun _ _ => rfl
  have m1 : ∀ (c i : Int) (S : Store), binV false .mul (.int (mixA c i)) (.int (mixA c i)) S = .ok (.int (mixA c i * mixA c i)) S := fun c i S => by
    have := mixA_b c i
    exact r_mulP ⟨by omega, by omega⟩
  have m2 : ∀ (m : Int) (S : Store), binV false .mul (.int (mixB m)) (.int (mixB m)) S = .ok (.int (mixB m * mixB m)) S := fun m S => by
    have := mixB_b m
    exact r_mulP ⟨by omega, by omega⟩
  have hl2 : (ds.map Val.int).length < LINE := lt_line (by rw [List.length_map]; omega)
  have ha : ∀ y, bmV .append (.ref (S.length + 1)) [y] (S ++ [Cell.lst (rs.map Val.int), Cell.lst (ds.map Val.int)]) = .ok .non (S ++ [Cell.lst (rs.map Val.int), Cell.lst (ds.map Val.int ++ [y])]) := fun y => by rw [r_app g_1 hl2, w_1]
  by_cases hn : ns.length = 0
  · refine ⟨_, _, .inl ?_, ⟨some (Val.int i), rs, ds ++ [mixC (mixB (mixA i i)) i], rfl, rfl, hrs, by simp [hds]⟩⟩
    simp -implicitDefEqProofs [Ev.R.ok_bind, e_v, e_lk, e_i, e_b, e_s, e_n, e_bin, e_bin1, e_bin2, e_neg, e_neg1, e_not, e_not1, e_not2, e_and, e_and1, e_and2, e_or, e_or1, e_or2, e_cmp, e_cmp1, e_cmp2, e_bl, e_ite, e_ite1, e_tup, e_tup1, e_lst, e_lst1, e_ix, e_ix1, e_ix2, e_fld, e_fld1, e_es0, e_es, e_es1, e_es2, e_call, e_call1, e_call2, e_call3, e_make, e_make1, e_make2, e_meth, e_meth1, e_meth2, e_meth3, e_blt, e_blt1, e_bm, e_bm1, e_bm2, u_not, u_not1, u_and, u_and1, u_or, u_or1, u_v, u_b, u_tr, u_cmp, u_cmp1, u_cmp2, u_ch, u_ch1, u_ch2, u_ch3, u_ix, u_fld, u_meth, u_blt, u_call, s_nil, s_cons, s_nx, s_rt, s_bk, s_ct, s_set, s_set1, s_asg, s_asg1, s_asg2, s_par, s_par1, s_par2, s_six, s_six1, s_six2, s_six3, s_ost, s_sf, s_sf1, s_sf2, s_ex, s_ex1, s_ret, s_ret1, s_retn, s_if, s_if1, s_pass, s_brk, s_cnt, e_lc, e_lc1, c_no, c_so, kC_ok, kSo_ok, i_e, i_rl, i_fl, i_tup, i_rg, s_for, s_for1, step_ok, cl_nx, cl_ct, cl_bk, cl_rt, s_wh, r_add, r_sub, r_mulR, r_mulL, r_modL, r_fdivL, r_tt, r_p18, r_lt, r_le, r_gt, r_ge, r_eq, r_ne, r_ofO, r_ixf, r_ixr, r_ixt, r_lenf, r_lenr, r_lent, r_int, r_abs, r_min2, r_max2, r_ti, r_tb, end_rt, end_nx, end_rt_t, end_nx_t, chk_true, atI_0, atI_1, atI_2, atI_nat, bltV, asg, asgL, clr, l__law_draws_0, hn, e1, e2, e3, m1, m2, r_isl g_1, ha]
  · obtain ⟨n, hn2, hsp⟩ : ∃ n : Nat, n < ns.length ∧ (i : Int).fmod ns.length = n := ⟨i % ns.length, Nat.mod_lt _ (by omega), by rw [Int.fmod_eq_emod_of_nonneg _ (by omega)]; rfl⟩
    have hpos : 0 < ns.length := by omega
    have hn3 : n < rs.length := by omega
    have hmod : ∀ S : Store, binV false .mod (.int i) (.int ns.length) S = .ok (.int n) S := fun S => by rw [r_modP (by omega), hsp]
    have ixr : ∀ B : Cell, ixV (.ref S.length) (.int n) (S ++ [Cell.lst (rs.map Val.int), B]) = some (.int rs[n]) := fun B => by
      rw [r_ixs g_0, atI_nat, List.getElem?_map, List.getElem?_eq_getElem hn3]
      rfl
    have ixn : ∀ S : Store, ixV (.rl (ns.map Val.int)) (.int n) S = some (.int ns[n]) := fun S => by
      rw [r_ixr, atI_nat, List.getElem?_map, List.getElem?_eq_getElem hn2]
      rfl
    have six : ∀ (B : Cell) (y : Int), setixV (.ref S.length) (.int n) (.int y) (S ++ [Cell.lst (rs.map Val.int), B]) = some (S ++ [Cell.lst ((rs.set n y).map Val.int), B]) := fun B y => by
      rw [r_setix g_0 (n := n) (by unfold L2.ixN; simp [hn3]), w_0, List.map_set]
    by_cases hb : 1000000000000000000 ≤ ns[n] ∧ 0 < rs[n]
    · refine ⟨_, _, .inr ?_, ⟨some (Val.int ns[n]), rs.set n (rs[n].fdiv 1000003), ds ++ [rs[n].fmod 1000003], rfl, rfl, by simp [hrs], by simp [hds]⟩⟩
      simp -implicitDefEqProofs [Ev.R.ok_bind, e_v, e_lk, e_i, e_b, e_s, e_n, e_bin, e_bin1, e_bin2, e_neg, e_neg1, e_not, e_not1, e_not2, e_and, e_and1, e_and2, e_or, e_or1, e_or2, e_cmp, e_cmp1, e_cmp2, e_bl, e_ite, e_ite1, e_tup, e_tup1, e_lst, e_lst1, e_ix, e_ix1, e_ix2, e_fld, e_fld1, e_es0, e_es, e_es1, e_es2, e_call, e_call1, e_call2, e_call3, e_make, e_make1, e_make2, e_meth, e_meth1, e_meth2, e_meth3, e_blt, e_blt1, e_bm, e_bm1, e_bm2, u_not, u_not1, u_and, u_and1, u_or, u_or1, u_v, u_b, u_tr, u_cmp, u_cmp1, u_cmp2, u_ch, u_ch1, u_ch2, u_ch3, u_ix, u_fld, u_meth, u_blt, u_call, s_nil, s_cons, s_nx, s_rt, s_bk, s_ct, s_set, s_set1, s_asg, s_asg1, s_asg2, s_par, s_par1, s_par2, s_six, s_six1, s_six2, s_six3, s_ost, s_sf, s_sf1, s_sf2, s_ex, s_ex1, s_ret, s_ret1, s_retn, s_if, s_if1, s_pass, s_brk, s_cnt, e_lc, e_lc1, c_no, c_so, kC_ok, kSo_ok, i_e, i_rl, i_fl, i_tup, i_rg, s_for, s_for1, step_ok, cl_nx, cl_ct, cl_bk, cl_rt, s_wh, r_add, r_sub, r_mulR, r_mulL, r_modL, r_fdivL, r_tt, r_p18, r_lt, r_le, r_gt, r_ge, r_eq, r_ne, r_ofO, r_ixf, r_ixr, r_ixt, r_lenf, r_lenr, r_lent, r_int, r_abs, r_min2, r_max2, r_ti, r_tb, end_rt, end_nx, end_rt_t, end_nx_t, chk_true, atI_0, atI_1, atI_2, atI_nat, bltV, asg, asgL, clr, l__law_draws_0, hpos, hmod, ixn, ixr, hb.1, hb.2, six, r_isl g_1, ha]
    · refine ⟨_, _, .inl ?_, ⟨some (Val.int ns[n]), rs, ds ++ [mixC (mixB (mixA ns[n] i)) i], rfl, rfl, hrs, by simp [hds]⟩⟩
      by_cases h1 : 1000000000000000000 ≤ ns[n]
      · have h2 : ¬ 0 < rs[n] := fun z => hb ⟨h1, z⟩
        simp -implicitDefEqProofs [Ev.R.ok_bind, e_v, e_lk, e_i, e_b, e_s, e_n, e_bin, e_bin1, e_bin2, e_neg, e_neg1, e_not, e_not1, e_not2, e_and, e_and1, e_and2, e_or, e_or1, e_or2, e_cmp, e_cmp1, e_cmp2, e_bl, e_ite, e_ite1, e_tup, e_tup1, e_lst, e_lst1, e_ix, e_ix1, e_ix2, e_fld, e_fld1, e_es0, e_es, e_es1, e_es2, e_call, e_call1, e_call2, e_call3, e_make, e_make1, e_make2, e_meth, e_meth1, e_meth2, e_meth3, e_blt, e_blt1, e_bm, e_bm1, e_bm2, u_not, u_not1, u_and, u_and1, u_or, u_or1, u_v, u_b, u_tr, u_cmp, u_cmp1, u_cmp2, u_ch, u_ch1, u_ch2, u_ch3, u_ix, u_fld, u_meth, u_blt, u_call, s_nil, s_cons, s_nx, s_rt, s_bk, s_ct, s_set, s_set1, s_asg, s_asg1, s_asg2, s_par, s_par1, s_par2, s_six, s_six1, s_six2, s_six3, s_ost, s_sf, s_sf1, s_sf2, s_ex, s_ex1, s_ret, s_ret1, s_retn, s_if, s_if1, s_pass, s_brk, s_cnt, e_lc, e_lc1, c_no, c_so, kC_ok, kSo_ok, i_e, i_rl, i_fl, i_tup, i_rg, s_for, s_for1, step_ok, cl_nx, cl_ct, cl_bk, cl_rt, s_wh, r_add, r_sub, r_mulR, r_mulL, r_modL, r_fdivL, r_tt, r_p18, r_lt, r_le, r_gt, r_ge, r_eq, r_ne, r_ofO, r_ixf, r_ixr, r_ixt, r_lenf, r_lenr, r_lent, r_int, r_abs, r_min2, r_max2, r_ti, r_tb, end_rt, end_nx, end_rt_t, end_nx_t, chk_true, atI_0, atI_1, atI_2, atI_nat, bltV, asg, asgL, clr, l__law_draws_0, hpos, hmod, ixn, ixr, h1, h2, e1, e2, e3, m1, m2, r_isl g_1, ha]
      · simp -implicitDefEqProofs [Ev.R.ok_bind, e_v, e_lk, e_i, e_b, e_s, e_n, e_bin, e_bin1, e_bin2, e_neg, e_neg1, e_not, e_not1, e_not2, e_and, e_and1, e_and2, e_or, e_or1, e_or2, e_cmp, e_cmp1, e_cmp2, e_bl, e_ite, e_ite1, e_tup, e_tup1, e_lst, e_lst1, e_ix, e_ix1, e_ix2, e_fld, e_fld1, e_es0, e_es, e_es1, e_es2, e_call, e_call1, e_call2, e_call3, e_make, e_make1, e_make2, e_meth, e_meth1, e_meth2, e_meth3, e_blt, e_blt1, e_bm, e_bm1, e_bm2, u_not, u_not1, u_and, u_and1, u_or, u_or1, u_v, u_b, u_tr, u_cmp, u_cmp1, u_cmp2, u_ch, u_ch1, u_ch2, u_ch3, u_ix, u_fld, u_meth, u_blt, u_call, s_nil, s_cons, s_nx, s_rt, s_bk, s_ct, s_set, s_set1, s_asg, s_asg1, s_asg2, s_par, s_par1, s_par2, s_six, s_six1, s_six2, s_six3, s_ost, s_sf, s_sf1, s_sf2, s_ex, s_ex1, s_ret, s_ret1, s_retn, s_if, s_if1, s_pass, s_brk, s_cnt, e_lc, e_lc1, c_no, c_so, kC_ok, kSo_ok, i_e, i_rl, i_fl, i_tup, i_rg, s_for, s_for1, step_ok, cl_nx, cl_ct, cl_bk, cl_rt, s_wh, r_add, r_sub, r_mulR, r_mulL, r_modL, r_fdivL, r_tt, r_p18, r_lt, r_le, r_gt, r_ge, r_eq, r_ne, r_ofO, r_ixf, r_ixr, r_ixt, r_lenf, r_lenr, r_lent, r_int, r_abs, r_min2, r_max2, r_ti, r_tb, end_rt, end_nx, end_rt_t, end_nx_t, chk_true, atI_0, atI_1, atI_2, atI_nat, bltV, asg, asgL, clr, l__law_draws_0, hpos, hmod, ixn, ixr, h1, e1, e2, e3, m1, m2, r_isl g_1, ha]
theorem draws_ok {fuel k many : Nat} (ns : List Int) (S : Store) (hl : ns.length ≤ 63) (hm : many ≤ 1000) : ∃ is : List Int, (lev src.P fuel (k + 1)).call "_law_draws" [.rl (ns.map Val.int), .int many] S = .ok (.fl (is.map Val.int)) S := by
  rw [lev_call find_draws, run_eq rfl]
  have hr := rests_ok (G := lev src.P fuel k) (ρ := [some (Val.rl (ns.map Val.int)), some (Val.int many), none, none, none, none, none, none]) rfl ns S
  have hrg : inR (many : Int) := by unfold inR; omega
  have hlen : (ns.map fun n => Val.int (if n < 0 then -n else n)).length ≤ LINE := le_line (by rw [List.length_map]; omega)
  have step : ∀ (j : Nat) (x : Val) (ρ : Ev.Env) (S' : Store), (rangeL 0 many)[j]? = some x → drawsInv ns many S (0 + j) ρ S' → gdOk [] S' ∧ ∃ ρ2 S2, (stepF (lev src.P fuel k) (.nm 5) l__law_draws_0 [5, 6, 7] x ρ S' = .ok (.nx ρ2) S2 ∨ stepF (lev src.P fuel k) (.nm 5) l__law_draws_0 [5, 6, 7] x ρ S' = .ok (.ct ρ2) S2) ∧ drawsInv ns many S (0 + j + 1) ρ2 S2 := by
    intro j x ρ S' hx hi
    refine ⟨gdOk_nil _, ?_⟩
    obtain ⟨hj, rfl⟩ := rangeL_get hx
    rw [Nat.zero_add] at hi ⊢
    rw [Int.zero_add]
    exact draws_step ns many S j (by omega) hl ρ S' hi
  obtain ⟨ρ', S', e, c, rs, ds, rfl, rfl, _, _⟩ := forL_inv (gs := []) (drawsInv ns many S) (rangeL 0 many) 0 [some (Val.rl (ns.map Val.int)), some (Val.int many), some (Val.ref S.length), none, some (Val.ref (S.length + 1)), none, none, none]
    (S ++ [Cell.lst ((ns.map fun n => if n < 0 then -n else n).map Val.int), Cell.lst (([] : List Int).map Val.int)]) ⟨none, _, [], rfl, rfl, by simp, rfl⟩ step (fun _ _ _ => gdOk_nil _) (step := stepF (lev src.P fuel k) (.nm 5) l__law_draws_0 [5, 6, 7])
  · refine ⟨ds, ?_⟩
    have e0 : (ns.map fun n => if n < 0 then -n else n).map Val.int = ns.map fun n => Val.int (if n < 0 then -n else n) := by rw [List.map_map]; rfl
    rw [e0] at e
    simp -implicitDefEqProofs [Ev.R.ok_bind, e_v, e_lk, e_i, e_b, e_s, e_n, e_bin, e_bin1, e_bin2, e_neg, e_neg1, e_not, e_not1, e_not2, e_and, e_and1, e_and2, e_or, e_or1, e_or2, e_cmp, e_cmp1, e_cmp2, e_bl, e_ite, e_ite1, e_tup, e_tup1, e_lst, e_lst1, e_ix, e_ix1, e_ix2, e_fld, e_fld1, e_es0, e_es, e_es1, e_es2, e_call, e_call1, e_call2, e_call3, e_make, e_make1, e_make2, e_meth, e_meth1, e_meth2, e_meth3, e_blt, e_blt1, e_bm, e_bm1, e_bm2, u_not, u_not1, u_and, u_and1, u_or, u_or1, u_v, u_b, u_tr, u_cmp, u_cmp1, u_cmp2, u_ch, u_ch1, u_ch2, u_ch3, u_ix, u_fld, u_meth, u_blt, u_call, s_nil, s_cons, s_nx, s_rt, s_bk, s_ct, s_set, s_set1, s_asg, s_asg1, s_asg2, s_par, s_par1, s_par2, s_six, s_six1, s_six2, s_six3, s_ost, s_sf, s_sf1, s_sf2, s_ex, s_ex1, s_ret, s_ret1, s_retn, s_if, s_if1, s_pass, s_brk, s_cnt, e_lc, e_lc1, c_no, c_so, kC_ok, kSo_ok, i_e, i_rl, i_fl, i_tup, i_rg, s_for, s_for1, step_ok, cl_nx, cl_ct, cl_bk, cl_rt, s_wh, r_add, r_sub, r_mulR, r_mulL, r_modL, r_fdivL, r_tt, r_p18, r_lt, r_le, r_gt, r_ge, r_eq, r_ne, r_ofO, r_ixf, r_ixr, r_ixt, r_lenf, r_lenr, r_lent, r_int, r_abs, r_min2, r_max2, r_ti, r_tb, end_rt, end_nx, end_rt_t, end_nx_t, chk_true, atI_0, atI_1, atI_2, atI_nat, bltV, asg, asgL, clr, f__law_draws, b__law_draws, hr, r_mkm hlen, r_mkm (xs := []) (Nat.zero_le _), i_rg1 hrg]
    simp only [List.map_nil] at e
    rw [e]
    simp -implicitDefEqProofs [Ev.R.ok_bind, e_v, e_lk, e_i, e_b, e_s, e_n, e_bin, e_bin1, e_bin2, e_neg, e_neg1, e_not, e_not1, e_not2, e_and, e_and1, e_and2, e_or, e_or1, e_or2, e_cmp, e_cmp1, e_cmp2, e_bl, e_ite, e_ite1, e_tup, e_tup1, e_lst, e_lst1, e_ix, e_ix1, e_ix2, e_fld, e_fld1, e_es0, e_es, e_es1, e_es2, e_call, e_call1, e_call2, e_call3, e_make, e_make1, e_make2, e_meth, e_meth1, e_meth2, e_meth3, e_blt, e_blt1, e_bm, e_bm1, e_bm2, u_not, u_not1, u_and, u_and1, u_or, u_or1, u_v, u_b, u_tr, u_cmp, u_cmp1, u_cmp2, u_ch, u_ch1, u_ch2, u_ch3, u_ix, u_fld, u_meth, u_blt, u_call, s_nil, s_cons, s_nx, s_rt, s_bk, s_ct, s_set, s_set1, s_asg, s_asg1, s_asg2, s_par, s_par1, s_par2, s_six, s_six1, s_six2, s_six3, s_ost, s_sf, s_sf1, s_sf2, s_ex, s_ex1, s_ret, s_ret1, s_retn, s_if, s_if1, s_pass, s_brk, s_cnt, e_lc, e_lc1, c_no, c_so, kC_ok, kSo_ok, i_e, i_rl, i_fl, i_tup, i_rg, s_for, s_for1, step_ok, cl_nx, cl_ct, cl_bk, cl_rt, s_wh, r_add, r_sub, r_mulR, r_mulL, r_modL, r_fdivL, r_tt, r_p18, r_lt, r_le, r_gt, r_ge, r_eq, r_ne, r_ofO, r_ixf, r_ixr, r_ixt, r_lenf, r_lenr, r_lent, r_int, r_abs, r_min2, r_max2, r_ti, r_tb, end_rt, end_nx, end_rt_t, end_nx_t, chk_true, atI_0, atI_1, atI_2, atI_nat, bltV, asg, asgL, clr]
    rw [exit_lst g_1 (by omega) (belL_ints _ _) (fun i hi => List.getElem?_append_left hi)]
end Lw

set_option Elab.async false
set_option linter.all false
set_option maxRecDepth 100000
set_option maxHeartbeats 1000000
namespace Lw
open PySem Ev
/-! k59 in plain numbers -/
def minZ (i j : Int) : Int := if j < i then j else i
def dropP (t : Int) : List Int → List Int
  | [] => []
  | f :: r => if f ≤ t then dropP t r else f :: r
/-- the turns: time, done, lost, the falls that are left -/
def runZ (work every cost : Int) : Nat → Int → Int → Int → List Int → Int × Int
  | 0, t, d, l, F => (t, l)
  | n + 1, t, d, l, F => if work ≤ d then (t, l) else
    let u := minZ every (work - d)
    let e := if d + u < work then t + u + cost else t + u
    match dropP t F with
    | f :: R => if f < e then runZ work every cost n f d (l + minZ u (f - t)) (f :: R) else runZ work every cost n e (d + u) l (f :: R)
    | [] => runZ work every cost n e (d + u) l []
theorem find_runs : src.P.fns.find? (fun f => f.qual == "_law_runs") = some f__law_runs := by rfl
/-- the inner while: what has passed is skipped -/
theorem skip_ok {G : Gm} (fs : List Int) (t : Int) (a b c d e f g h i : Option Val) : ∀ (n sp : Nat) (S : Store), sp ≤ fs.length → fs.length - sp < n → ∃ sp2 : Nat, sp2 ≤ fs.length ∧ fs.drop sp2 = dropP t (fs.drop sp) ∧
    whL (denT G (.and (.cmp .lt (.v 7) (.blt false .len (.cons (.v 3) .nil))) (.cmp .le (.ix (.v 3) (.v 7)) (.v 4)))) (bodyF G l__law_runs_0 []) n [a, b, c, some (Val.fl (fs.map Val.int)), some (Val.int t), d, e, some (Val.int sp), f, g, h] S =
      .ok (.nx [a, b, c, some (Val.fl (fs.map Val.int)), some (Val.int t), d, e, some (Val.int sp2), f, g, h]) S
  | 0, sp, S, _, hn => absurd hn (by omega)
  | n + 1, sp, S, hs, hn => by
    by_cases hl : sp < fs.length
    · have hat : ∀ S : Store, ixV (.fl (fs.map Val.int)) (.int sp) S = some (.int fs[sp]) := fun S => by
        rw [r_ixf, atI_nat, List.getElem?_map, List.getElem?_eq_getElem hl]
        rfl
      by_cases hf : fs[sp] ≤ t
      · obtain ⟨sp2, h1, h2, h3⟩ := skip_ok fs t a b c d e f g h i n (sp + 1) S (by omega) (by omega)
        refine ⟨sp2, h1, ?_, ?_⟩
        · rw [h2, List.drop_eq_getElem_cons hl, dropP, if_pos hf]
        · rw [wh_yes (S1 := S) (S2 := S) (ρ1 := [a, b, c, some (Val.fl (fs.map Val.int)), some (Val.int t), d, e, some (Val.int (sp + 1 : Nat)), f, g, h]), h3]
          · simp -implicitDefEqProofs [Ev.R.ok_bind, e_v, e_lk, e_i, e_b, e_s, e_n, e_bin, e_bin1, e_bin2, e_neg, e_neg1, e_not, e_not1, e_not2, e_and, e_and1, e_and2, e_or, e_or1, e_or2, e_cmp, e_cmp1, e_cmp2, e_bl, e_ite, e_ite1, e_tup, e_tup1, e_lst, e_lst1, e_ix, e_ix1, e_ix2, e_fld, e_fld1, e_es0, e_es, e_es1, e_es2, e_call, e_call1, e_call2, e_call3, e_make, e_make1, e_make2, e_meth, e_meth1, e_meth2, e_meth3, e_blt, e_blt1, e_bm, e_bm1, e_bm2, u_not, u_not1, u_and, u_and1, u_or, u_or1, u_v, u_b, u_tr, u_cmp, u_cmp1, u_cmp2, u_ch, u_ch1, u_ch2, u_ch3, u_ix, u_fld, u_meth, u_blt, u_call, s_nil, s_cons, s_nx, s_rt, s_bk, s_ct, s_set, s_set1, s_asg, s_asg1, s_asg2, s_par, s_par1, s_par2, s_six, s_six1, s_six2, s_six3, s_ost, s_sf, s_sf1, s_sf2, s_ex, s_ex1, s_ret, s_ret1, s_retn, s_if, s_if1, s_pass, s_brk, s_cnt, e_lc, e_lc1, c_no, c_so, kC_ok, kSo_ok, i_e, i_rl, i_fl, i_tup, i_rg, s_for, s_for1, step_ok, cl_nx, cl_ct, cl_bk, cl_rt, s_wh, r_add, r_sub, r_mulR, r_mulL, r_modL, r_fdivL, r_tt, r_p18, r_lt, r_le, r_gt, r_ge, r_eq, r_ne, r_ofO, r_ixf, r_ixr, r_ixt, r_lenf, r_lenr, r_lent, r_int, r_abs, r_min2, r_max2, r_ti, r_tb, end_rt, end_nx, end_rt_t, end_nx_t, chk_true, atI_0, atI_1, atI_2, atI_nat, bltV, asg, asgL, clr, hl, hat, hf]
          · unfold bodyF
            simp -implicitDefEqProofs [Ev.R.ok_bind, e_v, e_lk, e_i, e_b, e_s, e_n, e_bin, e_bin1, e_bin2, e_neg, e_neg1, e_not, e_not1, e_not2, e_and, e_and1, e_and2, e_or, e_or1, e_or2, e_cmp, e_cmp1, e_cmp2, e_bl, e_ite, e_ite1, e_tup, e_tup1, e_lst, e_lst1, e_ix, e_ix1, e_ix2, e_fld, e_fld1, e_es0, e_es, e_es1, e_es2, e_call, e_call1, e_call2, e_call3, e_make, e_make1, e_make2, e_meth, e_meth1, e_meth2, e_meth3, e_blt, e_blt1, e_bm, e_bm1, e_bm2, u_not, u_not1, u_and, u_and1, u_or, u_or1, u_v, u_b, u_tr, u_cmp, u_cmp1, u_cmp2, u_ch, u_ch1, u_ch2, u_ch3, u_ix, u_fld, u_meth, u_blt, u_call, s_nil, s_cons, s_nx, s_rt, s_bk, s_ct, s_set, s_set1, s_asg, s_asg1, s_asg2, s_par, s_par1, s_par2, s_six, s_six1, s_six2, s_six3, s_ost, s_sf, s_sf1, s_sf2, s_ex, s_ex1, s_ret, s_ret1, s_retn, s_if, s_if1, s_pass, s_brk, s_cnt, e_lc, e_lc1, c_no, c_so, kC_ok, kSo_ok, i_e, i_rl, i_fl, i_tup, i_rg, s_for, s_for1, step_ok, cl_nx, cl_ct, cl_bk, cl_rt, s_wh, r_add, r_sub, r_mulR, r_mulL, r_modL, r_fdivL, r_tt, r_p18, r_lt, r_le, r_gt, r_ge, r_eq, r_ne, r_ofO, r_ixf, r_ixr, r_ixt, r_lenf, r_lenr, r_lent, r_int, r_abs, r_min2, r_max2, r_ti, r_tb, end_rt, end_nx, end_rt_t, end_nx_t, chk_true, atI_0, atI_1, atI_2, atI_nat, bltV, asg, asgL, clr, l__law_runs_0]
      · refine ⟨sp, hs, ?_, ?_⟩
        · rw [List.drop_eq_getElem_cons hl, dropP, if_neg hf]
        · rw [wh_no (S1 := S)]
          simp -implicitDefEqProofs [Ev.R.ok_bind, e_v, e_lk, e_i, e_b, e_s, e_n, e_bin, e_bin1, e_bin2, e_neg, e_neg1, e_not, e_not1, e_not2, e_and, e_and1, e_and2, e_or, e_or1, e_or2, e_cmp, e_cmp1, e_cmp2, e_bl, e_ite, e_ite1, e_tup, e_tup1, e_lst, e_lst1, e_ix, e_ix1, e_ix2, e_fld, e_fld1, e_es0, e_es, e_es1, e_es2, e_call, e_call1, e_call2, e_call3, e_make, e_make1, e_make2, e_meth, e_meth1, e_meth2, e_meth3, e_blt, e_blt1, e_bm, e_bm1, e_bm2, u_not, u_not1, u_and, u_and1, u_or, u_or1, u_v, u_b, u_tr, u_cmp, u_cmp1, u_cmp2, u_ch, u_ch1, u_ch2, u_ch3, u_ix, u_fld, u_meth, u_blt, u_call, s_nil, s_cons, s_nx, s_rt, s_bk, s_ct, s_set, s_set1, s_asg, s_asg1, s_asg2, s_par, s_par1, s_par2, s_six, s_six1, s_six2, s_six3, s_ost, s_sf, s_sf1, s_sf2, s_ex, s_ex1, s_ret, s_ret1, s_retn, s_if, s_if1, s_pass, s_brk, s_cnt, e_lc, e_lc1, c_no, c_so, kC_ok, kSo_ok, i_e, i_rl, i_fl, i_tup, i_rg, s_for, s_for1, step_ok, cl_nx, cl_ct, cl_bk, cl_rt, s_wh, r_add, r_sub, r_mulR, r_mulL, r_modL, r_fdivL, r_tt, r_p18, r_lt, r_le, r_gt, r_ge, r_eq, r_ne, r_ofO, r_ixf, r_ixr, r_ixt, r_lenf, r_lenr, r_lent, r_int, r_abs, r_min2, r_max2, r_ti, r_tb, end_rt, end_nx, end_rt_t, end_nx_t, chk_true, atI_0, atI_1, atI_2, atI_nat, bltV, asg, asgL, clr, hl, hat, hf]
    · refine ⟨sp, hs, ?_, ?_⟩
      · rw [List.drop_eq_nil_of_le (by omega)]
        rfl
      · rw [wh_no (S1 := S)]
        simp -implicitDefEqProofs [Ev.R.ok_bind, e_v, e_lk, e_i, e_b, e_s, e_n, e_bin, e_bin1, e_bin2, e_neg, e_neg1, e_not, e_not1, e_not2, e_and, e_and1, e_and2, e_or, e_or1, e_or2, e_cmp, e_cmp1, e_cmp2, e_bl, e_ite, e_ite1, e_tup, e_tup1, e_lst, e_lst1, e_ix, e_ix1, e_ix2, e_fld, e_fld1, e_es0, e_es, e_es1, e_es2, e_call, e_call1, e_call2, e_call3, e_make, e_make1, e_make2, e_meth, e_meth1, e_meth2, e_meth3, e_blt, e_blt1, e_bm, e_bm1, e_bm2, u_not, u_not1, u_and, u_and1, u_or, u_or1, u_v, u_b, u_tr, u_cmp, u_cmp1, u_cmp2, u_ch, u_ch1, u_ch2, u_ch3, u_ix, u_fld, u_meth, u_blt, u_call, s_nil, s_cons, s_nx, s_rt, s_bk, s_ct, s_set, s_set1, s_asg, s_asg1, s_asg2, s_par, s_par1, s_par2, s_six, s_six1, s_six2, s_six3, s_ost, s_sf, s_sf1, s_sf2, s_ex, s_ex1, s_ret, s_ret1, s_retn, s_if, s_if1, s_pass, s_brk, s_cnt, e_lc, e_lc1, c_no, c_so, kC_ok, kSo_ok, i_e, i_rl, i_fl, i_tup, i_rg, s_for, s_for1, step_ok, cl_nx, cl_ct, cl_bk, cl_rt, s_wh, r_add, r_sub, r_mulR, r_mulL, r_modL, r_fdivL, r_tt, r_p18, r_lt, r_le, r_gt, r_ge, r_eq, r_ne, r_ofO, r_ixf, r_ixr, r_ixt, r_lenf, r_lenr, r_lent, r_int, r_abs, r_min2, r_max2, r_ti, r_tb, end_rt, end_nx, end_rt_t, end_nx_t, chk_true, atI_0, atI_1, atI_2, atI_nat, bltV, asg, asgL, clr, hl]
abbrev rEnv (work every cost : Int) (fs : List Int) (t d l : Int) (sp : Nat) : Ev.Env := [some (Val.int work), some (Val.int every), some (Val.int cost), some (Val.fl (fs.map Val.int)), some (Val.int t), some (Val.int d), some (Val.int l), some (Val.int sp), none, none, none]
theorem turn_stop {G : Gm} (work every cost : Int) (fs : List Int) (t d l : Int) (sp : Nat) (x : Val) (S : Store) (h : work ≤ d) : stepF G (.nm 8) l__law_runs_1 [8, 9, 10] x (rEnv work every cost fs t d l sp) S = .ok (.bk (rEnv work every cost fs t d l sp)) S := by
  rw [stepF_eq (h := rfl)]
  simp -implicitDefEqProofs [Ev.R.ok_bind, e_v, e_lk, e_i, e_b, e_s, e_n, e_bin, e_bin1, e_bin2, e_neg, e_neg1, e_not, e_not1, e_not2, e_and, e_and1, e_and2, e_or, e_or1, e_or2, e_cmp, e_cmp1, e_cmp2, e_bl, e_ite, e_ite1, e_tup, e_tup1, e_lst, e_lst1, e_ix, e_ix1, e_ix2, e_fld, e_fld1, e_es0, e_es, e_es1, e_es2, e_call, e_call1, e_call2, e_call3, e_make, e_make1, e_make2, e_meth, e_meth1, e_meth2, e_meth3, e_blt, e_blt1, e_bm, e_bm1, e_bm2, u_not, u_not1, u_and, u_and1, u_or, u_or1, u_v, u_b, u_tr, u_cmp, u_cmp1, u_cmp2, u_ch, u_ch1, u_ch2, u_ch3, u_ix, u_fld, u_meth, u_blt, u_call, s_nil, s_cons, s_nx, s_rt, s_bk, s_ct, s_set, s_set1, s_asg, s_asg1, s_asg2, s_par, s_par1, s_par2, s_six, s_six1, s_six2, s_six3, s_ost, s_sf, s_sf1, s_sf2, s_ex, s_ex1, s_ret, s_ret1, s_retn, s_if, s_if1, s_pass, s_brk, s_cnt, e_lc, e_lc1, c_no, c_so, kC_ok, kSo_ok, i_e, i_rl, i_fl, i_tup, i_rg, s_for, s_for1, step_ok, cl_nx, cl_ct, cl_bk, cl_rt, s_wh, r_add, r_sub, r_mulR, r_mulL, r_modL, r_fdivL, r_tt, r_p18, r_lt, r_le, r_gt, r_ge, r_eq, r_ne, r_ofO, r_ixf, r_ixr, r_ixt, r_lenf, r_lenr, r_lent, r_int, r_abs, r_min2, r_max2, r_ti, r_tb, end_rt, end_nx, end_rt_t, end_nx_t, chk_true, atI_0, atI_1, atI_2, atI_nat, bltV, asg, asgL, clr, l__law_runs_1, h]
theorem turn_go {G : Gm} (work every cost : Int) (fs : List Int) (t d l : Int) (sp : Nat) (x : Val) (S : Store) (h : ¬ work ≤ d) (hs : sp ≤ fs.length) (hfu : fs.length < G.fuel) :
    ∃ (sp2 : Nat) (t2 d2 l2 : Int), sp2 ≤ fs.length ∧ stepF G (.nm 8) l__law_runs_1 [8, 9, 10] x (rEnv work every cost fs t d l sp) S = .ok (.nx (rEnv work every cost fs t2 d2 l2 sp2)) S ∧
      ∀ n, runZ work every cost (n + 1) t d l (fs.drop sp) = runZ work every cost n t2 d2 l2 (fs.drop sp2) := by
  rw [stepF_eq (h := rfl)]
  have mz : ∀ (i j : Int) (S : Store), minB [.int i, .int j] S = .ok (.int (minZ i j)) S := fun _ _ _ => rfl
  have tail : ∀ (e : Int) (s10 : Option Val), (if d + minZ every (work - d) < work then t + minZ every (work - d) + cost else t + minZ every (work - d)) = e → ∀ (sp2 : Nat), sp2 ≤ fs.length → fs.drop sp2 = dropP t (fs.drop sp) →
      ∃ (t2 d2 l2 : Int), kStep [8, 9, 10] (denSs G (.cons (.ite (.and (.cmp .lt (.v 7) (.blt false .len (.cons (.v 3) .nil))) (.cmp .lt (.ix (.v 3) (.v 7)) (.v 10))) (.cons (.set 6 (.bin false .add (.v 6) (.blt false .min (.cons (.v 9) (.cons (.bin false .sub (.ix (.v 3) (.v 7)) (.v 4)) .nil)))))
  (.cons (.set 4 (.ix (.v 3) (.v 7)))
  .nil)) (.cons (.set 4 (.v 10))
  (.cons (.set 5 (.bin false .add (.v 5) (.v 9)))
  .nil)))
  .nil) [some (Val.int work), some (Val.int every), some (Val.int cost), some (Val.fl (fs.map Val.int)), some (Val.int t), some (Val.int d), some (Val.int l), some (Val.int sp2), some x, some (Val.int (minZ every (work - d))), some (Val.int e)] S) = .ok (.nx (rEnv work every cost fs t2 d2 l2 sp2)) S ∧
      ∀ n, runZ work every cost (n + 1) t d l (fs.drop sp) = runZ work every cost n t2 d2 l2 (fs.drop sp2) := by
    intro e s10 he sp2 h1 h2
    by_cases hl : sp2 < fs.length
    · have hat : ∀ S : Store, ixV (.fl (fs.map Val.int)) (.int sp2) S = some (.int fs[sp2]) := fun S => by
        rw [r_ixf, atI_nat, List.getElem?_map, List.getElem?_eq_getElem hl]
        rfl
      have hd := List.drop_eq_getElem_cons hl
      by_cases hf : fs[sp2] < e
      · refine ⟨fs[sp2], d, l + minZ (minZ every (work - d)) (fs[sp2] - t), by simp -implicitDefEqProofs [Ev.R.ok_bind, e_v, e_lk, e_i, e_b, e_s, e_n, e_bin, e_bin1, e_bin2, e_neg, e_neg1, e_not, e_not1, e_not2, e_and, e_and1, e_and2, e_or, e_or1, e_or2, e_cmp, e_cmp1, e_cmp2, e_bl, e_ite, e_ite1, e_tup, e_tup1, e_lst, e_lst1, e_ix, e_ix1, e_ix2, e_fld, e_fld1, e_es0, e_es, e_es1, e_es2, e_call, e_call1, e_call2, e_call3, e_make, e_make1, e_make2, e_meth, e_meth1, e_meth2, e_meth3, e_blt, e_blt1, e_bm, e_bm1, e_bm2, u_not, u_not1, u_and, u_and1, u_or, u_or1, u_v, u_b, u_tr, u_cmp, u_cmp1, u_cmp2, u_ch, u_ch1, u_ch2, u_ch3, u_ix, u_fld, u_meth, u_blt, u_call, s_nil, s_cons, s_nx, s_rt, s_bk, s_ct, s_set, s_set1, s_asg, s_asg1, s_asg2, s_par, s_par1, s_par2, s_six, s_six1, s_six2, s_six3, s_ost, s_sf, s_sf1, s_sf2, s_ex, s_ex1, s_ret, s_ret1, s_retn, s_if, s_if1, s_pass, s_brk, s_cnt, e_lc, e_lc1, c_no, c_so, kC_ok, kSo_ok, i_e, i_rl, i_fl, i_tup, i_rg, s_for, s_for1, step_ok, cl_nx, cl_ct, cl_bk, cl_rt, s_wh, r_add, r_sub, r_mulR, r_mulL, r_modL, r_fdivL, r_tt, r_p18, r_lt, r_le, r_gt, r_ge, r_eq, r_ne, r_ofO, r_ixf, r_ixr, r_ixt, r_lenf, r_lenr, r_lent, r_int, r_abs, r_min2, r_max2, r_ti, r_tb, end_rt, end_nx, end_rt_t, end_nx_t, chk_true, atI_0, atI_1, atI_2, atI_nat, bltV, asg, asgL, clr, hl, hat, hf, mz], fun n => ?_⟩
        rw [runZ, if_neg h]
        simp only [he, ← h2, hd, if_pos hf]
      · refine ⟨e, d + minZ every (work - d), l, by simp -implicitDefEqProofs [Ev.R.ok_bind, e_v, e_lk, e_i, e_b, e_s, e_n, e_bin, e_bin1, e_bin2, e_neg, e_neg1, e_not, e_not1, e_not2, e_and, e_and1, e_and2, e_or, e_or1, e_or2, e_cmp, e_cmp1, e_cmp2, e_bl, e_ite, e_ite1, e_tup, e_tup1, e_lst, e_lst1, e_ix, e_ix1, e_ix2, e_fld, e_fld1, e_es0, e_es, e_es1, e_es2, e_call, e_call1, e_call2, e_call3, e_make, e_make1, e_make2, e_meth, e_meth1, e_meth2, e_meth3, e_blt, e_blt1, e_bm, e_bm1, e_bm2, u_not, u_not1, u_and, u_and1, u_or, u_or1, u_v, u_b, u_tr, u_cmp, u_cmp1, u_cmp2, u_ch, u_ch1, u_ch2, u_ch3, u_ix, u_fld, u_meth, u_blt, u_call, s_nil, s_cons, s_nx, s_rt, s_bk, s_ct, s_set, s_set1, s_asg, s_asg1, s_asg2, s_par, s_par1, s_par2, s_six, s_six1, s_six2, s_six3, s_ost, s_sf, s_sf1, s_sf2, s_ex, s_ex1, s_ret, s_ret1, s_retn, s_if, s_if1, s_pass, s_brk, s_cnt, e_lc, e_lc1, c_no, c_so, kC_ok, kSo_ok, i_e, i_rl, i_fl, i_tup, i_rg, s_for, s_for1, step_ok, cl_nx, cl_ct, cl_bk, cl_rt, s_wh, r_add, r_sub, r_mulR, r_mulL, r_modL, r_fdivL, r_tt, r_p18, r_lt, r_le, r_gt, r_ge, r_eq, r_ne, r_ofO, r_ixf, r_ixr, r_ixt, r_lenf, r_lenr, r_lent, r_int, r_abs, r_min2, r_max2, r_ti, r_tb, end_rt, end_nx, end_rt_t, end_nx_t, chk_true, atI_0, atI_1, atI_2, atI_nat, bltV, asg, asgL, clr, hl, hat, hf, mz], fun n => ?_⟩
        rw [runZ, if_neg h]
        simp only [he, ← h2, hd, if_neg hf]
    · have hd : fs.drop sp2 = [] := List.drop_eq_nil_of_le (by omega)
      refine ⟨e, d + minZ every (work - d), l, by simp -implicitDefEqProofs [Ev.R.ok_bind, e_v, e_lk, e_i, e_b, e_s, e_n, e_bin, e_bin1, e_bin2, e_neg, e_neg1, e_not, e_not1, e_not2, e_and, e_and1, e_and2, e_or, e_or1, e_or2, e_cmp, e_cmp1, e_cmp2, e_bl, e_ite, e_ite1, e_tup, e_tup1, e_lst, e_lst1, e_ix, e_ix1, e_ix2, e_fld, e_fld1, e_es0, e_es, e_es1, e_es2, e_call, e_call1, e_call2, e_call3, e_make, e_make1, e_make2, e_meth, e_meth1, e_meth2, e_meth3, e_blt, e_blt1, e_bm, e_bm1, e_bm2, u_not, u_not1, u_and, u_and1, u_or, u_or1, u_v, u_b, u_tr, u_cmp, u_cmp1, u_cmp2, u_ch, u_ch1, u_ch2, u_ch3, u_ix, u_fld, u_meth, u_blt, u_call, s_nil, s_cons, s_nx, s_rt, s_bk, s_ct, s_set, s_set1, s_asg, s_asg1, s_asg2, s_par, s_par1, s_par2, s_six, s_six1, s_six2, s_six3, s_ost, s_sf, s_sf1, s_sf2, s_ex, s_ex1, s_ret, s_ret1, s_retn, s_if, s_if1, s_pass, s_brk, s_cnt, e_lc, e_lc1, c_no, c_so, kC_ok, kSo_ok, i_e, i_rl, i_fl, i_tup, i_rg, s_for, s_for1, step_ok, cl_nx, cl_ct, cl_bk, cl_rt, s_wh, r_add, r_sub, r_mulR, r_mulL, r_modL, r_fdivL, r_tt, r_p18, r_lt, r_le, r_gt, r_ge, r_eq, r_ne, r_ofO, r_ixf, r_ixr, r_ixt, r_lenf, r_lenr, r_lent, r_int, r_abs, r_min2, r_max2, r_ti, r_tb, end_rt, end_nx, end_rt_t, end_nx_t, chk_true, atI_0, atI_1, atI_2, atI_nat, bltV, asg, asgL, clr, hl, mz], fun n => ?_⟩
      rw [runZ, if_neg h]
      simp only [he, ← h2, hd]
  by_cases hc : d + minZ every (work - d) < work
  · obtain ⟨sp2, h1, h2, h3⟩ := skip_ok (G := G) fs t (some (Val.int work)) (some (Val.int every)) (some (Val.int cost)) (some (Val.int d)) (some (Val.int l)) (some x) (some (Val.int (minZ every (work - d)))) (some (Val.int (t + minZ every (work - d) + cost))) none G.fuel sp S hs (by omega)
    obtain ⟨t2, d2, l2, k1, k2⟩ := tail (t + minZ every (work - d) + cost) none (if_pos hc) sp2 h1 h2
    refine ⟨sp2, t2, d2, l2, h1, ?_, k2⟩
    rw [← k1]
    simp -implicitDefEqProofs [Ev.R.ok_bind, e_v, e_lk, e_i, e_b, e_s, e_n, e_bin, e_bin1, e_bin2, e_neg, e_neg1, e_not, e_not1, e_not2, e_and, e_and1, e_and2, e_or, e_or1, e_or2, e_cmp, e_cmp1, e_cmp2, e_bl, e_ite, e_ite1, e_tup, e_tup1, e_lst, e_lst1, e_ix, e_ix1, e_ix2, e_fld, e_fld1, e_es0, e_es, e_es1, e_es2, e_call, e_call1, e_call2, e_call3, e_make, e_make1, e_make2, e_meth, e_meth1, e_meth2, e_meth3, e_blt, e_blt1, e_bm, e_bm1, e_bm2, u_not, u_not1, u_and, u_and1, u_or, u_or1, u_v, u_b, u_tr, u_cmp, u_cmp1, u_cmp2, u_ch, u_ch1, u_ch2, u_ch3, u_ix, u_fld, u_meth, u_blt, u_call, s_nil, s_cons, s_nx, s_rt, s_bk, s_ct, s_set, s_set1, s_asg, s_asg1, s_asg2, s_par, s_par1, s_par2, s_six, s_six1, s_six2, s_six3, s_ost, s_sf, s_sf1, s_sf2, s_ex, s_ex1, s_ret, s_ret1, s_retn, s_if, s_if1, s_pass, s_brk, s_cnt, e_lc, e_lc1, c_no, c_so, kC_ok, kSo_ok, i_e, i_rl, i_fl, i_tup, i_rg, s_for, s_for1, step_ok, cl_nx, cl_ct, cl_bk, cl_rt, s_wh, r_add, r_sub, r_mulR, r_mulL, r_modL, r_fdivL, r_tt, r_p18, r_lt, r_le, r_gt, r_ge, r_eq, r_ne, r_ofO, r_ixf, r_ixr, r_ixt, r_lenf, r_lenr, r_lent, r_int, r_abs, r_min2, r_max2, r_ti, r_tb, end_rt, end_nx, end_rt_t, end_nx_t, chk_true, atI_0, atI_1, atI_2, atI_nat, bltV, asg, asgL, clr, l__law_runs_1, h, mz, hc, h3]
  · obtain ⟨sp2, h1, h2, h3⟩ := skip_ok (G := G) fs t (some (Val.int work)) (some (Val.int every)) (some (Val.int cost)) (some (Val.int d)) (some (Val.int l)) (some x) (some (Val.int (minZ every (work - d)))) (some (Val.int (t + minZ every (work - d)))) none G.fuel sp S hs (by omega)
    obtain ⟨t2, d2, l2, k1, k2⟩ := tail (t + minZ every (work - d)) none (if_neg hc) sp2 h1 h2
    refine ⟨sp2, t2, d2, l2, h1, ?_, k2⟩
    rw [← k1]
    simp -implicitDefEqProofs [Ev.R.ok_bind, e_v, e_lk, e_i, e_b, e_s, e_n, e_bin, e_bin1, e_bin2, e_neg, e_neg1, e_not, e_not1, e_not2, e_and, e_and1, e_and2, e_or, e_or1, e_or2, e_cmp, e_cmp1, e_cmp2, e_bl, e_ite, e_ite1, e_tup, e_tup1, e_lst, e_lst1, e_ix, e_ix1, e_ix2, e_fld, e_fld1, e_es0, e_es, e_es1, e_es2, e_call, e_call1, e_call2, e_call3, e_make, e_make1, e_make2, e_meth, e_meth1, e_meth2, e_meth3, e_blt, e_blt1, e_bm, e_bm1, e_bm2, u_not, u_not1, u_and, u_and1, u_or, u_or1, u_v, u_b, u_tr, u_cmp, u_cmp1, u_cmp2, u_ch, u_ch1, u_ch2, u_ch3, u_ix, u_fld, u_meth, u_blt, u_call, s_nil, s_cons, s_nx, s_rt, s_bk, s_ct, s_set, s_set1, s_asg, s_asg1, s_asg2, s_par, s_par1, s_par2, s_six, s_six1, s_six2, s_six3, s_ost, s_sf, s_sf1, s_sf2, s_ex, s_ex1, s_ret, s_ret1, s_retn, s_if, s_if1, s_pass, s_brk, s_cnt, e_lc, e_lc1, c_no, c_so, kC_ok, kSo_ok, i_e, i_rl, i_fl, i_tup, i_rg, s_for, s_for1, step_ok, cl_nx, cl_ct, cl_bk, cl_rt, s_wh, r_add, r_sub, r_mulR, r_mulL, r_modL, r_fdivL, r_tt, r_p18, r_lt, r_le, r_gt, r_ge, r_eq, r_ne, r_ofO, r_ixf, r_ixr, r_ixt, r_lenf, r_lenr, r_lent, r_int, r_abs, r_min2, r_max2, r_ti, r_tb, end_rt, end_nx, end_rt_t, end_nx_t, chk_true, atI_0, atI_1, atI_2, atI_nat, bltV, asg, asgL, clr, l__law_runs_1, h, mz, hc, h3]
theorem runs_loop {G : Gm} (work every cost : Int) (fs : List Int) (S : Store) (hfu : fs.length < G.fuel) : ∀ (xs : List Val) (t d l : Int) (sp : Nat), sp ≤ fs.length →
    ∃ (t2 d2 l2 : Int) (sp2 : Nat), forL [] (stepF G (.nm 8) l__law_runs_1 [8, 9, 10]) xs (rEnv work every cost fs t d l sp) S = .ok (.nx (rEnv work every cost fs t2 d2 l2 sp2)) S ∧ runZ work every cost xs.length t d l (fs.drop sp) = (t2, l2)
  | [], t, d, l, sp, hs => ⟨t, d, l, sp, forL_nil (gdOk_nil S), rfl⟩
  | x :: xs, t, d, l, sp, hs => by
    rw [forL_cons (gdOk_nil S)]
    by_cases h : work ≤ d
    · refine ⟨t, d, l, sp, ?_, ?_⟩
      · rw [turn_stop work every cost fs t d l sp x S h]
        rfl
      · rw [List.length_cons, runZ, if_pos h]
    · obtain ⟨sp2, t2, d2, l2, h1, h2, h3⟩ := turn_go (G := G) work every cost fs t d l sp x S h hs hfu
      obtain ⟨t3, d3, l3, sp3, h4, h5⟩ := runs_loop work every cost fs S hfu xs t2 d2 l2 sp2 h1
      refine ⟨t3, d3, l3, sp3, ?_, ?_⟩
      · rw [h2]
        exact h4
      · rw [List.length_cons, h3]
        exact h5
theorem runs_ok {fuel k : Nat} (work every cost : Int) (fs : List Int) (S : Store) (hfu : fs.length < fuel) (hw : 0 ≤ work) (hw2 : work ≤ 1000000) (hf2 : fs.length ≤ 1000000) :
    (lev src.P fuel (k + 1)).call "_law_runs" [.int work, .int every, .int cost, .fl (fs.map Val.int)] S =
      .ok (.fl [.int (runZ work every cost (work + fs.length + 1).toNat 0 0 0 fs).1, .int (runZ work every cost (work + fs.length + 1).toNat 0 0 0 fs).2]) S := by
  have hg : (lev src.P fuel k).fuel = fuel := by cases k <;> rfl
  have hr : inR (work + fs.length + 1) := ⟨Int.le_trans (by decide) (by omega : (0 : Int) ≤ work + fs.length + 1), Int.lt_of_le_of_lt (by omega : work + fs.length + 1 ≤ 3000000) (by decide)⟩
  obtain ⟨t2, d2, l2, sp2, h1, h2⟩ := runs_loop (G := lev src.P fuel k) work every cost fs S (by rw [hg]; exact hfu) (rangeL 0 (work + fs.length + 1)) 0 0 0 0 (Nat.zero_le _)
  have hl : (rangeL 0 (work + fs.length + 1)).length = (work + fs.length + 1).toNat := by rw [rangeL_len, Int.sub_zero]
  rw [hl, List.drop_zero] at h2
  rw [h2, lev_call find_runs, run_eq rfl]
  have mk : ∀ (a b : Val) (S : Store), mkList false [a, b] S = .ok (.fl [a, b]) S := fun a b S => r_mk (le_line (by simp))
  have h1b : forL [] (stepF (lev src.P fuel k) (.nm 8) l__law_runs_1 [8, 9, 10]) (rangeL 0 (work + fs.length + 1)) [some (Val.int work), some (Val.int every), some (Val.int cost), some (Val.fl (fs.map Val.int)), some (Val.int 0), some (Val.int 0), some (Val.int 0), some (Val.int 0), none, none, none] S = .ok (.nx [some (Val.int work), some (Val.int every), some (Val.int cost), some (Val.fl (fs.map Val.int)), some (Val.int t2), some (Val.int d2), some (Val.int l2), some (Val.int sp2), none, none, none]) S := h1
  simp -implicitDefEqProofs [Ev.R.ok_bind, e_v, e_lk, e_i, e_b, e_s, e_n, e_bin, e_bin1, e_bin2, e_neg, e_neg1, e_not, e_not1, e_not2, e_and, e_and1, e_and2, e_or, e_or1, e_or2, e_cmp, e_cmp1, e_cmp2, e_bl, e_ite, e_ite1, e_tup, e_tup1, e_lst, e_lst1, e_ix, e_ix1, e_ix2, e_fld, e_fld1, e_es0, e_es, e_es1, e_es2, e_call, e_call1, e_call2, e_call3, e_make, e_make1, e_make2, e_meth, e_meth1, e_meth2, e_meth3, e_blt, e_blt1, e_bm, e_bm1, e_bm2, u_not, u_not1, u_and, u_and1, u_or, u_or1, u_v, u_b, u_tr, u_cmp, u_cmp1, u_cmp2, u_ch, u_ch1, u_ch2, u_ch3, u_ix, u_fld, u_meth, u_blt, u_call, s_nil, s_cons, s_nx, s_rt, s_bk, s_ct, s_set, s_set1, s_asg, s_asg1, s_asg2, s_par, s_par1, s_par2, s_six, s_six1, s_six2, s_six3, s_ost, s_sf, s_sf1, s_sf2, s_ex, s_ex1, s_ret, s_ret1, s_retn, s_if, s_if1, s_pass, s_brk, s_cnt, e_lc, e_lc1, c_no, c_so, kC_ok, kSo_ok, i_e, i_rl, i_fl, i_tup, i_rg, s_for, s_for1, step_ok, cl_nx, cl_ct, cl_bk, cl_rt, s_wh, r_add, r_sub, r_mulR, r_mulL, r_modL, r_fdivL, r_tt, r_p18, r_lt, r_le, r_gt, r_ge, r_eq, r_ne, r_ofO, r_ixf, r_ixr, r_ixt, r_lenf, r_lenr, r_lent, r_int, r_abs, r_min2, r_max2, r_ti, r_tb, end_rt, end_nx, end_rt_t, end_nx_t, chk_true, atI_0, atI_1, atI_2, atI_nat, bltV, asg, asgL, clr, f__law_runs, b__law_runs, i_rg1 hr, h1b, mk]
end Lw

set_option Elab.async false
set_option linter.all false
set_option maxRecDepth 100000
set_option maxHeartbeats 1000000
namespace Lw
open PySem Ev
theorem find_init : src.P.fns.find? (fun f => f.qual == "Worker.__init__") = some f_Worker___init__ := by rfl
theorem find_go : src.P.fns.find? (fun f => f.qual == "Worker.go_on") = some f_Worker_go_on := by rfl
theorem find_fall : src.P.fns.find? (fun f => f.qual == "Worker.fall") = some f_Worker_fall := by rfl
theorem find_drop : src.P.fns.find? (fun f => f.qual == "Worker.drop_passed") = some f_Worker_drop_passed := by rfl
theorem find_run : src.P.fns.find? (fun f => f.qual == "Worker.run") = some f_Worker_run := by rfl
theorem find_done : src.P.fns.find? (fun f => f.qual == "worker_done") = some f_worker_done := by rfl
/-- a worker's fields -/
abbrev wF (work every cost : Int) (q : Nat) (t k l : Int) : List (String × Val) := [("work", .int work), ("every", .int every), ("cost", .int cost), ("falls", .ref q), ("moment", .int t), ("kept", .int k), ("lost", .int l)]
/-- the two cells of a worker at the end of the store -/
abbrev wS (S : Store) (work every cost t k l : Int) (F : List Int) : Store := S ++ [Cell.obj "Worker" (wF work every cost (S.length + 1) t k l), Cell.lst (F.map Val.int)]
theorem sf_1 {G : Gm} {ρ : Ev.Env} {S : Store} {c f : String} {fs : List (String × Val)} {v : Val} (h : G.fld c f = true) (hl : fs.length < 900) : sfV G ρ (.ref S.length) f v (S ++ [Cell.obj c fs]) = .ok (.nx ρ) (S ++ [Cell.obj c (putFs f v fs)]) := by
  have e : (S ++ [Cell.obj c fs])[S.length]? = some (Cell.obj c fs) := by simp
  simp [sfV, objOf, setfldV, h, hl]
theorem sf_2 {G : Gm} {ρ : Ev.Env} {S : Store} {c f : String} {fs : List (String × Val)} {v : Val} {B : Cell} (h : G.fld c f = true) (hl : fs.length < 900) : sfV G ρ (.ref S.length) f v (S ++ [Cell.obj c fs, B]) = .ok (.nx ρ) (S ++ [Cell.obj c (putFs f v fs), B]) := by
  simp [sfV, objOf, setfldV, h, hl]
theorem init_ok {fuel k : Nat} (work every cost : Int) (v : Val) (F : List Int) (S : Store) (hv : ∀ S, listB true [v] S = .ok (.ref S.length) (S ++ [.lst (F.map Val.int)])) :
    (lev src.P fuel (k + 1)).call "Worker.__init__" [.ref S.length, .int work, .int every, .int cost, v] (S ++ [.obj "Worker" []]) = .ok .non (wS S work every cost 0 0 0 F) := by
  rw [lev_call find_init, run_eq rfl]
  have fw : ∀ f, (lev src.P fuel k).fld "Worker" f = ["work", "every", "cost", "falls", "moment", "kept", "lost"].contains f := fun f => by cases k <;> rfl
  have hv2 : listB true [v] (S ++ [Cell.obj "Worker" [("work", .int work), ("every", .int every), ("cost", .int cost)]]) = .ok (.ref (S.length + 1)) (S ++ [Cell.obj "Worker" [("work", .int work), ("every", .int every), ("cost", .int cost)], Cell.lst (F.map Val.int)]) := by
    rw [hv]
    simp
  simp -implicitDefEqProofs [Ev.R.ok_bind, e_v, e_lk, e_i, e_b, e_s, e_n, e_bin, e_bin1, e_bin2, e_neg, e_neg1, e_not, e_not1, e_not2, e_and, e_and1, e_and2, e_or, e_or1, e_or2, e_cmp, e_cmp1, e_cmp2, e_bl, e_ite, e_ite1, e_tup, e_tup1, e_lst, e_lst1, e_ix, e_ix1, e_ix2, e_fld, e_fld1, e_es0, e_es, e_es1, e_es2, e_call, e_call1, e_call2, e_call3, e_make, e_make1, e_make2, e_meth, e_meth1, e_meth2, e_meth3, e_blt, e_blt1, e_bm, e_bm1, e_bm2, u_not, u_not1, u_and, u_and1, u_or, u_or1, u_v, u_b, u_tr, u_cmp, u_cmp1, u_cmp2, u_ch, u_ch1, u_ch2, u_ch3, u_ix, u_fld, u_meth, u_blt, u_call, s_nil, s_cons, s_nx, s_rt, s_bk, s_ct, s_set, s_set1, s_asg, s_asg1, s_asg2, s_par, s_par1, s_par2, s_six, s_six1, s_six2, s_six3, s_ost, s_sf, s_sf1, s_sf2, s_ex, s_ex1, s_ret, s_ret1, s_retn, s_if, s_if1, s_pass, s_brk, s_cnt, e_lc, e_lc1, c_no, c_so, kC_ok, kSo_ok, i_e, i_rl, i_fl, i_tup, i_rg, s_for, s_for1, step_ok, cl_nx, cl_ct, cl_bk, cl_rt, s_wh, r_add, r_sub, r_mulR, r_mulL, r_modL, r_fdivL, r_tt, r_p18, r_lt, r_le, r_gt, r_ge, r_eq, r_ne, r_ofO, r_ixf, r_ixr, r_ixt, r_lenf, r_lenr, r_lent, r_int, r_abs, r_min2, r_max2, r_ti, r_tb, end_rt, end_nx, end_rt_t, end_nx_t, chk_true, atI_0, atI_1, atI_2, atI_nat, bltV, asg, asgL, clr, f_Worker___init__, b_Worker___init__, sf_1, sf_2, fw, putFs, hv2]
theorem fw {fuel k : Nat} (f : String) : (lev src.P fuel k).fld "Worker" f = ["work", "every", "cost", "falls", "moment", "kept", "lost"].contains f := by cases k <;> rfl
/-- reading a field of the worker -/
theorem fl_1 {G : Gm} {S : Store} {c f : String} {fs : List (String × Val)} {B : Cell} {v : Val} (h : G.fld c f = true) (hv : fs.lookup f = some v) : fldV G (.ref S.length) f (S ++ [Cell.obj c fs, B]) = .ok v (S ++ [Cell.obj c fs, B]) := by
  simp [fldV, objOf, h, hv, ofO]
theorem pop_1 {S : Store} {A : Cell} {f : Int} {F : List Int} : bmV .pop (.ref (S.length + 1)) [.int 0] (S ++ [A, Cell.lst ((f :: F).map Val.int)]) = .ok (.int f) (S ++ [A, Cell.lst (F.map Val.int)]) := by
  have h : (S ++ [A, Cell.lst ((f :: F).map Val.int)])[S.length + 1]? = some (Cell.lst ((f :: F).map Val.int)) := g_1
  show bmO .pop (.ref (S.length + 1)) [.int 0] _ = _
  simp only [bmO, h]
  show chk _ _ = _
  rw [chk_pos ⟨by decide, by decide⟩]
  simp [L2.ixN, w_1]
theorem af_ok {G : Gm} {ρ : Ev.Env} {S : Store} {c f : String} {fs : List (String × Val)} {B : Cell} {a e : E} {i j : Int} (h : G.fld c f = true) (hl : fs.length < 900) (hv : fs.lookup f = some (.int i))
    (ha : denE G a ρ (S ++ [Cell.obj c fs, B]) = .ok (.ref S.length) (S ++ [Cell.obj c fs, B])) (he : denE G e ρ (S ++ [Cell.obj c fs, B]) = .ok (.int j) (S ++ [Cell.obj c fs, B])) :
    denS G (.augfld a f .add e) ρ (S ++ [Cell.obj c fs, B]) = .ok (.nx ρ) (S ++ [Cell.obj c (putFs f (.int (i + j)) fs), B]) := by
  have o : objOf (S ++ [Cell.obj c fs, B]) (.ref S.length) = some (c, fs) := by simp [objOf]
  simp [denS, ha, he, o, h, hv, ofO, Ev.R.ok_bind, augV, setfldV, hl, chk]
theorem fall_ok {fuel k : Nat} (work every cost t kp l f u : Int) (F : List Int) (S : Store) :
    (lev src.P fuel (k + 1)).call "Worker.fall" [.ref S.length, .int u] (wS S work every cost t kp l (f :: F)) = .ok .non (wS S work every cost f kp (l + u) F) := by
  rw [lev_call find_fall, run_eq rfl]
  have h1 := fl_1 (G := lev src.P fuel k) (S := S) (c := "Worker") (f := "falls") (fs := wF work every cost (S.length + 1) t kp l) (B := Cell.lst (Val.int f :: F.map Val.int)) (v := .ref (S.length + 1)) (by rw [fw]; rfl) rfl
  have h2 : ∀ (A : Cell) (xs : List Val), isLst (S ++ [A, Cell.lst xs]) (.ref (S.length + 1)) = true := fun _ _ => r_isl g_1
  have h5 : ∀ (A : Cell), bmV .pop (.ref (S.length + 1)) [.int 0] (S ++ [A, Cell.lst (Val.int f :: F.map Val.int)]) = .ok (.int f) (S ++ [A, Cell.lst (F.map Val.int)]) := fun _ => pop_1
  have h3 := sf_2 (G := lev src.P fuel k) (ρ := [some (.ref S.length), some (.int u)]) (S := S) (c := "Worker") (f := "moment") (fs := wF work every cost (S.length + 1) t kp l) (v := .int f) (B := Cell.lst (F.map Val.int)) (by rw [fw]; rfl) (show (7 : Nat) < 900 by decide)
  have h4 := af_ok (G := lev src.P fuel k) (ρ := [some (.ref S.length), some (.int u)]) (S := S) (c := "Worker") (f := "lost") (fs := wF work every cost (S.length + 1) f kp l) (B := Cell.lst (F.map Val.int)) (a := .v 0) (e := .v 1) (i := l) (j := u) (by rw [fw]; rfl) (show (7 : Nat) < 900 by decide) rfl (by simp -implicitDefEqProofs [Ev.R.ok_bind, e_v, e_lk, e_i, e_b, e_s, e_n, e_bin, e_bin1, e_bin2, e_neg, e_neg1, e_not, e_not1, e_not2, e_and, e_and1, e_and2, e_or, e_or1, e_or2, e_cmp, e_cmp1, e_cmp2, e_bl, e_ite, e_ite1, e_tup, e_tup1, e_lst, e_lst1, e_ix, e_ix1, e_ix2, e_fld, e_fld1, e_es0, e_es, e_es1, e_es2, e_call, e_call1, e_call2, e_call3, e_make, e_make1, e_make2, e_meth, e_meth1, e_meth2, e_meth3, e_blt, e_blt1, e_bm, e_bm1, e_bm2, u_not, u_not1, u_and, u_and1, u_or, u_or1, u_v, u_b, u_tr, u_cmp, u_cmp1, u_cmp2, u_ch, u_ch1, u_ch2, u_ch3, u_ix, u_fld, u_meth, u_blt, u_call, s_nil, s_cons, s_nx, s_rt, s_bk, s_ct, s_set, s_set1, s_asg, s_asg1, s_asg2, s_par, s_par1, s_par2, s_six, s_six1, s_six2, s_six3, s_ost, s_sf, s_sf1, s_sf2, s_ex, s_ex1, s_ret, s_ret1, s_retn, s_if, s_if1, s_pass, s_brk, s_cnt, e_lc, e_lc1, c_no, c_so, kC_ok, kSo_ok, i_e, i_rl, i_fl, i_tup, i_rg, s_for, s_for1, step_ok, cl_nx, cl_ct, cl_bk, cl_rt, s_wh, r_add, r_sub, r_mulR, r_mulL, r_modL, r_fdivL, r_tt, r_p18, r_lt, r_le, r_gt, r_ge, r_eq, r_ne, r_ofO, r_ixf, r_ixr, r_ixt, r_lenf, r_lenr, r_lent, r_int, r_abs, r_min2, r_max2, r_ti, r_tb, end_rt, end_nx, end_rt_t, end_nx_t, chk_true, atI_0, atI_1, atI_2, atI_nat, bltV, asg, asgL, clr]) (by simp -implicitDefEqProofs [Ev.R.ok_bind, e_v, e_lk, e_i, e_b, e_s, e_n, e_bin, e_bin1, e_bin2, e_neg, e_neg1, e_not, e_not1, e_not2, e_and, e_and1, e_and2, e_or, e_or1, e_or2, e_cmp, e_cmp1, e_cmp2, e_bl, e_ite, e_ite1, e_tup, e_tup1, e_lst, e_lst1, e_ix, e_ix1, e_ix2, e_fld, e_fld1, e_es0, e_es, e_es1, e_es2, e_call, e_call1, e_call2, e_call3, e_make, e_make1, e_make2, e_meth, e_meth1, e_meth2, e_meth3, e_blt, e_blt1, e_bm, e_bm1, e_bm2, u_not, u_not1, u_and, u_and1, u_or, u_or1, u_v, u_b, u_tr, u_cmp, u_cmp1, u_cmp2, u_ch, u_ch1, u_ch2, u_ch3, u_ix, u_fld, u_meth, u_blt, u_call, s_nil, s_cons, s_nx, s_rt, s_bk, s_ct, s_set, s_set1, s_asg, s_asg1, s_asg2, s_par, s_par1, s_par2, s_six, s_six1, s_six2, s_six3, s_ost, s_sf, s_sf1, s_sf2, s_ex, s_ex1, s_ret, s_ret1, s_retn, s_if, s_if1, s_pass, s_brk, s_cnt, e_lc, e_lc1, c_no, c_so, kC_ok, kSo_ok, i_e, i_rl, i_fl, i_tup, i_rg, s_for, s_for1, step_ok, cl_nx, cl_ct, cl_bk, cl_rt, s_wh, r_add, r_sub, r_mulR, r_mulL, r_modL, r_fdivL, r_tt, r_p18, r_lt, r_le, r_gt, r_ge, r_eq, r_ne, r_ofO, r_ixf, r_ixr, r_ixt, r_lenf, r_lenr, r_lent, r_int, r_abs, r_min2, r_max2, r_ti, r_tb, end_rt, end_nx, end_rt_t, end_nx_t, chk_true, atI_0, atI_1, atI_2, atI_nat, bltV, asg, asgL, clr])
  have p3 : putFs "moment" (.int f) (wF work every cost (S.length + 1) t kp l) = wF work every cost (S.length + 1) f kp l := rfl
  rw [p3] at h3
  have p4 : putFs "lost" (.int (l + u)) (wF work every cost (S.length + 1) f kp l) = wF work every cost (S.length + 1) f kp (l + u) := rfl
  rw [p4] at h4
  simp -implicitDefEqProofs [Ev.R.ok_bind, e_v, e_lk, e_i, e_b, e_s, e_n, e_bin, e_bin1, e_bin2, e_neg, e_neg1, e_not, e_not1, e_not2, e_and, e_and1, e_and2, e_or, e_or1, e_or2, e_cmp, e_cmp1, e_cmp2, e_bl, e_ite, e_ite1, e_tup, e_tup1, e_lst, e_lst1, e_ix, e_ix1, e_ix2, e_fld, e_fld1, e_es0, e_es, e_es1, e_es2, e_call, e_call1, e_call2, e_call3, e_make, e_make1, e_make2, e_meth, e_meth1, e_meth2, e_meth3, e_blt, e_blt1, e_bm, e_bm1, e_bm2, u_not, u_not1, u_and, u_and1, u_or, u_or1, u_v, u_b, u_tr, u_cmp, u_cmp1, u_cmp2, u_ch, u_ch1, u_ch2, u_ch3, u_ix, u_fld, u_meth, u_blt, u_call, s_nil, s_cons, s_nx, s_rt, s_bk, s_ct, s_set, s_set1, s_asg, s_asg1, s_asg2, s_par, s_par1, s_par2, s_six, s_six1, s_six2, s_six3, s_ost, s_sf, s_sf1, s_sf2, s_ex, s_ex1, s_ret, s_ret1, s_retn, s_if, s_if1, s_pass, s_brk, s_cnt, e_lc, e_lc1, c_no, c_so, kC_ok, kSo_ok, i_e, i_rl, i_fl, i_tup, i_rg, s_for, s_for1, step_ok, cl_nx, cl_ct, cl_bk, cl_rt, s_wh, r_add, r_sub, r_mulR, r_mulL, r_modL, r_fdivL, r_tt, r_p18, r_lt, r_le, r_gt, r_ge, r_eq, r_ne, r_ofO, r_ixf, r_ixr, r_ixt, r_lenf, r_lenr, r_lent, r_int, r_abs, r_min2, r_max2, r_ti, r_tb, end_rt, end_nx, end_rt_t, end_nx_t, chk_true, atI_0, atI_1, atI_2, atI_nat, bltV, asg, asgL, clr, f_Worker_fall, b_Worker_fall, wS, h1, h2, h5, h3, h4]
theorem drop_loop {G : Gm} (hG : ∀ f, G.fld "Worker" f = ["work", "every", "cost", "falls", "moment", "kept", "lost"].contains f) (work every cost t kp l : Int) (S : Store) : ∀ (n : Nat) (F : List Int), F.length < n →
    whL (denT G (.and (.cmp .gt (.blt false .len (.cons (.fld (.v 0) "falls") .nil)) (.i 0)) (.cmp .le (.ix (.fld (.v 0) "falls") (.i 0)) (.fld (.v 0) "moment")))) (bodyF G l_Worker_drop_passed_0 []) n [some (.ref S.length)] (wS S work every cost t kp l F) =
      .ok (.nx [some (.ref S.length)]) (wS S work every cost t kp l (dropP t F))
  | 0, F, h => absurd h (by omega)
  | n + 1, F, h => by
    have h1 : ∀ B : Cell, fldV G (.ref S.length) "falls" (S ++ [Cell.obj "Worker" (wF work every cost (S.length + 1) t kp l), B]) = .ok (.ref (S.length + 1)) (S ++ [Cell.obj "Worker" (wF work every cost (S.length + 1) t kp l), B]) := fun B => fl_1 (by rw [hG]; rfl) rfl
    have h1m : ∀ B : Cell, fldV G (.ref S.length) "moment" (S ++ [Cell.obj "Worker" (wF work every cost (S.length + 1) t kp l), B]) = .ok (.int t) (S ++ [Cell.obj "Worker" (wF work every cost (S.length + 1) t kp l), B]) := fun B => fl_1 (by rw [hG]; rfl) rfl
    have h2 : ∀ (A : Cell) (xs : List Val), isLst (S ++ [A, Cell.lst xs]) (.ref (S.length + 1)) = true := fun _ _ => r_isl g_1
    have h3 : ∀ (A : Cell) (xs : List Val), lenB [.ref (S.length + 1)] (S ++ [A, Cell.lst xs]) = .ok (.int xs.length) (S ++ [A, Cell.lst xs]) := fun _ _ => r_lens g_1
    have h4 : ∀ (A : Cell) (x : Val) (xs : List Val), ixV (.ref (S.length + 1)) (.int 0) (S ++ [A, Cell.lst (x :: xs)]) = some x := fun A x xs => by rw [r_ixs g_1, atI_0]; rfl
    cases F with
    | nil =>
      rw [wh_no (S1 := wS S work every cost t kp l [])]
      · rfl
      · simp -implicitDefEqProofs [Ev.R.ok_bind, e_v, e_lk, e_i, e_b, e_s, e_n, e_bin, e_bin1, e_bin2, e_neg, e_neg1, e_not, e_not1, e_not2, e_and, e_and1, e_and2, e_or, e_or1, e_or2, e_cmp, e_cmp1, e_cmp2, e_bl, e_ite, e_ite1, e_tup, e_tup1, e_lst, e_lst1, e_ix, e_ix1, e_ix2, e_fld, e_fld1, e_es0, e_es, e_es1, e_es2, e_call, e_call1, e_call2, e_call3, e_make, e_make1, e_make2, e_meth, e_meth1, e_meth2, e_meth3, e_blt, e_blt1, e_bm, e_bm1, e_bm2, u_not, u_not1, u_and, u_and1, u_or, u_or1, u_v, u_b, u_tr, u_cmp, u_cmp1, u_cmp2, u_ch, u_ch1, u_ch2, u_ch3, u_ix, u_fld, u_meth, u_blt, u_call, s_nil, s_cons, s_nx, s_rt, s_bk, s_ct, s_set, s_set1, s_asg, s_asg1, s_asg2, s_par, s_par1, s_par2, s_six, s_six1, s_six2, s_six3, s_ost, s_sf, s_sf1, s_sf2, s_ex, s_ex1, s_ret, s_ret1, s_retn, s_if, s_if1, s_pass, s_brk, s_cnt, e_lc, e_lc1, c_no, c_so, kC_ok, kSo_ok, i_e, i_rl, i_fl, i_tup, i_rg, s_for, s_for1, step_ok, cl_nx, cl_ct, cl_bk, cl_rt, s_wh, r_add, r_sub, r_mulR, r_mulL, r_modL, r_fdivL, r_tt, r_p18, r_lt, r_le, r_gt, r_ge, r_eq, r_ne, r_ofO, r_ixf, r_ixr, r_ixt, r_lenf, r_lenr, r_lent, r_int, r_abs, r_min2, r_max2, r_ti, r_tb, end_rt, end_nx, end_rt_t, end_nx_t, chk_true, atI_0, atI_1, atI_2, atI_nat, bltV, asg, asgL, clr, wS, h1, h3]
    | cons f R =>
      have h5 : ∀ (A : Cell), bmV .pop (.ref (S.length + 1)) [.int 0] (S ++ [A, Cell.lst (Val.int f :: R.map Val.int)]) = .ok (.int f) (S ++ [A, Cell.lst (R.map Val.int)]) := fun _ => pop_1
      by_cases hf : f ≤ t
      · have ih := drop_loop hG work every cost t kp l S n R (by simp at h; omega)
        rw [wh_yes (S1 := wS S work every cost t kp l (f :: R)) (S2 := wS S work every cost t kp l R) (ρ1 := [some (.ref S.length)]), ih, dropP, if_pos hf]
        · simp -implicitDefEqProofs [Ev.R.ok_bind, e_v, e_lk, e_i, e_b, e_s, e_n, e_bin, e_bin1, e_bin2, e_neg, e_neg1, e_not, e_not1, e_not2, e_and, e_and1, e_and2, e_or, e_or1, e_or2, e_cmp, e_cmp1, e_cmp2, e_bl, e_ite, e_ite1, e_tup, e_tup1, e_lst, e_lst1, e_ix, e_ix1, e_ix2, e_fld, e_fld1, e_es0, e_es, e_es1, e_es2, e_call, e_call1, e_call2, e_call3, e_make, e_make1, e_make2, e_meth, e_meth1, e_meth2, e_meth3, e_blt, e_blt1, e_bm, e_bm1, e_bm2, u_not, u_not1, u_and, u_and1, u_or, u_or1, u_v, u_b, u_tr, u_cmp, u_cmp1, u_cmp2, u_ch, u_ch1, u_ch2, u_ch3, u_ix, u_fld, u_meth, u_blt, u_call, s_nil, s_cons, s_nx, s_rt, s_bk, s_ct, s_set, s_set1, s_asg, s_asg1, s_asg2, s_par, s_par1, s_par2, s_six, s_six1, s_six2, s_six3, s_ost, s_sf, s_sf1, s_sf2, s_ex, s_ex1, s_ret, s_ret1, s_retn, s_if, s_if1, s_pass, s_brk, s_cnt, e_lc, e_lc1, c_no, c_so, kC_ok, kSo_ok, i_e, i_rl, i_fl, i_tup, i_rg, s_for, s_for1, step_ok, cl_nx, cl_ct, cl_bk, cl_rt, s_wh, r_add, r_sub, r_mulR, r_mulL, r_modL, r_fdivL, r_tt, r_p18, r_lt, r_le, r_gt, r_ge, r_eq, r_ne, r_ofO, r_ixf, r_ixr, r_ixt, r_lenf, r_lenr, r_lent, r_int, r_abs, r_min2, r_max2, r_ti, r_tb, end_rt, end_nx, end_rt_t, end_nx_t, chk_true, atI_0, atI_1, atI_2, atI_nat, bltV, asg, asgL, clr, wS, h1, h1m, h3, h4, hf]
        · unfold bodyF
          simp -implicitDefEqProofs [Ev.R.ok_bind, e_v, e_lk, e_i, e_b, e_s, e_n, e_bin, e_bin1, e_bin2, e_neg, e_neg1, e_not, e_not1, e_not2, e_and, e_and1, e_and2, e_or, e_or1, e_or2, e_cmp, e_cmp1, e_cmp2, e_bl, e_ite, e_ite1, e_tup, e_tup1, e_lst, e_lst1, e_ix, e_ix1, e_ix2, e_fld, e_fld1, e_es0, e_es, e_es1, e_es2, e_call, e_call1, e_call2, e_call3, e_make, e_make1, e_make2, e_meth, e_meth1, e_meth2, e_meth3, e_blt, e_blt1, e_bm, e_bm1, e_bm2, u_not, u_not1, u_and, u_and1, u_or, u_or1, u_v, u_b, u_tr, u_cmp, u_cmp1, u_cmp2, u_ch, u_ch1, u_ch2, u_ch3, u_ix, u_fld, u_meth, u_blt, u_call, s_nil, s_cons, s_nx, s_rt, s_bk, s_ct, s_set, s_set1, s_asg, s_asg1, s_asg2, s_par, s_par1, s_par2, s_six, s_six1, s_six2, s_six3, s_ost, s_sf, s_sf1, s_sf2, s_ex, s_ex1, s_ret, s_ret1, s_retn, s_if, s_if1, s_pass, s_brk, s_cnt, e_lc, e_lc1, c_no, c_so, kC_ok, kSo_ok, i_e, i_rl, i_fl, i_tup, i_rg, s_for, s_for1, step_ok, cl_nx, cl_ct, cl_bk, cl_rt, s_wh, r_add, r_sub, r_mulR, r_mulL, r_modL, r_fdivL, r_tt, r_p18, r_lt, r_le, r_gt, r_ge, r_eq, r_ne, r_ofO, r_ixf, r_ixr, r_ixt, r_lenf, r_lenr, r_lent, r_int, r_abs, r_min2, r_max2, r_ti, r_tb, end_rt, end_nx, end_rt_t, end_nx_t, chk_true, atI_0, atI_1, atI_2, atI_nat, bltV, asg, asgL, clr, l_Worker_drop_passed_0, wS, h1, h2, h5]
      · rw [wh_no (S1 := wS S work every cost t kp l (f :: R)), dropP, if_neg hf]
        simp -implicitDefEqProofs [Ev.R.ok_bind, e_v, e_lk, e_i, e_b, e_s, e_n, e_bin, e_bin1, e_bin2, e_neg, e_neg1, e_not, e_not1, e_not2, e_and, e_and1, e_and2, e_or, e_or1, e_or2, e_cmp, e_cmp1, e_cmp2, e_bl, e_ite, e_ite1, e_tup, e_tup1, e_lst, e_lst1, e_ix, e_ix1, e_ix2, e_fld, e_fld1, e_es0, e_es, e_es1, e_es2, e_call, e_call1, e_call2, e_call3, e_make, e_make1, e_make2, e_meth, e_meth1, e_meth2, e_meth3, e_blt, e_blt1, e_bm, e_bm1, e_bm2, u_not, u_not1, u_and, u_and1, u_or, u_or1, u_v, u_b, u_tr, u_cmp, u_cmp1, u_cmp2, u_ch, u_ch1, u_ch2, u_ch3, u_ix, u_fld, u_meth, u_blt, u_call, s_nil, s_cons, s_nx, s_rt, s_bk, s_ct, s_set, s_set1, s_asg, s_asg1, s_asg2, s_par, s_par1, s_par2, s_six, s_six1, s_six2, s_six3, s_ost, s_sf, s_sf1, s_sf2, s_ex, s_ex1, s_ret, s_ret1, s_retn, s_if, s_if1, s_pass, s_brk, s_cnt, e_lc, e_lc1, c_no, c_so, kC_ok, kSo_ok, i_e, i_rl, i_fl, i_tup, i_rg, s_for, s_for1, step_ok, cl_nx, cl_ct, cl_bk, cl_rt, s_wh, r_add, r_sub, r_mulR, r_mulL, r_modL, r_fdivL, r_tt, r_p18, r_lt, r_le, r_gt, r_ge, r_eq, r_ne, r_ofO, r_ixf, r_ixr, r_ixt, r_lenf, r_lenr, r_lent, r_int, r_abs, r_min2, r_max2, r_ti, r_tb, end_rt, end_nx, end_rt_t, end_nx_t, chk_true, atI_0, atI_1, atI_2, atI_nat, bltV, asg, asgL, clr, wS, h1, h1m, h3, h4, hf]
theorem lv_fuel {fuel k : Nat} : (lev src.P fuel k).fuel = fuel := by cases k <;> rfl
theorem drop_ok {fuel k : Nat} (work every cost t kp l : Int) (F : List Int) (S : Store) (hF : F.length < fuel) :
    (lev src.P fuel (k + 1)).call "Worker.drop_passed" [.ref S.length] (wS S work every cost t kp l F) = .ok .non (wS S work every cost t kp l (dropP t F)) := by
  rw [lev_call find_drop, run_eq rfl]
  have h := drop_loop (G := lev src.P fuel k) fw work every cost t kp l S fuel F hF
  simp -implicitDefEqProofs [Ev.R.ok_bind, e_v, e_lk, e_i, e_b, e_s, e_n, e_bin, e_bin1, e_bin2, e_neg, e_neg1, e_not, e_not1, e_not2, e_and, e_and1, e_and2, e_or, e_or1, e_or2, e_cmp, e_cmp1, e_cmp2, e_bl, e_ite, e_ite1, e_tup, e_tup1, e_lst, e_lst1, e_ix, e_ix1, e_ix2, e_fld, e_fld1, e_es0, e_es, e_es1, e_es2, e_call, e_call1, e_call2, e_call3, e_make, e_make1, e_make2, e_meth, e_meth1, e_meth2, e_meth3, e_blt, e_blt1, e_bm, e_bm1, e_bm2, u_not, u_not1, u_and, u_and1, u_or, u_or1, u_v, u_b, u_tr, u_cmp, u_cmp1, u_cmp2, u_ch, u_ch1, u_ch2, u_ch3, u_ix, u_fld, u_meth, u_blt, u_call, s_nil, s_cons, s_nx, s_rt, s_bk, s_ct, s_set, s_set1, s_asg, s_asg1, s_asg2, s_par, s_par1, s_par2, s_six, s_six1, s_six2, s_six3, s_ost, s_sf, s_sf1, s_sf2, s_ex, s_ex1, s_ret, s_ret1, s_retn, s_if, s_if1, s_pass, s_brk, s_cnt, e_lc, e_lc1, c_no, c_so, kC_ok, kSo_ok, i_e, i_rl, i_fl, i_tup, i_rg, s_for, s_for1, step_ok, cl_nx, cl_ct, cl_bk, cl_rt, s_wh, r_add, r_sub, r_mulR, r_mulL, r_modL, r_fdivL, r_tt, r_p18, r_lt, r_le, r_gt, r_ge, r_eq, r_ne, r_ofO, r_ixf, r_ixr, r_ixt, r_lenf, r_lenr, r_lent, r_int, r_abs, r_min2, r_max2, r_ti, r_tb, end_rt, end_nx, end_rt_t, end_nx_t, chk_true, atI_0, atI_1, atI_2, atI_nat, bltV, asg, asgL, clr, f_Worker_drop_passed, b_Worker_drop_passed, lv_fuel, h]
theorem me_ok {fuel k : Nat} {S S2 : Store} {c f q : String} {fs : List (String × Val)} {B : Cell} {sh : Nat} {vs us : List Val} (h1 : fs.lookup f = none) (h2 : (lev src.P fuel k).meth c f = some q) (h3 : (lev src.P fuel k).arr sh (.ref S.length :: vs) = some us) :
    methV (lev src.P fuel k) (.ref S.length) f sh vs (S ++ [Cell.obj c fs, B]) S2 = (lev src.P fuel k).call q us S2 := by
  have o : objOf (S ++ [Cell.obj c fs, B]) (.ref S.length) = some (c, fs) := by simp [objOf]
  simp only [methV, o, h1, h2, h3]
/-- one turn of a worker -/
def goZ (work every cost t kp l : Int) (F : List Int) : Int × Int × Int × List Int :=
  let u := minZ (work - kp) every
  let e := t + (if u = work - kp then u else u + cost)
  match F with
  | f :: R => if f < e then (f, kp, l + minZ u (f - t), R) else (e, kp + u, l, dropP e (f :: R))
  | [] => (e, kp + u, l, [])
theorem go_ok {fuel k : Nat} (work every cost t kp l : Int) (F : List Int) (S : Store) (hF : F.length < fuel) :
    (lev src.P fuel (k + 2)).call "Worker.go_on" [.ref S.length] (wS S work every cost t kp l F) =
      .ok .non (wS S work every cost (goZ work every cost t kp l F).1 (goZ work every cost t kp l F).2.1 (goZ work every cost t kp l F).2.2.1 (goZ work every cost t kp l F).2.2.2) := by
  rw [lev_call find_go, run_eq rfl]
  have mz : ∀ (i j : Int) (S : Store), minB [.int i, .int j] S = .ok (.int (minZ i j)) S := fun _ _ _ => rfl
  have fld : ∀ (f : String) (v : Val) (t kp l : Int) (B : Cell), ["work", "every", "cost", "falls", "moment", "kept", "lost"].contains f = true → (wF work every cost (S.length + 1) t kp l).lookup f = some v →
      fldV (lev src.P fuel (k + 1)) (.ref S.length) f (S ++ [Cell.obj "Worker" (wF work every cost (S.length + 1) t kp l), B]) = .ok v (S ++ [Cell.obj "Worker" (wF work every cost (S.length + 1) t kp l), B]) := fun f v t kp l B h1 h2 => fl_1 (by rw [fw]; exact h1) h2
  have f1 := fun t kp l B => fld "work" (.int work) t kp l B rfl rfl
  have f2 := fun t kp l B => fld "every" (.int every) t kp l B rfl rfl
  have f3 := fun t kp l B => fld "cost" (.int cost) t kp l B rfl rfl
  have f4 := fun t kp l B => fld "falls" (.ref (S.length + 1)) t kp l B rfl rfl
  have f5 := fun t kp l B => fld "moment" (.int t) t kp l B rfl rfl
  have f6 := fun t kp l B => fld "kept" (.int kp) t kp l B rfl rfl
  have h3 : ∀ (A : Cell) (xs : List Val), lenB [.ref (S.length + 1)] (S ++ [A, Cell.lst xs]) = .ok (.int xs.length) (S ++ [A, Cell.lst xs]) := fun _ _ => r_lens g_1
  have h4 : ∀ (A : Cell) (x : Val) (xs : List Val), ixV (.ref (S.length + 1)) (.int 0) (S ++ [A, Cell.lst (x :: xs)]) = some x := fun A x xs => by rw [r_ixs g_1, atI_0]; rfl
  have m1 : ∀ (u : Int) (B : Cell) (S2 : Store), methV (lev src.P fuel (k + 1)) (.ref S.length) "fall" 0 [.int u] (S ++ [Cell.obj "Worker" (wF work every cost (S.length + 1) t kp l), B]) S2 = (lev src.P fuel (k + 1)).call "Worker.fall" [.ref S.length, .int u] S2 := fun u B S2 => me_ok rfl rfl rfl
  have m2 : ∀ (t kp l : Int) (B : Cell) (S2 : Store), methV (lev src.P fuel (k + 1)) (.ref S.length) "drop_passed" 1 [] (S ++ [Cell.obj "Worker" (wF work every cost (S.length + 1) t kp l), B]) S2 = (lev src.P fuel (k + 1)).call "Worker.drop_passed" [.ref S.length] S2 := fun t kp l B S2 => me_ok rfl rfl rfl
  have s5 : ∀ (ρ : Ev.Env) (v : Int) (B : Cell), sfV (lev src.P fuel (k + 1)) ρ (.ref S.length) "moment" (.int v) (S ++ [Cell.obj "Worker" (wF work every cost (S.length + 1) t kp l), B]) = .ok (.nx ρ) (S ++ [Cell.obj "Worker" (wF work every cost (S.length + 1) v kp l), B]) := fun ρ v B => sf_2 (by rw [fw]; rfl) (show (7 : Nat) < 900 by decide)
  have call1 : ∀ (u f : Int) (R : List Int), (lev src.P fuel (k + 1)).call "Worker.fall" [.ref S.length, .int u] (S ++ [Cell.obj "Worker" (wF work every cost (S.length + 1) t kp l), Cell.lst (Val.int f :: R.map Val.int)]) = .ok .non (wS S work every cost f kp (l + u) R) := fun u f R => fall_ok work every cost t kp l f u R S
  have call2 : ∀ (t kp l : Int) (F : List Int), F.length < fuel → (lev src.P fuel (k + 1)).call "Worker.drop_passed" [.ref S.length] (S ++ [Cell.obj "Worker" (wF work every cost (S.length + 1) t kp l), Cell.lst (F.map Val.int)]) = .ok .non (wS S work every cost t kp l (dropP t F)) := fun t kp l F h => drop_ok work every cost t kp l F S h
  have a6 : ∀ (v t kp l u : Int) (o1 o3 : Option Val) (B : Cell), denS (lev src.P fuel (k + 1)) (.augfld (.v 0) "kept" .add (.v 2)) [some (.ref S.length), o1, some (.int u), o3] (S ++ [Cell.obj "Worker" (wF work every cost (S.length + 1) t kp l), B]) =
      .ok (.nx [some (.ref S.length), o1, some (.int u), o3]) (S ++ [Cell.obj "Worker" (wF work every cost (S.length + 1) t (kp + u) l), B]) := fun v t kp l u o1 o3 B => by
    have := af_ok (G := lev src.P fuel (k + 1)) (ρ := [some (.ref S.length), o1, some (.int u), o3]) (S := S) (c := "Worker") (f := "kept") (fs := wF work every cost (S.length + 1) t kp l) (B := B) (a := .v 0) (e := .v 2) (i := kp) (j := u) (by rw [fw]; rfl) (show (7 : Nat) < 900 by decide) rfl (by simp -implicitDefEqProofs [Ev.R.ok_bind, e_v, e_lk, e_i, e_b, e_s, e_n, e_bin, e_bin1, e_bin2, e_neg, e_neg1, e_not, e_not1, e_not2, e_and, e_and1, e_and2, e_or, e_or1, e_or2, e_cmp, e_cmp1, e_cmp2, e_bl, e_ite, e_ite1, e_tup, e_tup1, e_lst, e_lst1, e_ix, e_ix1, e_ix2, e_fld, e_fld1, e_es0, e_es, e_es1, e_es2, e_call, e_call1, e_call2, e_call3, e_make, e_make1, e_make2, e_meth, e_meth1, e_meth2, e_meth3, e_blt, e_blt1, e_bm, e_bm1, e_bm2, u_not, u_not1, u_and, u_and1, u_or, u_or1, u_v, u_b, u_tr, u_cmp, u_cmp1, u_cmp2, u_ch, u_ch1, u_ch2, u_ch3, u_ix, u_fld, u_meth, u_blt, u_call, s_nil, s_cons, s_nx, s_rt, s_bk, s_ct, s_set, s_set1, s_asg, s_asg1, s_asg2, s_par, s_par1, s_par2, s_six, s_six1, s_six2, s_six3, s_ost, s_sf, s_sf1, s_sf2, s_ex, s_ex1, s_ret, s_ret1, s_retn, s_if, s_if1, s_pass, s_brk, s_cnt, e_lc, e_lc1, c_no, c_so, kC_ok, kSo_ok, i_e, i_rl, i_fl, i_tup, i_rg, s_for, s_for1, step_ok, cl_nx, cl_ct, cl_bk, cl_rt, s_wh, r_add, r_sub, r_mulR, r_mulL, r_modL, r_fdivL, r_tt, r_p18, r_lt, r_le, r_gt, r_ge, r_eq, r_ne, r_ofO, r_ixf, r_ixr, r_ixt, r_lenf, r_lenr, r_lent, r_int, r_abs, r_min2, r_max2, r_ti, r_tb, end_rt, end_nx, end_rt_t, end_nx_t, chk_true, atI_0, atI_1, atI_2, atI_nat, bltV, asg, asgL, clr]) (by simp -implicitDefEqProofs [Ev.R.ok_bind, e_v, e_lk, e_i, e_b, e_s, e_n, e_bin, e_bin1, e_bin2, e_neg, e_neg1, e_not, e_not1, e_not2, e_and, e_and1, e_and2, e_or, e_or1, e_or2, e_cmp, e_cmp1, e_cmp2, e_bl, e_ite, e_ite1, e_tup, e_tup1, e_lst, e_lst1, e_ix, e_ix1, e_ix2, e_fld, e_fld1, e_es0, e_es, e_es1, e_es2, e_call, e_call1, e_call2, e_call3, e_make, e_make1, e_make2, e_meth, e_meth1, e_meth2, e_meth3, e_blt, e_blt1, e_bm, e_bm1, e_bm2, u_not, u_not1, u_and, u_and1, u_or, u_or1, u_v, u_b, u_tr, u_cmp, u_cmp1, u_cmp2, u_ch, u_ch1, u_ch2, u_ch3, u_ix, u_fld, u_meth, u_blt, u_call, s_nil, s_cons, s_nx, s_rt, s_bk, s_ct, s_set, s_set1, s_asg, s_asg1, s_asg2, s_par, s_par1, s_par2, s_six, s_six1, s_six2, s_six3, s_ost, s_sf, s_sf1, s_sf2, s_ex, s_ex1, s_ret, s_ret1, s_retn, s_if, s_if1, s_pass, s_brk, s_cnt, e_lc, e_lc1, c_no, c_so, kC_ok, kSo_ok, i_e, i_rl, i_fl, i_tup, i_rg, s_for, s_for1, step_ok, cl_nx, cl_ct, cl_bk, cl_rt, s_wh, r_add, r_sub, r_mulR, r_mulL, r_modL, r_fdivL, r_tt, r_p18, r_lt, r_le, r_gt, r_ge, r_eq, r_ne, r_ofO, r_ixf, r_ixr, r_ixt, r_lenf, r_lenr, r_lent, r_int, r_abs, r_min2, r_max2, r_ti, r_tb, end_rt, end_nx, end_rt_t, end_nx_t, chk_true, atI_0, atI_1, atI_2, atI_nat, bltV, asg, asgL, clr])
    exact this
  have hite : ∀ (u e : Int), (if u = work - kp then u else u + cost) = e → denE (lev src.P fuel (k + 1)) (.ite (.cmp .eq (.v 2) (.v 1)) (.v 2) (.bin false .add (.v 2) (.fld (.v 0) "cost"))) [some (.ref S.length), some (.int (work - kp)), some (.int u), none] (wS S work every cost t kp l F) = .ok (.int e) (wS S work every cost t kp l F) := by
    intro u e he
    by_cases h : u = work - kp
    · rw [if_pos h] at he
      subst he
      simp -implicitDefEqProofs [Ev.R.ok_bind, e_v, e_lk, e_i, e_b, e_s, e_n, e_bin, e_bin1, e_bin2, e_neg, e_neg1, e_not, e_not1, e_not2, e_and, e_and1, e_and2, e_or, e_or1, e_or2, e_cmp, e_cmp1, e_cmp2, e_bl, e_ite, e_ite1, e_tup, e_tup1, e_lst, e_lst1, e_ix, e_ix1, e_ix2, e_fld, e_fld1, e_es0, e_es, e_es1, e_es2, e_call, e_call1, e_call2, e_call3, e_make, e_make1, e_make2, e_meth, e_meth1, e_meth2, e_meth3, e_blt, e_blt1, e_bm, e_bm1, e_bm2, u_not, u_not1, u_and, u_and1, u_or, u_or1, u_v, u_b, u_tr, u_cmp, u_cmp1, u_cmp2, u_ch, u_ch1, u_ch2, u_ch3, u_ix, u_fld, u_meth, u_blt, u_call, s_nil, s_cons, s_nx, s_rt, s_bk, s_ct, s_set, s_set1, s_asg, s_asg1, s_asg2, s_par, s_par1, s_par2, s_six, s_six1, s_six2, s_six3, s_ost, s_sf, s_sf1, s_sf2, s_ex, s_ex1, s_ret, s_ret1, s_retn, s_if, s_if1, s_pass, s_brk, s_cnt, e_lc, e_lc1, c_no, c_so, kC_ok, kSo_ok, i_e, i_rl, i_fl, i_tup, i_rg, s_for, s_for1, step_ok, cl_nx, cl_ct, cl_bk, cl_rt, s_wh, r_add, r_sub, r_mulR, r_mulL, r_modL, r_fdivL, r_tt, r_p18, r_lt, r_le, r_gt, r_ge, r_eq, r_ne, r_ofO, r_ixf, r_ixr, r_ixt, r_lenf, r_lenr, r_lent, r_int, r_abs, r_min2, r_max2, r_ti, r_tb, end_rt, end_nx, end_rt_t, end_nx_t, chk_true, atI_0, atI_1, atI_2, atI_nat, bltV, asg, asgL, clr, wS, h]
    · rw [if_neg h] at he
      subst he
      simp -implicitDefEqProofs [Ev.R.ok_bind, e_v, e_lk, e_i, e_b, e_s, e_n, e_bin, e_bin1, e_bin2, e_neg, e_neg1, e_not, e_not1, e_not2, e_and, e_and1, e_and2, e_or, e_or1, e_or2, e_cmp, e_cmp1, e_cmp2, e_bl, e_ite, e_ite1, e_tup, e_tup1, e_lst, e_lst1, e_ix, e_ix1, e_ix2, e_fld, e_fld1, e_es0, e_es, e_es1, e_es2, e_call, e_call1, e_call2, e_call3, e_make, e_make1, e_make2, e_meth, e_meth1, e_meth2, e_meth3, e_blt, e_blt1, e_bm, e_bm1, e_bm2, u_not, u_not1, u_and, u_and1, u_or, u_or1, u_v, u_b, u_tr, u_cmp, u_cmp1, u_cmp2, u_ch, u_ch1, u_ch2, u_ch3, u_ix, u_fld, u_meth, u_blt, u_call, s_nil, s_cons, s_nx, s_rt, s_bk, s_ct, s_set, s_set1, s_asg, s_asg1, s_asg2, s_par, s_par1, s_par2, s_six, s_six1, s_six2, s_six3, s_ost, s_sf, s_sf1, s_sf2, s_ex, s_ex1, s_ret, s_ret1, s_retn, s_if, s_if1, s_pass, s_brk, s_cnt, e_lc, e_lc1, c_no, c_so, kC_ok, kSo_ok, i_e, i_rl, i_fl, i_tup, i_rg, s_for, s_for1, step_ok, cl_nx, cl_ct, cl_bk, cl_rt, s_wh, r_add, r_sub, r_mulR, r_mulL, r_modL, r_fdivL, r_tt, r_p18, r_lt, r_le, r_gt, r_ge, r_eq, r_ne, r_ofO, r_ixf, r_ixr, r_ixt, r_lenf, r_lenr, r_lent, r_int, r_abs, r_min2, r_max2, r_ti, r_tb, end_rt, end_nx, end_rt_t, end_nx_t, chk_true, atI_0, atI_1, atI_2, atI_nat, bltV, asg, asgL, clr, wS, h, f3]
  cases F with
  | nil =>
    have hi := hite (minZ (work - kp) every) _ rfl
    have c2 := call2 (t + (if minZ (work - kp) every = work - kp then minZ (work - kp) every else minZ (work - kp) every + cost)) (kp + minZ (work - kp) every) l [] hF
    simp only [wS, List.map_nil] at hi c2
    simp -implicitDefEqProofs [Ev.R.ok_bind, e_v, e_lk, e_i, e_b, e_s, e_n, e_bin, e_bin1, e_bin2, e_neg, e_neg1, e_not, e_not1, e_not2, e_and, e_and1, e_and2, e_or, e_or1, e_or2, e_cmp, e_cmp1, e_cmp2, e_bl, e_ite, e_ite1, e_tup, e_tup1, e_lst, e_lst1, e_ix, e_ix1, e_ix2, e_fld, e_fld1, e_es0, e_es, e_es1, e_es2, e_call, e_call1, e_call2, e_call3, e_make, e_make1, e_make2, e_meth, e_meth1, e_meth2, e_meth3, e_blt, e_blt1, e_bm, e_bm1, e_bm2, u_not, u_not1, u_and, u_and1, u_or, u_or1, u_v, u_b, u_tr, u_cmp, u_cmp1, u_cmp2, u_ch, u_ch1, u_ch2, u_ch3, u_ix, u_fld, u_meth, u_blt, u_call, s_nil, s_cons, s_nx, s_rt, s_bk, s_ct, s_set, s_set1, s_asg, s_asg1, s_asg2, s_par, s_par1, s_par2, s_six, s_six1, s_six2, s_six3, s_ost, s_sf, s_sf1, s_sf2, s_ex, s_ex1, s_ret, s_ret1, s_retn, s_if, s_if1, s_pass, s_brk, s_cnt, e_lc, e_lc1, c_no, c_so, kC_ok, kSo_ok, i_e, i_rl, i_fl, i_tup, i_rg, s_for, s_for1, step_ok, cl_nx, cl_ct, cl_bk, cl_rt, s_wh, r_add, r_sub, r_mulR, r_mulL, r_modL, r_fdivL, r_tt, r_p18, r_lt, r_le, r_gt, r_ge, r_eq, r_ne, r_ofO, r_ixf, r_ixr, r_ixt, r_lenf, r_lenr, r_lent, r_int, r_abs, r_min2, r_max2, r_ti, r_tb, end_rt, end_nx, end_rt_t, end_nx_t, chk_true, atI_0, atI_1, atI_2, atI_nat, bltV, asg, asgL, clr, f_Worker_go_on, b_Worker_go_on, wS, f1, f2, f4, f5, f6, mz, hi, h3, s5, a6 0, m2, c2, goZ]
    rfl
  | cons f R =>
    have hi := hite (minZ (work - kp) every) _ rfl
    have c1 := call1 (minZ (minZ (work - kp) every) (f - t)) f R
    have c2 := call2 (t + (if minZ (work - kp) every = work - kp then minZ (work - kp) every else minZ (work - kp) every + cost)) (kp + minZ (work - kp) every) l (f :: R) hF
    simp only [wS, List.map_cons] at hi c1 c2
    by_cases hf : f < t + (if minZ (work - kp) every = work - kp then minZ (work - kp) every else minZ (work - kp) every + cost)
    · simp -implicitDefEqProofs [Ev.R.ok_bind, e_v, e_lk, e_i, e_b, e_s, e_n, e_bin, e_bin1, e_bin2, e_neg, e_neg1, e_not, e_not1, e_not2, e_and, e_and1, e_and2, e_or, e_or1, e_or2, e_cmp, e_cmp1, e_cmp2, e_bl, e_ite, e_ite1, e_tup, e_tup1, e_lst, e_lst1, e_ix, e_ix1, e_ix2, e_fld, e_fld1, e_es0, e_es, e_es1, e_es2, e_call, e_call1, e_call2, e_call3, e_make, e_make1, e_make2, e_meth, e_meth1, e_meth2, e_meth3, e_blt, e_blt1, e_bm, e_bm1, e_bm2, u_not, u_not1, u_and, u_and1, u_or, u_or1, u_v, u_b, u_tr, u_cmp, u_cmp1, u_cmp2, u_ch, u_ch1, u_ch2, u_ch3, u_ix, u_fld, u_meth, u_blt, u_call, s_nil, s_cons, s_nx, s_rt, s_bk, s_ct, s_set, s_set1, s_asg, s_asg1, s_asg2, s_par, s_par1, s_par2, s_six, s_six1, s_six2, s_six3, s_ost, s_sf, s_sf1, s_sf2, s_ex, s_ex1, s_ret, s_ret1, s_retn, s_if, s_if1, s_pass, s_brk, s_cnt, e_lc, e_lc1, c_no, c_so, kC_ok, kSo_ok, i_e, i_rl, i_fl, i_tup, i_rg, s_for, s_for1, step_ok, cl_nx, cl_ct, cl_bk, cl_rt, s_wh, r_add, r_sub, r_mulR, r_mulL, r_modL, r_fdivL, r_tt, r_p18, r_lt, r_le, r_gt, r_ge, r_eq, r_ne, r_ofO, r_ixf, r_ixr, r_ixt, r_lenf, r_lenr, r_lent, r_int, r_abs, r_min2, r_max2, r_ti, r_tb, end_rt, end_nx, end_rt_t, end_nx_t, chk_true, atI_0, atI_1, atI_2, atI_nat, bltV, asg, asgL, clr, f_Worker_go_on, b_Worker_go_on, wS, f1, f2, f4, f5, f6, mz, hi, h3, h4, hf, m1, c1, goZ]
    · simp -implicitDefEqProofs [Ev.R.ok_bind, e_v, e_lk, e_i, e_b, e_s, e_n, e_bin, e_bin1, e_bin2, e_neg, e_neg1, e_not, e_not1, e_not2, e_and, e_and1, e_and2, e_or, e_or1, e_or2, e_cmp, e_cmp1, e_cmp2, e_bl, e_ite, e_ite1, e_tup, e_tup1, e_lst, e_lst1, e_ix, e_ix1, e_ix2, e_fld, e_fld1, e_es0, e_es, e_es1, e_es2, e_call, e_call1, e_call2, e_call3, e_make, e_make1, e_make2, e_meth, e_meth1, e_meth2, e_meth3, e_blt, e_blt1, e_bm, e_bm1, e_bm2, u_not, u_not1, u_and, u_and1, u_or, u_or1, u_v, u_b, u_tr, u_cmp, u_cmp1, u_cmp2, u_ch, u_ch1, u_ch2, u_ch3, u_ix, u_fld, u_meth, u_blt, u_call, s_nil, s_cons, s_nx, s_rt, s_bk, s_ct, s_set, s_set1, s_asg, s_asg1, s_asg2, s_par, s_par1, s_par2, s_six, s_six1, s_six2, s_six3, s_ost, s_sf, s_sf1, s_sf2, s_ex, s_ex1, s_ret, s_ret1, s_retn, s_if, s_if1, s_pass, s_brk, s_cnt, e_lc, e_lc1, c_no, c_so, kC_ok, kSo_ok, i_e, i_rl, i_fl, i_tup, i_rg, s_for, s_for1, step_ok, cl_nx, cl_ct, cl_bk, cl_rt, s_wh, r_add, r_sub, r_mulR, r_mulL, r_modL, r_fdivL, r_tt, r_p18, r_lt, r_le, r_gt, r_ge, r_eq, r_ne, r_ofO, r_ixf, r_ixr, r_ixt, r_lenf, r_lenr, r_lent, r_int, r_abs, r_min2, r_max2, r_ti, r_tb, end_rt, end_nx, end_rt_t, end_nx_t, chk_true, atI_0, atI_1, atI_2, atI_nat, bltV, asg, asgL, clr, f_Worker_go_on, b_Worker_go_on, wS, f1, f2, f4, f5, f6, mz, hi, h3, h4, hf, s5, a6 0, m2, c2, goZ]
end Lw

set_option Elab.async false
set_option linter.all false
set_option maxRecDepth 100000
set_option maxHeartbeats 1000000
namespace Lw
open PySem Ev
def runW (work every cost : Int) : Nat → Int → Int → Int → List Int → Int × Int
  | 0, t, kp, l, F => (t, l)
  | n + 1, t, kp, l, F => if kp < work then runW work every cost n (goZ work every cost t kp l F).1 (goZ work every cost t kp l F).2.1 (goZ work every cost t kp l F).2.2.1 (goZ work every cost t kp l F).2.2.2 else (t, l)
theorem dropP_len (t : Int) : ∀ F : List Int, (dropP t F).length ≤ F.length
  | [] => Nat.le_refl _
  | f :: r => by
    rw [dropP]
    split
    · exact Nat.le_trans (dropP_len t r) (Nat.le_succ _)
    · exact Nat.le_refl _
theorem goZ_less (work every cost t kp l : Int) (F : List Int) (h : kp < work) (he : 1 ≤ every) : (work - (goZ work every cost t kp l F).2.1).toNat + (goZ work every cost t kp l F).2.2.2.length < (work - kp).toNat + F.length ∧ (goZ work every cost t kp l F).2.2.2.length ≤ F.length := by
  have hm : 1 ≤ minZ (work - kp) every := by unfold minZ; split <;> omega
  unfold goZ
  cases F with
  | nil =>
    simp only [List.length_nil]
    omega
  | cons f R =>
    simp only []
    generalize (if minZ (work - kp) every = work - kp then minZ (work - kp) every else minZ (work - kp) every + cost) = w
    split
    · simp only [List.length_cons]
      omega
    · have := dropP_len (t + w) (f :: R)
      simp only [List.length_cons] at this ⊢
      omega
theorem run_loop {fuel k : Nat} (work every cost : Int) (S : Store) (he : 1 ≤ every) : ∀ (n : Nat) (t kp l : Int) (F : List Int), (work - kp).toNat + F.length < n → F.length < fuel →
    ∃ (t2 kp2 l2 : Int) (F2 : List Int), whL (denT (lev src.P fuel (k + 2)) (.cmp .lt (.fld (.v 0) "kept") (.fld (.v 0) "work"))) (bodyF (lev src.P fuel (k + 2)) l_Worker_run_0 []) n [some (.ref S.length)] (wS S work every cost t kp l F) =
      .ok (.nx [some (.ref S.length)]) (wS S work every cost t2 kp2 l2 F2) ∧ runW work every cost n t kp l F = (t2, l2)
  | 0, t, kp, l, F, h, _ => absurd h (by omega)
  | n + 1, t, kp, l, F, h, hF => by
    have fld : ∀ (f : String) (v : Val) (t kp l : Int) (B : Cell), ["work", "every", "cost", "falls", "moment", "kept", "lost"].contains f = true → (wF work every cost (S.length + 1) t kp l).lookup f = some v →
      fldV (lev src.P fuel (k + 2)) (.ref S.length) f (S ++ [Cell.obj "Worker" (wF work every cost (S.length + 1) t kp l), B]) = .ok v (S ++ [Cell.obj "Worker" (wF work every cost (S.length + 1) t kp l), B]) := fun f v t kp l B h1 h2 => fl_1 (by rw [fw]; exact h1) h2
    have f1 := fun t kp l B => fld "work" (.int work) t kp l B rfl rfl
    have f6 := fun t kp l B => fld "kept" (.int kp) t kp l B rfl rfl
    by_cases hk : kp < work
    · have hl := goZ_less work every cost t kp l F hk he
      obtain ⟨t2, kp2, l2, F2, h1, h2⟩ := run_loop (fuel := fuel) (k := k) work every cost S he n (goZ work every cost t kp l F).1 (goZ work every cost t kp l F).2.1 (goZ work every cost t kp l F).2.2.1 (goZ work every cost t kp l F).2.2.2 (by omega) (by omega)
      refine ⟨t2, kp2, l2, F2, ?_, ?_⟩
      · rw [wh_yes (S1 := wS S work every cost t kp l F) (S2 := wS S work every cost (goZ work every cost t kp l F).1 (goZ work every cost t kp l F).2.1 (goZ work every cost t kp l F).2.2.1 (goZ work every cost t kp l F).2.2.2) (ρ1 := [some (.ref S.length)]), h1]
        · simp -implicitDefEqProofs [Ev.R.ok_bind, e_v, e_lk, e_i, e_b, e_s, e_n, e_bin, e_bin1, e_bin2, e_neg, e_neg1, e_not, e_not1, e_not2, e_and, e_and1, e_and2, e_or, e_or1, e_or2, e_cmp, e_cmp1, e_cmp2, e_bl, e_ite, e_ite1, e_tup, e_tup1, e_lst, e_lst1, e_ix, e_ix1, e_ix2, e_fld, e_fld1, e_es0, e_es, e_es1, e_es2, e_call, e_call1, e_call2, e_call3, e_make, e_make1, e_make2, e_meth, e_meth1, e_meth2, e_meth3, e_blt, e_blt1, e_bm, e_bm1, e_bm2, u_not, u_not1, u_and, u_and1, u_or, u_or1, u_v, u_b, u_tr, u_cmp, u_cmp1, u_cmp2, u_ch, u_ch1, u_ch2, u_ch3, u_ix, u_fld, u_meth, u_blt, u_call, s_nil, s_cons, s_nx, s_rt, s_bk, s_ct, s_set, s_set1, s_asg, s_asg1, s_asg2, s_par, s_par1, s_par2, s_six, s_six1, s_six2, s_six3, s_ost, s_sf, s_sf1, s_sf2, s_ex, s_ex1, s_ret, s_ret1, s_retn, s_if, s_if1, s_pass, s_brk, s_cnt, e_lc, e_lc1, c_no, c_so, kC_ok, kSo_ok, i_e, i_rl, i_fl, i_tup, i_rg, s_for, s_for1, step_ok, cl_nx, cl_ct, cl_bk, cl_rt, s_wh, r_add, r_sub, r_mulR, r_mulL, r_modL, r_fdivL, r_tt, r_p18, r_lt, r_le, r_gt, r_ge, r_eq, r_ne, r_ofO, r_ixf, r_ixr, r_ixt, r_lenf, r_lenr, r_lent, r_int, r_abs, r_min2, r_max2, r_ti, r_tb, end_rt, end_nx, end_rt_t, end_nx_t, chk_true, atI_0, atI_1, atI_2, atI_nat, bltV, asg, asgL, clr, wS, f1, f6, hk]
        · have g := go_ok (k := k) work every cost t kp l F S hF
          have m1 : ∀ (S2 : Store), methV (lev src.P fuel (k + 2)) (.ref S.length) "go_on" 1 [] (wS S work every cost t kp l F) S2 = (lev src.P fuel (k + 2)).call "Worker.go_on" [.ref S.length] S2 := fun S2 => me_ok rfl rfl rfl
          unfold bodyF
          simp -implicitDefEqProofs [Ev.R.ok_bind, e_v, e_lk, e_i, e_b, e_s, e_n, e_bin, e_bin1, e_bin2, e_neg, e_neg1, e_not, e_not1, e_not2, e_and, e_and1, e_and2, e_or, e_or1, e_or2, e_cmp, e_cmp1, e_cmp2, e_bl, e_ite, e_ite1, e_tup, e_tup1, e_lst, e_lst1, e_ix, e_ix1, e_ix2, e_fld, e_fld1, e_es0, e_es, e_es1, e_es2, e_call, e_call1, e_call2, e_call3, e_make, e_make1, e_make2, e_meth, e_meth1, e_meth2, e_meth3, e_blt, e_blt1, e_bm, e_bm1, e_bm2, u_not, u_not1, u_and, u_and1, u_or, u_or1, u_v, u_b, u_tr, u_cmp, u_cmp1, u_cmp2, u_ch, u_ch1, u_ch2, u_ch3, u_ix, u_fld, u_meth, u_blt, u_call, s_nil, s_cons, s_nx, s_rt, s_bk, s_ct, s_set, s_set1, s_asg, s_asg1, s_asg2, s_par, s_par1, s_par2, s_six, s_six1, s_six2, s_six3, s_ost, s_sf, s_sf1, s_sf2, s_ex, s_ex1, s_ret, s_ret1, s_retn, s_if, s_if1, s_pass, s_brk, s_cnt, e_lc, e_lc1, c_no, c_so, kC_ok, kSo_ok, i_e, i_rl, i_fl, i_tup, i_rg, s_for, s_for1, step_ok, cl_nx, cl_ct, cl_bk, cl_rt, s_wh, r_add, r_sub, r_mulR, r_mulL, r_modL, r_fdivL, r_tt, r_p18, r_lt, r_le, r_gt, r_ge, r_eq, r_ne, r_ofO, r_ixf, r_ixr, r_ixt, r_lenf, r_lenr, r_lent, r_int, r_abs, r_min2, r_max2, r_ti, r_tb, end_rt, end_nx, end_rt_t, end_nx_t, chk_true, atI_0, atI_1, atI_2, atI_nat, bltV, asg, asgL, clr, l_Worker_run_0, m1, g]
      · rw [runW, if_pos hk, h2]
    · refine ⟨t, kp, l, F, ?_, ?_⟩
      · rw [wh_no (S1 := wS S work every cost t kp l F)]
        simp -implicitDefEqProofs [Ev.R.ok_bind, e_v, e_lk, e_i, e_b, e_s, e_n, e_bin, e_bin1, e_bin2, e_neg, e_neg1, e_not, e_not1, e_not2, e_and, e_and1, e_and2, e_or, e_or1, e_or2, e_cmp, e_cmp1, e_cmp2, e_bl, e_ite, e_ite1, e_tup, e_tup1, e_lst, e_lst1, e_ix, e_ix1, e_ix2, e_fld, e_fld1, e_es0, e_es, e_es1, e_es2, e_call, e_call1, e_call2, e_call3, e_make, e_make1, e_make2, e_meth, e_meth1, e_meth2, e_meth3, e_blt, e_blt1, e_bm, e_bm1, e_bm2, u_not, u_not1, u_and, u_and1, u_or, u_or1, u_v, u_b, u_tr, u_cmp, u_cmp1, u_cmp2, u_ch, u_ch1, u_ch2, u_ch3, u_ix, u_fld, u_meth, u_blt, u_call, s_nil, s_cons, s_nx, s_rt, s_bk, s_ct, s_set, s_set1, s_asg, s_asg1, s_asg2, s_par, s_par1, s_par2, s_six, s_six1, s_six2, s_six3, s_ost, s_sf, s_sf1, s_sf2, s_ex, s_ex1, s_ret, s_ret1, s_retn, s_if, s_if1, s_pass, s_brk, s_cnt, e_lc, e_lc1, c_no, c_so, kC_ok, kSo_ok, i_e, i_rl, i_fl, i_tup, i_rg, s_for, s_for1, step_ok, cl_nx, cl_ct, cl_bk, cl_rt, s_wh, r_add, r_sub, r_mulR, r_mulL, r_modL, r_fdivL, r_tt, r_p18, r_lt, r_le, r_gt, r_ge, r_eq, r_ne, r_ofO, r_ixf, r_ixr, r_ixt, r_lenf, r_lenr, r_lent, r_int, r_abs, r_min2, r_max2, r_ti, r_tb, end_rt, end_nx, end_rt_t, end_nx_t, chk_true, atI_0, atI_1, atI_2, atI_nat, bltV, asg, asgL, clr, wS, f1, f6, hk]
      · rw [runW, if_neg hk]
theorem run_ok {fuel k : Nat} (work every cost t kp l : Int) (F : List Int) (S : Store) (he : 1 ≤ every) (h : (work - kp).toNat + F.length < fuel) :
    ∃ (t2 kp2 l2 : Int) (F2 : List Int), (lev src.P fuel (k + 3)).call "Worker.run" [.ref S.length] (wS S work every cost t kp l F) = .ok .non (wS S work every cost t2 kp2 l2 F2) ∧ runW work every cost fuel t kp l F = (t2, l2) := by
  obtain ⟨t2, kp2, l2, F2, h1, h2⟩ := run_loop (fuel := fuel) (k := k) work every cost S he fuel t kp l F h (by omega)
  refine ⟨t2, kp2, l2, F2, ?_, h2⟩
  rw [lev_call find_run, run_eq rfl]
  simp -implicitDefEqProofs [Ev.R.ok_bind, e_v, e_lk, e_i, e_b, e_s, e_n, e_bin, e_bin1, e_bin2, e_neg, e_neg1, e_not, e_not1, e_not2, e_and, e_and1, e_and2, e_or, e_or1, e_or2, e_cmp, e_cmp1, e_cmp2, e_bl, e_ite, e_ite1, e_tup, e_tup1, e_lst, e_lst1, e_ix, e_ix1, e_ix2, e_fld, e_fld1, e_es0, e_es, e_es1, e_es2, e_call, e_call1, e_call2, e_call3, e_make, e_make1, e_make2, e_meth, e_meth1, e_meth2, e_meth3, e_blt, e_blt1, e_bm, e_bm1, e_bm2, u_not, u_not1, u_and, u_and1, u_or, u_or1, u_v, u_b, u_tr, u_cmp, u_cmp1, u_cmp2, u_ch, u_ch1, u_ch2, u_ch3, u_ix, u_fld, u_meth, u_blt, u_call, s_nil, s_cons, s_nx, s_rt, s_bk, s_ct, s_set, s_set1, s_asg, s_asg1, s_asg2, s_par, s_par1, s_par2, s_six, s_six1, s_six2, s_six3, s_ost, s_sf, s_sf1, s_sf2, s_ex, s_ex1, s_ret, s_ret1, s_retn, s_if, s_if1, s_pass, s_brk, s_cnt, e_lc, e_lc1, c_no, c_so, kC_ok, kSo_ok, i_e, i_rl, i_fl, i_tup, i_rg, s_for, s_for1, step_ok, cl_nx, cl_ct, cl_bk, cl_rt, s_wh, r_add, r_sub, r_mulR, r_mulL, r_modL, r_fdivL, r_tt, r_p18, r_lt, r_le, r_gt, r_ge, r_eq, r_ne, r_ofO, r_ixf, r_ixr, r_ixt, r_lenf, r_lenr, r_lent, r_int, r_abs, r_min2, r_max2, r_ti, r_tb, end_rt, end_nx, end_rt_t, end_nx_t, chk_true, atI_0, atI_1, atI_2, atI_nat, bltV, asg, asgL, clr, f_Worker_run, b_Worker_run, lv_fuel, h1]
theorem mapM_fz (n d : Nat) (S1 : Store) : ∀ F : List Int, (F.map Val.int).mapM (freeze d n S1) = some (F.map Val.int)
  | [] => rfl
  | f :: F => by
    have h : freeze d n S1 (.int f) = some (.int f) := by cases d <;> rfl
    rw [List.map_cons, List.mapM_cons, h, mapM_fz n d S1 F]
    rfl
abbrev wO (work every cost t k l : Int) (F : List Int) : Val := .fo "Worker" [("work", .int work), ("every", .int every), ("cost", .int cost), ("falls", .fl (F.map Val.int)), ("moment", .int t), ("kept", .int k), ("lost", .int l)]
theorem exit_w (S : Store) (work every cost t kp l : Int) (F : List Int) : exitp S (.ref S.length) (wS S work every cost t kp l F) = .ok (wO work every cost t kp l F) S := by
  have i6 : ∀ (d : Nat) (S1 : Store) (i : Int), freeze d S.length S1 (.int i) = some (.int i) := fun d S1 i => by cases d <;> rfl
  have fl7 : freeze 7 S.length (wS S work every cost t kp l F) (.ref (S.length + 1)) = some (.fl (F.map Val.int)) := by
    unfold freeze
    rw [if_neg (by simp [Val.bel])]
    have h : (wS S work every cost t kp l F)[S.length + 1]? = some (.lst (F.map Val.int)) := g_1
    simp only [h]
    rw [mapM_fz]
    rfl
  have fr : freeze 8 S.length (wS S work every cost t kp l F) (.ref S.length) = some (wO work every cost t kp l F) := by
    unfold freeze
    rw [if_neg (by simp [Val.bel])]
    have h : (wS S work every cost t kp l F)[S.length]? = some (.obj "Worker" (wF work every cost (S.length + 1) t kp l)) := g_0
    simp only [h, wF, List.mapM_cons, List.mapM_nil, i6, fl7, Option.map_some]
    rfl
  have ko : KeepOk S (wS S work every cost t kp l F) := ⟨by simp [wS], fun i c c' h1 h2 => .inl (by
    have hi := (List.getElem?_eq_some_iff.mp h1).1
    rw [wS, List.getElem?_append_left hi, h1] at h2
    exact (Option.some.inj h2).symm)⟩
  unfold exitp
  rw [fr]
  simp only
  rw [if_pos ko]
  congr 1
  simp [wS]
theorem find_time : src.P.fns.find? (fun f => f.qual == "time_with_falls") = some f_time_with_falls := by rfl
theorem find_units : src.P.fns.find? (fun f => f.qual == "units_again") = some f_units_again := by rfl
/-- a list or a tuple of ints -/
def IsSeq (v : Val) (F : List Int) : Prop := v = .fl (F.map Val.int) ∨ v = .tup (F.map Val.int)
theorem IsSeq.mk {v : Val} {F : List Int} (h : IsSeq v F) (S : Store) : listB true [v] S = .ok (.ref S.length) (S ++ [.lst (F.map Val.int)]) := by
  rcases h with rfl | rfl <;> rfl
theorem done_ok {fuel k : Nat} (work every cost : Int) (v : Val) (F : List Int) (S : Store) (hv : IsSeq v F) (he : 1 ≤ every) (h : work.toNat + F.length < fuel) :
    ∃ (t2 kp2 l2 : Int) (F2 : List Int), (lev src.P fuel (k + 4)).call "worker_done" [.int work, .int every, .int cost, v] S = .ok (wO work every cost t2 kp2 l2 F2) S ∧ runW work every cost fuel 0 0 0 F = (t2, l2) := by
  obtain ⟨t2, kp2, l2, F2, h1, h2⟩ := run_ok (fuel := fuel) (k := k) work every cost 0 0 0 F S he (by rw [Int.sub_zero]; exact h)
  refine ⟨t2, kp2, l2, F2, ?_, h2⟩
  rw [lev_call find_done, run_eq rfl]
  have hi := init_ok (fuel := fuel) (k := k + 2) work every cost v F S hv.mk
  have hmk : makeV (lev src.P fuel (k + 3)) true "Worker" 2 [.int work, .int every, .int cost, v] S = .ok (.ref S.length) (wS S work every cost 0 0 0 F) := by
    have e1 : (lev src.P fuel (k + 3)).init "Worker" = some "Worker.__init__" := rfl
    have e2 : (lev src.P fuel (k + 3)).arr 2 [.ref S.length, .int work, .int every, .int cost, v] = some [.ref S.length, .int work, .int every, .int cost, v] := rfl
    simp only [makeV, e1, e2, hi, Ev.R.ok_bind]
    rfl
  have m1 : ∀ (S2 : Store), methV (lev src.P fuel (k + 3)) (.ref S.length) "run" 1 [] (wS S work every cost 0 0 0 F) S2 = (lev src.P fuel (k + 3)).call "Worker.run" [.ref S.length] S2 := fun S2 => me_ok rfl rfl rfl
  have hx : endV true S (.ref S.length) (wS S work every cost t2 kp2 l2 F2) = .ok (wO work every cost t2 kp2 l2 F2) S := exit_w S work every cost t2 kp2 l2 F2
  simp -implicitDefEqProofs [Ev.R.ok_bind, e_v, e_lk, e_i, e_b, e_s, e_n, e_bin, e_bin1, e_bin2, e_neg, e_neg1, e_not, e_not1, e_not2, e_and, e_and1, e_and2, e_or, e_or1, e_or2, e_cmp, e_cmp1, e_cmp2, e_bl, e_ite, e_ite1, e_tup, e_tup1, e_lst, e_lst1, e_ix, e_ix1, e_ix2, e_fld, e_fld1, e_es0, e_es, e_es1, e_es2, e_call, e_call1, e_call2, e_call3, e_make, e_make1, e_make2, e_meth, e_meth1, e_meth2, e_meth3, e_blt, e_blt1, e_bm, e_bm1, e_bm2, u_not, u_not1, u_and, u_and1, u_or, u_or1, u_v, u_b, u_tr, u_cmp, u_cmp1, u_cmp2, u_ch, u_ch1, u_ch2, u_ch3, u_ix, u_fld, u_meth, u_blt, u_call, s_nil, s_cons, s_nx, s_rt, s_bk, s_ct, s_set, s_set1, s_asg, s_asg1, s_asg2, s_par, s_par1, s_par2, s_six, s_six1, s_six2, s_six3, s_ost, s_sf, s_sf1, s_sf2, s_ex, s_ex1, s_ret, s_ret1, s_retn, s_if, s_if1, s_pass, s_brk, s_cnt, e_lc, e_lc1, c_no, c_so, kC_ok, kSo_ok, i_e, i_rl, i_fl, i_tup, i_rg, s_for, s_for1, step_ok, cl_nx, cl_ct, cl_bk, cl_rt, s_wh, r_add, r_sub, r_mulR, r_mulL, r_modL, r_fdivL, r_tt, r_p18, r_lt, r_le, r_gt, r_ge, r_eq, r_ne, r_ofO, r_ixf, r_ixr, r_ixt, r_lenf, r_lenr, r_lent, r_int, r_abs, r_min2, r_max2, r_ti, r_tb, end_rt, end_nx, end_rt_t, end_nx_t, chk_true, atI_0, atI_1, atI_2, atI_nat, bltV, asg, asgL, clr, f_worker_done, b_worker_done, hmk, m1, h1, hx, exit_w]
theorem time_ok {fuel k : Nat} (work every cost : Int) (v : Val) (F : List Int) (S : Store) (hv : IsSeq v F) (he : 1 ≤ every) (h : work.toNat + F.length < fuel) :
    (lev src.P fuel (k + 5)).call "time_with_falls" [.int work, .int every, .int cost, v] S = .ok (.int (runW work every cost fuel 0 0 0 F).1) S := by
  obtain ⟨t2, kp2, l2, F2, h1, h2⟩ := done_ok (fuel := fuel) (k := k) work every cost v F S hv he h
  rw [lev_call find_time, run_eq rfl, h2]
  have c3 : (lev src.P fuel (k + 4)).arr 3 [.int work, .int every, .int cost, v] = some [.int work, .int every, .int cost, v] := rfl
  have f1 : fldV (lev src.P fuel (k + 4)) (wO work every cost t2 kp2 l2 F2) "moment" S = .ok (.int t2) S := by
    simp only [fldV, objOf, fw]
    rfl
  simp -implicitDefEqProofs [Ev.R.ok_bind, e_v, e_lk, e_i, e_b, e_s, e_n, e_bin, e_bin1, e_bin2, e_neg, e_neg1, e_not, e_not1, e_not2, e_and, e_and1, e_and2, e_or, e_or1, e_or2, e_cmp, e_cmp1, e_cmp2, e_bl, e_ite, e_ite1, e_tup, e_tup1, e_lst, e_lst1, e_ix, e_ix1, e_ix2, e_fld, e_fld1, e_es0, e_es, e_es1, e_es2, e_call, e_call1, e_call2, e_call3, e_make, e_make1, e_make2, e_meth, e_meth1, e_meth2, e_meth3, e_blt, e_blt1, e_bm, e_bm1, e_bm2, u_not, u_not1, u_and, u_and1, u_or, u_or1, u_v, u_b, u_tr, u_cmp, u_cmp1, u_cmp2, u_ch, u_ch1, u_ch2, u_ch3, u_ix, u_fld, u_meth, u_blt, u_call, s_nil, s_cons, s_nx, s_rt, s_bk, s_ct, s_set, s_set1, s_asg, s_asg1, s_asg2, s_par, s_par1, s_par2, s_six, s_six1, s_six2, s_six3, s_ost, s_sf, s_sf1, s_sf2, s_ex, s_ex1, s_ret, s_ret1, s_retn, s_if, s_if1, s_pass, s_brk, s_cnt, e_lc, e_lc1, c_no, c_so, kC_ok, kSo_ok, i_e, i_rl, i_fl, i_tup, i_rg, s_for, s_for1, step_ok, cl_nx, cl_ct, cl_bk, cl_rt, s_wh, r_add, r_sub, r_mulR, r_mulL, r_modL, r_fdivL, r_tt, r_p18, r_lt, r_le, r_gt, r_ge, r_eq, r_ne, r_ofO, r_ixf, r_ixr, r_ixt, r_lenf, r_lenr, r_lent, r_int, r_abs, r_min2, r_max2, r_ti, r_tb, end_rt, end_nx, end_rt_t, end_nx_t, chk_true, atI_0, atI_1, atI_2, atI_nat, bltV, asg, asgL, clr, f_time_with_falls, b_time_with_falls, c3, h1, f1]
theorem units_ok {fuel k : Nat} (work every cost : Int) (v : Val) (F : List Int) (S : Store) (hv : IsSeq v F) (he : 1 ≤ every) (h : work.toNat + F.length < fuel) :
    (lev src.P fuel (k + 5)).call "units_again" [.int work, .int every, .int cost, v] S = .ok (.int (runW work every cost fuel 0 0 0 F).2) S := by
  obtain ⟨t2, kp2, l2, F2, h1, h2⟩ := done_ok (fuel := fuel) (k := k) work every cost v F S hv he h
  rw [lev_call find_units, run_eq rfl, h2]
  have c3 : (lev src.P fuel (k + 4)).arr 3 [.int work, .int every, .int cost, v] = some [.int work, .int every, .int cost, v] := rfl
  have f1 : fldV (lev src.P fuel (k + 4)) (wO work every cost t2 kp2 l2 F2) "lost" S = .ok (.int l2) S := by
    simp only [fldV, objOf, fw]
    rfl
  simp -implicitDefEqProofs [Ev.R.ok_bind, e_v, e_lk, e_i, e_b, e_s, e_n, e_bin, e_bin1, e_bin2, e_neg, e_neg1, e_not, e_not1, e_not2, e_and, e_and1, e_and2, e_or, e_or1, e_or2, e_cmp, e_cmp1, e_cmp2, e_bl, e_ite, e_ite1, e_tup, e_tup1, e_lst, e_lst1, e_ix, e_ix1, e_ix2, e_fld, e_fld1, e_es0, e_es, e_es1, e_es2, e_call, e_call1, e_call2, e_call3, e_make, e_make1, e_make2, e_meth, e_meth1, e_meth2, e_meth3, e_blt, e_blt1, e_bm, e_bm1, e_bm2, u_not, u_not1, u_and, u_and1, u_or, u_or1, u_v, u_b, u_tr, u_cmp, u_cmp1, u_cmp2, u_ch, u_ch1, u_ch2, u_ch3, u_ix, u_fld, u_meth, u_blt, u_call, s_nil, s_cons, s_nx, s_rt, s_bk, s_ct, s_set, s_set1, s_asg, s_asg1, s_asg2, s_par, s_par1, s_par2, s_six, s_six1, s_six2, s_six3, s_ost, s_sf, s_sf1, s_sf2, s_ex, s_ex1, s_ret, s_ret1, s_retn, s_if, s_if1, s_pass, s_brk, s_cnt, e_lc, e_lc1, c_no, c_so, kC_ok, kSo_ok, i_e, i_rl, i_fl, i_tup, i_rg, s_for, s_for1, step_ok, cl_nx, cl_ct, cl_bk, cl_rt, s_wh, r_add, r_sub, r_mulR, r_mulL, r_modL, r_fdivL, r_tt, r_p18, r_lt, r_le, r_gt, r_ge, r_eq, r_ne, r_ofO, r_ixf, r_ixr, r_ixt, r_lenf, r_lenr, r_lent, r_int, r_abs, r_min2, r_max2, r_ti, r_tb, end_rt, end_nx, end_rt_t, end_nx_t, chk_true, atI_0, atI_1, atI_2, atI_nat, bltV, asg, asgL, clr, f_units_again, b_units_again, c3, h1, f1]
end Lw

set_option Elab.async false
set_option linter.all false
namespace Lw
/-! plain: the worker is the law's own reckoning -/
theorem dropP_asc (t : Int) : ∀ F : List Int, F.Pairwise (· < ·) → (dropP t F).Pairwise (· < ·)
  | [], h => h
  | f :: r, h => by
    rw [dropP]
    split
    · exact dropP_asc t r (List.pairwise_cons.mp h).2
    · exact h
theorem dropP_id (t : Int) : ∀ F : List Int, (∀ f ∈ F, t < f) → dropP t F = F
  | [], _ => rfl
  | f :: r, h => by
    have := h f (List.mem_cons_self)
    rw [dropP, if_neg (by omega)]
theorem dropP_gt (t : Int) : ∀ F : List Int, F.Pairwise (· < ·) → ∀ f ∈ dropP t F, t < f
  | [], _ => fun f h => by cases h
  | f :: r, hp => by
    rw [dropP]
    split
    · exact dropP_gt t r (List.pairwise_cons.mp hp).2
    · intro g hg
      have h1 := (List.pairwise_cons.mp hp).1
      rcases List.mem_cons.mp hg with rfl | h
      · omega
      · have := h1 g h
        omega
theorem runZ_eq (work every cost : Int) (he : 1 ≤ every) : ∀ (n m : Nat) (t d l : Int) (F : List Int), F.Pairwise (· < ·) → (work - d).toNat + F.length < n → (work - d).toNat + F.length < m →
    runZ work every cost n t d l F = runW work every cost m t d l (dropP t F)
  | 0, _, t, d, l, F, _, h, _ => absurd h (by omega)
  | n + 1, 0, t, d, l, F, _, _, h => absurd h (by omega)
  | n + 1, m + 1, t, d, l, F, hp, h, h2 => by
    rw [runZ, runW]
    by_cases hd : work ≤ d
    · rw [if_pos hd, if_neg (by omega)]
    · rw [if_neg hd, if_pos (by omega)]
      have hu : minZ every (work - d) = minZ (work - d) every := by unfold minZ; split <;> split <;> omega
      have hu1 : 1 ≤ minZ (work - d) every := by unfold minZ; split <;> omega
      have hu2 : minZ (work - d) every ≤ work - d := by unfold minZ; split <;> omega
      have hee : (if d + minZ every (work - d) < work then t + minZ every (work - d) + cost else t + minZ every (work - d)) = t + (if minZ (work - d) every = work - d then minZ (work - d) every else minZ (work - d) every + cost) := by
        rw [hu]
        split <;> split <;> omega
      have hl := dropP_len t F
      have hq := dropP_asc t F hp
      unfold goZ
      simp only [hu] at hee ⊢
      simp only [hee]
      generalize (if minZ (work - d) every = work - d then minZ (work - d) every else minZ (work - d) every + cost) = w
      cases hF : dropP t F with
      | nil =>
        simp only []
        rw [runZ_eq work every cost he n m _ _ _ _ List.Pairwise.nil (by simp; omega) (by simp; omega)]
        rfl
      | cons f R =>
        rw [hF] at hl hq
        simp only [List.length_cons] at hl
        simp only []
        by_cases hf : f < t + w
        · rw [if_pos hf, if_pos hf]
          have hq2 := List.pairwise_cons.mp hq
          have e : dropP f (f :: R) = R := by
            rw [dropP, if_pos (by omega), dropP_id]
            exact hq2.1
          obtain ⟨n', rfl⟩ : ∃ n', n = n' + 1 := ⟨n - 1, by omega⟩
          obtain ⟨m', rfl⟩ : ∃ m', m = m' + 1 := ⟨m - 1, by omega⟩
          have := runZ_eq work every cost he (n' + 1) (m' + 1) f d (l + minZ (minZ (work - d) every) (f - t)) R hq2.2 (by omega) (by omega)
          rw [dropP_id f R hq2.1] at this
          rw [← this, runZ, runZ, e, dropP_id f R hq2.1]
        · rw [if_neg hf, if_neg hf]
          rw [runZ_eq work every cost he n m _ _ _ _ hq (by simp only [List.length_cons]; omega) (by simp only [List.length_cons]; omega)]
/-- no falls -/
theorem runZ_calm (work every cost : Int) (he : 1 ≤ every) : ∀ (n : Nat) (t d l : Int), d < work → (work - d).toNat < n → runZ work every cost n t d l [] = (t + (work - d) + cost * ((work - d - 1).fdiv every), l)
  | 0, t, d, l, _, h => absurd h (by omega)
  | n + 1, t, d, l, hd, h => by
    rw [runZ, if_neg (by omega)]
    by_cases hb : work - d ≤ every
    · have hu : minZ every (work - d) = work - d := by unfold minZ; split <;> omega
      have h0 : (work - d - 1).fdiv every = 0 := by rw [Int.fdiv_eq_ediv_of_nonneg _ (by omega)]; exact Int.ediv_eq_zero_of_lt (by omega) (by omega)
      simp only [hu, dropP]
      rw [if_neg (by omega), h0, Int.mul_zero, Int.add_zero]
      cases n with
      | zero => omega
      | succ n => rw [runZ, if_pos (by omega)]
    · have hu : minZ every (work - d) = every := by unfold minZ; split <;> omega
      simp only [hu, dropP]
      rw [if_pos (by omega), runZ_calm work every cost he n _ _ _ (by omega) (by omega)]
      have h1 : (work - d - 1).fdiv every = (work - (d + every) - 1).fdiv every + 1 := by
        rw [Int.fdiv_eq_ediv_of_nonneg _ (by omega), Int.fdiv_eq_ediv_of_nonneg _ (by omega)]
        have : work - d - 1 = (work - (d + every) - 1) + every * 1 := by omega
        rw [this, Int.add_mul_ediv_left _ _ (by omega)]
      rw [h1, Int.mul_add, Int.mul_one]
      congr 1
      omega
theorem dropP_mem (t : Int) : ∀ (F : List Int) (f : Int), f ∈ dropP t F → f ∈ F
  | [], f, h => h
  | g :: r, f, h => by
    rw [dropP] at h
    split at h
    · exact List.mem_cons_of_mem _ (dropP_mem t r f h)
    · exact h
/-- no time is far -/
theorem runZ_far (work every cost M : Int) (hw : work ≤ 1000) (he : 1 ≤ every) (he2 : every ≤ 1000) (hc : 0 ≤ cost) (hc2 : cost ≤ 1000) : ∀ (n : Nat) (t d l T : Int) (F : List Int), F.Pairwise (· < ·) → (∀ f ∈ F, f ≤ M) → M ≤ T → 0 ≤ t → t ≤ T → 0 ≤ d → 0 ≤ l → l ≤ T →
    0 ≤ (runZ work every cost n t d l F).1 ∧ (runZ work every cost n t d l F).1 ≤ T + 3000 * n ∧ 0 ≤ (runZ work every cost n t d l F).2 ∧ (runZ work every cost n t d l F).2 ≤ T + 3000 * n
  | 0, t, d, l, T, F, _, _, _, h1, h2, _, h3, h4 => by
    simp only [runZ]
    omega
  | n + 1, t, d, l, T, F, hp, hF, hM, h1, h2, h3, h4, h5 => by
    rw [runZ]
    split
    · dsimp only
      omega
    · have hu1 : 1 ≤ minZ every (work - d) := by unfold minZ; split <;> omega
      have hu2 : minZ every (work - d) ≤ 1000 := by unfold minZ; split <;> omega
      have hD := dropP_gt t F hp
      have hD2 : ∀ f ∈ dropP t F, f ≤ M := fun f h => hF f (dropP_mem t F f h)
      have hq2 := dropP_asc t F hp
      dsimp only
      generalize hw : (if d + minZ every (work - d) < work then t + minZ every (work - d) + cost else t + minZ every (work - d)) = e
      have he3 : 0 ≤ e ∧ e ≤ T + 3000 := by rw [← hw]; split <;> omega
      cases hq : dropP t F with
      | nil =>
        have := runZ_far work every cost M ‹_› he he2 hc hc2 n e (d + minZ every (work - d)) l (T + 3000) [] List.Pairwise.nil (fun f h => by cases h) (by omega) (by omega) (by omega) (by omega) (by omega) (by omega)
        dsimp only
        omega
      | cons f R =>
        rw [hq] at hD2 hD hq2
        have hf := hD2 f List.mem_cons_self
        have hf2 := hD f List.mem_cons_self
        dsimp only
        split
        · have hm : 0 ≤ minZ (minZ every (work - d)) (f - t) ∧ minZ (minZ every (work - d)) (f - t) ≤ 1000 := by
            generalize minZ every (work - d) = u at *
            unfold minZ
            split <;> omega
          have := runZ_far work every cost M ‹_› he he2 hc hc2 n f d (l + minZ (minZ every (work - d)) (f - t)) (T + 3000) (f :: R) hq2 hD2 (by omega) (by omega) (by omega) (by omega) (by omega) (by omega)
          omega
        · have := runZ_far work every cost M ‹_› he he2 hc hc2 n e (d + minZ every (work - d)) l (T + 3000) (f :: R) hq2 hD2 (by omega) (by omega) (by omega) (by omega) (by omega) (by omega)
          omega
end Lw

set_option Elab.async false
set_option linter.all false
set_option maxRecDepth 100000
set_option maxHeartbeats 1000000
namespace Lw
open PySem Ev
theorem strOk_of (z : String) : PyData.strOk (Str.ofString z) = true := by
  unfold PyData.strOk
  rw [Str.ofString_eq_toList]
  simp only [List.all_toArray, List.all_eq_true, decide_eq_true_eq, List.mem_map]
  rintro x ⟨c, _, rfl⟩
  have := c.valid
  unfold UInt32.isValidChar Nat.isValidChar at this
  show c.val.toNat < 1114112
  omega
theorem ne_str (z : String) (S : Store) : cmpV .ne (.str (Str.ofString z)) (.str (Str.ofString z)) S = some false := by
  have e : datum S (.str (Str.ofString z)) = some (.str (Str.ofString z)) := by
    have h : PySem.SeqAt.shaped (.str (Str.ofString z)) = true := by
      unfold PySem.SeqAt.shaped PyData.canLay0
      rw [strOk_of]
      rfl
    show (if PySem.SeqAt.shaped (.str (Str.ofString z)) = true then some (PyData.str (Str.ofString z)) else none) = _
    rw [if_pos h]
  show (match datum S (.str (Str.ofString z)), datum S (.str (Str.ofString z)) with | some d, some e => some (!PyData.eqv d e) | _, _ => none) = _
  rw [e]
  simp [PyData.eqv]
theorem pdL_ints : ∀ is : List Int, Val.pdL (is.map Val.int) = is.map PyData.int
  | [] => rfl
  | i :: is => by
    rw [List.map_cons, Val.pdL, pdL_ints is]
    rfl
theorem lay_ints : ∀ is : List Int, PyData.canLayAll0 (is.map PyData.int) = true
  | [] => rfl
  | i :: is => by
    rw [List.map_cons, PyData.canLayAll0, lay_ints is]
    rfl
theorem dep_ints : ∀ is : List Int, PyData.depthAll (is.map PyData.int) = 0
  | [] => rfl
  | i :: is => by
    rw [List.map_cons, PyData.depthAll, dep_ints is]
    rfl
theorem eqv_ints : ∀ is : List Int, PyData.eqvAll (is.map PyData.int) (is.map PyData.int) = true
  | [] => rfl
  | i :: is => by
    rw [List.map_cons, PyData.eqvAll, eqv_ints is]
    simp [PyData.eqv]
theorem datum_ints (is : List Int) (S : Store) : datum S (.fl (is.map Val.int)) = some (.list (is.map PyData.int)) := by
  have e1 : freeze 8 0 S (.fl (is.map Val.int)) = some (.fl (is.map Val.int)) := by
    unfold freeze
    rw [if_pos (by unfold Val.bel; exact belL_ints 0 is)]
  have e2 : PySem.SeqAt.shaped (.list (is.map PyData.int)) = true := by
    unfold PySem.SeqAt.shaped PyData.canLay0 PyData.depth
    rw [lay_ints, dep_ints]
    rfl
  unfold datum
  rw [e1]
  simp only [Val.pd, pdL_ints, e2, if_true]
theorem datum_int (i : Int) (S : Store) : datum S (.int i) = some (.int i) := rfl
theorem ne_ints (is : List Int) (S : Store) : cmpV .ne (.fl (is.map Val.int)) (.fl (is.map Val.int)) S = some false := by
  show (match datum S (.fl (is.map Val.int)), datum S (.fl (is.map Val.int)) with | some d, some e => some (!PyData.eqv d e) | _, _ => none) = _
  rw [datum_ints]
  simp [PyData.eqv, eqv_ints]
theorem mapM_intOf : ∀ is : List Int, (is.map Val.int).mapM intOf = some is
  | [] => rfl
  | i :: is => by
    rw [List.map_cons, List.mapM_cons, mapM_intOf is]
    rfl
theorem min_ints (is : List Int) (S : Store) : minB [.fl (is.map Val.int)] S = ofO ((minIs is).map Val.int) S := by
  show ofO (min1 S (.fl (is.map Val.int))) S = _
  unfold min1 intsOf
  simp only [isTup, seqOf, Bool.false_eq_true, if_false, mapM_intOf]
/-! the first of the least -/
theorem fold_best : ∀ (ts : List Int) (s i : Nat) (m : Int), i < s → ∃ (m' : Int) (i' : Nat), ts.foldl (fun a b => if b < a then b else a) m = m' ∧
    ((ts.zipIdx s).map fun p => Val.tup [.int p.1, .int (1 + (p.2 : Int))]).foldl (fun a y => if HT.lexLt (tiOf y) (tiOf a) then y else a) (.tup [.int m, .int (1 + (i : Int))]) = .tup [.int m', .int (1 + (i' : Int))] ∧
    ((m' = m ∧ i' = i ∧ ∀ t ∈ ts, m ≤ t) ∨ (∃ j, i' = s + j ∧ m' < m ∧ ts.findIdx? (fun z => z == m') = some j ∧ ∀ t ∈ ts, m' ≤ t))
  | [], s, i, m, h => ⟨m, i, rfl, rfl, .inl ⟨rfl, rfl, fun t h => by cases h⟩⟩
  | t :: ts, s, i, m, h => by
    have hx : (HT.lexLt (tiOf (.tup [.int t, .int (1 + (s : Int))])) (tiOf (.tup [.int m, .int (1 + (i : Int))])) = true) ↔ t < m := by
      show (HT.lexLt [t, 1 + (s : Int)] [m, 1 + (i : Int)] = true) ↔ t < m
      simp only [HT.lexLt]
      by_cases h1 : t = m
      · rw [if_pos h1, if_neg (by omega)]
        simp only [decide_eq_true_eq]
        omega
      · rw [if_neg h1]
        simp
    by_cases ht : t < m
    · obtain ⟨m', i', e1, e2, e3⟩ := fold_best ts (s + 1) s t (by omega)
      refine ⟨m', i', ?_, ?_, .inr ?_⟩
      · rw [List.foldl_cons, if_pos ht, e1]
      · rw [List.zipIdx_cons, List.map_cons, List.foldl_cons, if_pos (hx.mpr ht), e2]
      · rcases e3 with ⟨rfl, rfl, h3⟩ | ⟨j, rfl, h3, h4, h5⟩
        · refine ⟨0, rfl, ht, ?_, ?_⟩
          · rw [List.findIdx?_cons, if_pos (by simp)]
          · intro u hu
            rcases List.mem_cons.mp hu with rfl | hu
            · exact Int.le_refl _
            · exact h3 u hu
        · refine ⟨j + 1, by omega, by omega, ?_, ?_⟩
          · rw [List.findIdx?_cons]
            have : (t == m') = false := by simp; omega
            rw [this, h4]
            rfl
          · intro u hu
            rcases List.mem_cons.mp hu with rfl | hu
            · omega
            · exact h5 u hu
    · obtain ⟨m', i', e1, e2, e3⟩ := fold_best ts (s + 1) i m (by omega)
      refine ⟨m', i', ?_, ?_, ?_⟩
      · rw [List.foldl_cons, if_neg ht, e1]
      · rw [List.zipIdx_cons, List.map_cons, List.foldl_cons, if_neg (fun h => ht (hx.mp h)), e2]
      · rcases e3 with ⟨h1, h2, h3⟩ | ⟨j, rfl, h3, h4, h5⟩
        · refine .inl ⟨h1, h2, fun u hu => ?_⟩
          rcases List.mem_cons.mp hu with rfl | hu
          · omega
          · exact h3 u hu
        · refine .inr ⟨j + 1, by omega, h3, ?_, ?_⟩
          · rw [List.findIdx?_cons]
            have : (t == m') = false := by simp; omega
            rw [this, h4]
            rfl
          · intro u hu
            rcases List.mem_cons.mp hu with rfl | hu
            · omega
            · exact h5 u hu
theorem allTI (s : Nat) (ts : List Int) : ((ts.zipIdx s).map fun p => Val.tup [.int p.1, .int (1 + (p.2 : Int))]).all isTI = true := by
  rw [List.all_eq_true]
  intro x hx
  obtain ⟨p, _, rfl⟩ := List.mem_map.mp hx
  rfl
theorem first_best (t : Int) (ts : List Int) : ∃ (m : Int) (i : Nat), minIs (t :: ts) = some m ∧ (∀ S : Store, minB [.fl (((t :: ts).zipIdx 0).map fun p => Val.tup [.int p.1, .int (1 + (p.2 : Int))])] S = .ok (.tup [.int m, .int (1 + (i : Int))]) S) ∧ (∀ S : Store, bmV .index (.fl ((t :: ts).map Val.int)) [.int m] S = .ok (.int i) S) ∧ i < (t :: ts).length := by
  obtain ⟨m, i, e1, e2, e3⟩ := fold_best ts 1 0 t (by omega)
  have hf : (t :: ts).findIdx? (fun z => z == m) = some i := by
    rw [List.findIdx?_cons]
    rcases e3 with ⟨rfl, rfl, _⟩ | ⟨j, rfl, h3, h4, _⟩
    · simp
    · have : (t == m) = false := by simp; omega
      rw [this, h4]
      simp only [Option.map_some, Bool.false_eq_true, if_false]
      congr 1
      omega
  refine ⟨m, i, ?_, ?_, ?_, ?_⟩
  · show some (ts.foldl _ t) = _
    rw [e1]
  · intro S
    rw [List.zipIdx_cons, List.map_cons]
    show ofO (min1 S (.fl (Val.tup [.int t, .int (1 + ((0 : Nat) : Int))] :: ((ts.zipIdx 1).map fun p => Val.tup [.int p.1, .int (1 + (p.2 : Int))])))) S = _
    have h0 : intsOf S (.fl (Val.tup [.int t, .int (1 + ((0 : Nat) : Int))] :: ((ts.zipIdx 1).map fun p => Val.tup [.int p.1, .int (1 + (p.2 : Int))]))) = none := by
      unfold intsOf
      simp [isTup, seqOf, List.mapM_cons, intOf]
    unfold min1
    rw [h0]
    simp only [isTup, Bool.false_eq_true, if_false, seqOf, Option.bind_some]
    unfold minT
    have ha : (Val.tup [.int t, .int (1 + ((0 : Nat) : Int))] :: ((ts.zipIdx 1).map fun p => Val.tup [.int p.1, .int (1 + (p.2 : Int))])).all isTI = true := by
      rw [List.all_cons, allTI]
      rfl
    simp only [ha, if_true]
    rw [e2]
    rfl
  · intro S
    show idxV (.fl ((t :: ts).map Val.int)) (.int m) S = _
    unfold idxV
    rw [datum_ints, datum_int]
    simp only []
    have : idxD ((t :: ts).map PyData.int) (.int m) = some i := by
      unfold idxD
      rw [List.findIdx?_map, ← hf]
      rfl
    rw [this]
  · rcases List.findIdx?_eq_some_iff_getElem.mp hf with ⟨h, _⟩
    exact h
end Lw

set_option Elab.async false
set_option linter.all false
set_option maxRecDepth 100000
set_option maxHeartbeats 1000000
namespace Lw
open PySem Ev
abbrev hS (is : List Int) (p : Int) : Store := [.lst [.fl (is.map Val.int), .int p]]
abbrev hF (is : List Int) (p : Int) (fs : List Int) : Store := [.lst [.fl (is.map Val.int), .int p], .lst (fs.map Val.int)]
theorem takeH {fuel k : Nat} (is : List Int) (p m : Int) (hp : 0 ≤ p) (hm : 0 < m) : ∃ r, 0 ≤ r ∧ r < m ∧ (lev src.P fuel (k + 1)).call "_law_take" [.ref 0, .int m] (hS is p) = .ok (.int r) (hS is (p + 1)) := take_ok (S := hS is p) ⟨rfl, hp⟩ hm
theorem takeF {fuel k : Nat} (is : List Int) (p m : Int) (fs : List Int) (hp : 0 ≤ p) (hm : 0 < m) : ∃ r, 0 ≤ r ∧ r < m ∧ (lev src.P fuel (k + 1)).call "_law_take" [.ref 0, .int m] (hF is p fs) = .ok (.int r) (hF is (p + 1) fs) := take_ok (S := hF is p fs) ⟨rfl, hp⟩ hm
theorem ss_step {G : Gm} {s : S_} {r : Ss} {ρ ρ1 : Ev.Env} {S S1 : Store} {x : R Fl} (h : denS G s ρ S = .ok (.nx ρ1) S1) (h2 : denSs G r ρ1 S1 = x) : denSs G (.cons s r) ρ S = x := by
  rw [s_cons, h, s_nx, h2]
theorem arr0 {fuel k : Nat} (a b : Val) : (lev src.P fuel k).arr 0 [a, b] = some [a, b] := by cases k <;> rfl
theorem arr3 {fuel k : Nat} (a b c d : Val) : (lev src.P fuel k).arr 3 [a, b, c, d] = some [a, b, c, d] := by cases k <;> rfl
theorem arr4 {fuel k : Nat} (a b c : Val) : (lev src.P fuel k).arr 4 [a, b, c] = some [a, b, c] := by cases k <;> rfl
theorem mkf (xs : List Val) (S : Store) (h : xs.length ≤ 100000) : mkList false xs S = .ok (.fl xs) S := r_mk (le_line h)
theorem pick2 (a b r : Int) (S : Store) (h0 : 0 ≤ r) (h : r < 2) : ixV (.fl [.int a, .int b]) (.int r) S = some (.int (if r = 0 then a else b)) := by
  rw [r_ixf]
  rcases (by omega : r = 0 ∨ r = 1) with rfl | rfl <;> simp [atI_0, atI_1]
theorem pick3 (a b c r : Int) (S : Store) (h0 : 0 ≤ r) (h : r < 3) : ixV (.fl [.int a, .int b, .int c]) (.int r) S = some (.int (if r = 0 then a else if r = 1 then b else c)) := by
  rw [r_ixf]
  rcases (by omega : r = 0 ∨ r = 1 ∨ r = 2) with rfl | rfl | rfl <;> simp [atI_0, atI_1, atI_2]
theorem pick4 (a b c d r : Int) (S : Store) (h0 : 0 ≤ r) (h : r < 4) : ixV (.fl [.int a, .int b, .int c, .int d]) (.int r) S = some (.int (if r = 0 then a else if r = 1 then b else if r = 2 then c else d)) := by
  rw [r_ixf]
  rcases (by omega : r = 0 ∨ r = 1 ∨ r = 2 ∨ r = 3) with rfl | rfl | rfl | rfl <;> simp [atI_0, atI_1, atI_2]
theorem exit_F (is : List Int) (p q : Int) (fs : List Int) : exitp (hS is p) (.ref 1) (hF is q fs) = .ok (.fl (fs.map Val.int)) (hS is q) := by
  have fr : freeze 8 (hS is p).length (hF is q fs) (.ref 1) = some (.fl (fs.map Val.int)) := by
    unfold freeze
    rw [if_neg (by simp [Val.bel])]
    have h : (hF is q fs)[1]? = some (.lst (fs.map Val.int)) := rfl
    simp only [h]
    rw [mapM_fz]
    rfl
  have ko : KeepOk (hS is p) (hF is q fs) := ⟨by simp, fun i c c' h1 h2 => by
    have hi : i = 0 := by
      have := (List.getElem?_eq_some_iff.mp h1).1
      simp at this
      exact this
    subst hi
    have : c' = .lst [.fl (is.map Val.int), .int q] := (Option.some.inj h2).symm
    subst this
    right
    simp [Cell.bel, Val.belL, Val.bel, belL_ints]⟩
  unfold exitp
  rw [fr]
  simp only
  rw [if_pos ko]
  rfl
theorem find_df : src.P.fns.find? (fun f => f.qual == "_law_drawn_falls") = some f__law_drawn_falls := by rfl
def FallsOk (fs : List Int) (mo : Int) (j : Nat) : Prop := fs.Pairwise (· < ·) ∧ (∀ f ∈ fs, 1 ≤ f ∧ f ≤ mo) ∧ fs.length = j ∧ 0 ≤ mo ∧ mo ≤ 500 * j
def dfInv (is : List Int) (work every cost : Int) (j : Nat) (ρ : Ev.Env) (S : Store) : Prop := ∃ (p mo : Int) (fs : List Int), 0 ≤ p ∧ FallsOk fs mo j ∧ S = hF is p fs ∧ ρ = [some (.ref 0), some (.int work), some (.int every), some (.int cost), some (.ref 1), some (.int mo), none, none]
theorem df_step {fuel k : Nat} (is : List Int) (work every cost : Int) (h1 : 0 ≤ work ∧ work ≤ 200) (h2 : 1 ≤ every ∧ every ≤ 203) (h3 : 0 ≤ cost ∧ cost ≤ 50) (j : Nat) (hj : j < 20) (x : Val) (ρ : Ev.Env) (S : Store) (I : dfInv is work every cost j ρ S) :
    ∃ ρ2 S2, stepF (lev src.P fuel (k + 1)) (.nm 6) l__law_drawn_falls_0 [6, 7] x ρ S = .ok (.nx ρ2) S2 ∧ dfInv is work every cost (j + 1) ρ2 S2 := by
  obtain ⟨p, mo, fs, hp, ⟨f1, f2, f3, f4, f5⟩, rfl, rfl⟩ := I
  rw [stepF_eq (h := rfl)]
  obtain ⟨r1, a1, b1, e1⟩ := takeF (fuel := fuel) (k := k) is p 4 fs hp (by decide)
  obtain ⟨r2, a2, b2, e2⟩ := takeF (fuel := fuel) (k := k) is (p + 1) (work + 3) fs (by omega) (by omega)
  obtain ⟨r3, a3, b3, e3⟩ := takeF (fuel := fuel) (k := k) is (p + 1 + 1) 4 fs (by omega) (by decide)
  have pk := fun S => pick4 r1 r2 (every + cost - 1) (every - 1) r3 S a3 b3
  have hb : ∃ w, (if r3 = 0 then r1 else if r3 = 1 then r2 else if r3 = 2 then every + cost - 1 else every - 1) = w ∧ 0 ≤ w ∧ w ≤ 400 := by
    refine ⟨_, rfl, ?_⟩
    split
    · omega
    · split
      · omega
      · split <;> omega
  obtain ⟨w, hw, w1, w2⟩ := hb
  rw [hw] at pk
  have hmx : (if (1 + w : Int) > 1 then 1 + w else 1) = 1 + w := by split <;> omega
  have hap : ∀ y : Int, bmV .append (.ref 1) [.int y] (hF is (p + 1 + 1 + 1) fs) = .ok .non (hF is (p + 1 + 1 + 1) (fs ++ [y])) := fun y => by
    rw [r_app (xs := fs.map Val.int) rfl (lt_line (by rw [List.length_map]; omega))]
    simp [List.map_append]
  have hil : isLst (hF is (p + 1 + 1 + 1) fs) (.ref 1) = true := rfl
  refine ⟨_, _, ?_, ⟨p + 1 + 1 + 1, mo + (1 + w), fs ++ [mo + (1 + w)], by omega, ⟨?_, ?_, ?_, by omega, by omega⟩, rfl, rfl⟩⟩
  · simp -implicitDefEqProofs [Ev.R.ok_bind, e_v, e_lk, e_i, e_b, e_s, e_n, e_bin, e_bin1, e_bin2, e_neg, e_neg1, e_not, e_not1, e_not2, e_and, e_and1, e_and2, e_or, e_or1, e_or2, e_cmp, e_cmp1, e_cmp2, e_bl, e_ite, e_ite1, e_tup, e_tup1, e_lst, e_lst1, e_ix, e_ix1, e_ix2, e_fld, e_fld1, e_es0, e_es, e_es1, e_es2, e_call, e_call1, e_call2, e_call3, e_make, e_make1, e_make2, e_meth, e_meth1, e_meth2, e_meth3, e_blt, e_blt1, e_bm, e_bm1, e_bm2, u_not, u_not1, u_and, u_and1, u_or, u_or1, u_v, u_b, u_tr, u_cmp, u_cmp1, u_cmp2, u_ch, u_ch1, u_ch2, u_ch3, u_ix, u_fld, u_meth, u_blt, u_call, s_nil, s_cons, s_nx, s_rt, s_bk, s_ct, s_set, s_set1, s_asg, s_asg1, s_asg2, s_par, s_par1, s_par2, s_six, s_six1, s_six2, s_six3, s_ost, s_sf, s_sf1, s_sf2, s_ex, s_ex1, s_ret, s_ret1, s_retn, s_if, s_if1, s_pass, s_brk, s_cnt, e_lc, e_lc1, c_no, c_so, kC_ok, kSo_ok, i_e, i_rl, i_fl, i_tup, i_rg, s_for, s_for1, step_ok, cl_nx, cl_ct, cl_bk, cl_rt, s_wh, r_add, r_sub, r_mulR, r_mulL, r_modL, r_fdivL, r_tt, r_p18, r_lt, r_le, r_gt, r_ge, r_eq, r_ne, r_ofO, r_ixf, r_ixr, r_ixt, r_lenf, r_lenr, r_lent, r_int, r_abs, r_min2, r_max2, r_ti, r_tb, end_rt, end_nx, end_rt_t, end_nx_t, chk_true, atI_0, atI_1, atI_2, atI_nat, bltV, asg, asgL, clr, l__law_drawn_falls_0, arr0, e1, e2, e3, mkf, pk, hmx, hap, hil]
  · rw [List.pairwise_append]
    refine ⟨f1, List.pairwise_singleton _ _, fun a ha b hb => ?_⟩
    rw [List.mem_singleton] at hb
    have := f2 a ha
    omega
  · intro f hf
    rcases List.mem_append.mp hf with h | h
    · have := f2 f h
      omega
    · rw [List.mem_singleton] at h
      omega
  · simp [f3]
theorem df_ok {fuel k : Nat} (is : List Int) (work every cost p : Int) (h1 : 0 ≤ work ∧ work ≤ 200) (h2 : 1 ≤ every ∧ every ≤ 203) (h3 : 0 ≤ cost ∧ cost ≤ 50) (hp : 0 ≤ p) :
    ∃ (q mo : Int) (fs : List Int) (j : Nat), 0 ≤ q ∧ j ≤ 20 ∧ FallsOk fs mo j ∧ (lev src.P fuel (k + 2)).call "_law_drawn_falls" [.ref 0, .int work, .int every, .int cost] (hS is p) = .ok (.fl (fs.map Val.int)) (hS is q) := by
  rw [lev_call find_df, run_eq rfl]
  obtain ⟨r, a, b, e⟩ := takeF (fuel := fuel) (k := k) is p 6 [] hp (by decide)
  obtain ⟨n, hn, e2⟩ : ∃ n : Nat, n ≤ 20 ∧ ∀ S : Store, ixV (.fl [.int 0, .int 1, .int 2, .int 3, .int 6, .int 20]) (.int r) S = some (.int n) := by
    rcases (by omega : r = 0 ∨ r = 1 ∨ r = 2 ∨ r = 3 ∨ r = 4 ∨ r = 5) with rfl | rfl | rfl | rfl | rfl | rfl
    · exact ⟨0, by decide, fun S => rfl⟩
    · exact ⟨1, by decide, fun S => rfl⟩
    · exact ⟨2, by decide, fun S => rfl⟩
    · exact ⟨3, by decide, fun S => rfl⟩
    · exact ⟨6, by decide, fun S => rfl⟩
    · exact ⟨20, by decide, fun S => rfl⟩
  have hl : (rangeL 0 n).length = n := by rw [rangeL_len]; omega
  obtain ⟨ρ', S', e3, q, mo, fs, hq, hf, rfl, rfl⟩ := forL_inv (gs := []) (step := stepF (lev src.P fuel (k + 1)) (.nm 6) l__law_drawn_falls_0 [6, 7]) (dfInv is work every cost) (rangeL 0 n) 0 [some (.ref 0), some (.int work), some (.int every), some (.int cost), some (.ref 1), some (.int 0), none, none] (hF is (p + 1) [])
    ⟨p + 1, 0, [], by omega, ⟨List.Pairwise.nil, fun f h => (by cases h), rfl, by decide, by decide⟩, rfl, rfl⟩
    (fun j x ρ S hx I => by
      have hj := (List.getElem?_eq_some_iff.mp hx).1
      rw [hl] at hj
      rw [Nat.zero_add] at I ⊢
      obtain ⟨ρ2, S2, h4, h5⟩ := df_step (fuel := fuel) (k := k) is work every cost h1 h2 h3 j (by omega) x ρ S I
      exact ⟨gdOk_nil _, ρ2, S2, .inl h4, h5⟩) (fun _ _ _ => gdOk_nil _)
  rw [hl, Nat.zero_add] at hf
  refine ⟨q, mo, fs, n, hq, hn, hf, ?_⟩
  have hr : inR (n : Int) := by unfold inR; omega
  have mk0 : ∀ S : Store, mkList true [] S = .ok (.ref S.length) (S ++ [.lst []]) := fun S => r_mkm (Nat.zero_le _)
  simp only [hF, List.map_nil] at e e3
  simp -implicitDefEqProofs [Ev.R.ok_bind, e_v, e_lk, e_i, e_b, e_s, e_n, e_bin, e_bin1, e_bin2, e_neg, e_neg1, e_not, e_not1, e_not2, e_and, e_and1, e_and2, e_or, e_or1, e_or2, e_cmp, e_cmp1, e_cmp2, e_bl, e_ite, e_ite1, e_tup, e_tup1, e_lst, e_lst1, e_ix, e_ix1, e_ix2, e_fld, e_fld1, e_es0, e_es, e_es1, e_es2, e_call, e_call1, e_call2, e_call3, e_make, e_make1, e_make2, e_meth, e_meth1, e_meth2, e_meth3, e_blt, e_blt1, e_bm, e_bm1, e_bm2, u_not, u_not1, u_and, u_and1, u_or, u_or1, u_v, u_b, u_tr, u_cmp, u_cmp1, u_cmp2, u_ch, u_ch1, u_ch2, u_ch3, u_ix, u_fld, u_meth, u_blt, u_call, s_nil, s_cons, s_nx, s_rt, s_bk, s_ct, s_set, s_set1, s_asg, s_asg1, s_asg2, s_par, s_par1, s_par2, s_six, s_six1, s_six2, s_six3, s_ost, s_sf, s_sf1, s_sf2, s_ex, s_ex1, s_ret, s_ret1, s_retn, s_if, s_if1, s_pass, s_brk, s_cnt, e_lc, e_lc1, c_no, c_so, kC_ok, kSo_ok, i_e, i_rl, i_fl, i_tup, i_rg, s_for, s_for1, step_ok, cl_nx, cl_ct, cl_bk, cl_rt, s_wh, r_add, r_sub, r_mulR, r_mulL, r_modL, r_fdivL, r_tt, r_p18, r_lt, r_le, r_gt, r_ge, r_eq, r_ne, r_ofO, r_ixf, r_ixr, r_ixt, r_lenf, r_lenr, r_lent, r_int, r_abs, r_min2, r_max2, r_ti, r_tb, end_rt, end_nx, end_rt_t, end_nx_t, chk_true, atI_0, atI_1, atI_2, atI_nat, bltV, asg, asgL, clr, f__law_drawn_falls, b__law_drawn_falls, mk0, mkf, arr0, e, e2, i_rg1 hr, e3, exit_F]
end Lw

set_option Elab.async false
set_option linter.all false
set_option maxRecDepth 100000
set_option maxHeartbeats 1000000
namespace Lw
open PySem Ev
theorem find_least : src.P.fns.find? (fun f => f.qual == "least_every") = some f_least_every := by rfl
theorem find_law : src.P.fns.find? (fun f => f.qual == "law") = some f_law := by rfl
/-- the times of all everys -/
def timesZ (work cost : Int) (F : List Int) (n : Nat) : List Int := (List.range n).map fun (e : Nat) => (runZ work (1 + (e : Int)) cost (work + F.length + 1).toNat 0 0 0 F).1
theorem time_Z {fuel k : Nat} (work every cost : Int) (v : Val) (F : List Int) (S : Store) (hv : IsSeq v F) (he : 1 ≤ every) (hw : 0 ≤ work) (h : work.toNat + F.length < fuel) (hp : F.Pairwise (· < ·)) (h1 : ∀ f ∈ F, 1 ≤ f) :
    (lev src.P fuel (k + 5)).call "time_with_falls" [.int work, .int every, .int cost, v] S = .ok (.int (runZ work every cost (work + F.length + 1).toNat 0 0 0 F).1) S := by
  rw [time_ok work every cost v F S hv he h, runZ_eq work every cost he (work + F.length + 1).toNat fuel 0 0 0 F hp (by omega) (by omega), dropP_id 0 F (fun f hf => by have := h1 f hf; omega)]
theorem units_Z {fuel k : Nat} (work every cost : Int) (v : Val) (F : List Int) (S : Store) (hv : IsSeq v F) (he : 1 ≤ every) (hw : 0 ≤ work) (h : work.toNat + F.length < fuel) (hp : F.Pairwise (· < ·)) (h1 : ∀ f ∈ F, 1 ≤ f) :
    (lev src.P fuel (k + 5)).call "units_again" [.int work, .int every, .int cost, v] S = .ok (.int (runZ work every cost (work + F.length + 1).toNat 0 0 0 F).2) S := by
  rw [units_ok work every cost v F S hv he h, runZ_eq work every cost he (work + F.length + 1).toNat fuel 0 0 0 F hp (by omega) (by omega), dropP_id 0 F (fun f hf => by have := h1 f hf; omega)]
/-- a comprehension of one item each, the store as it is -/
theorem lcL_eq {step : Val → Store → R (Option Val)} {S : Store} (f : Val → Val) : ∀ xs : List Val, (∀ x ∈ xs, step x S = .ok (some (f x)) S) → lcL [] step xs S = .ok (xs.map f) S
  | [], _ => lcL_nil_ (gdOk_nil S)
  | x :: xs, h => by
    rw [lcL_cons_ (gdOk_nil S), h x List.mem_cons_self]
    simp only [Ev.R.ok_bind]
    rw [lcL_eq f xs fun y hy => h y (List.mem_cons_of_mem _ hy)]
    rfl
theorem least_lc {fuel k : Nat} (work cost : Int) (v : Val) (F : List Int) (S : Store) (n : Nat) (hv : IsSeq v F) (hw : 0 ≤ work) (h : work.toNat + F.length < fuel) (hp : F.Pairwise (· < ·)) (h1 : ∀ f ∈ F, 1 ≤ f) :
    lcL [] (lcS (lev src.P fuel (k + 5)) [some (Val.int work), some (Val.int cost), some v, none] [3] (.nm 3) .none (.tup (.cons (.call "time_with_falls" 3 (.cons (.v 0) (.cons (.v 3) (.cons (.v 1) (.cons (.v 2) .nil)))) .nil) (.cons (.v 3) .nil)))) (rangeL 1 (1 + (n : Int))) S =
      .ok (((timesZ work cost F n).zipIdx 0).map fun p => Val.tup [.int p.1, .int (1 + (p.2 : Int))]) S := by
  have e : ∀ x ∈ rangeL 1 (1 + (n : Int)), (lcS (lev src.P fuel (k + 5)) [some (Val.int work), some (Val.int cost), some v, none] [3] (.nm 3) .none (.tup (.cons (.call "time_with_falls" 3 (.cons (.v 0) (.cons (.v 3) (.cons (.v 1) (.cons (.v 2) .nil)))) .nil) (.cons (.v 3) .nil)))) x S =
      .ok (some ((fun x => match x with | .int i => Val.tup [.int (runZ work i cost (work + F.length + 1).toNat 0 0 0 F).1, .int i] | x => x) x)) S := by
    intro x hx
    obtain ⟨i, hi, rfl⟩ := List.mem_map.mp hx
    rw [lcS_eq (h := rfl)]
    have ht := time_Z (fuel := fuel) (k := k) work (1 + (i : Int)) cost v F S hv (by omega) hw h hp h1
    have mt : ∀ (a b : Val) (S : Store), mkTup [a, b] S = .ok (.tup [a, b]) S := fun a b S => by unfold mkTup; simp
    simp -implicitDefEqProofs [Ev.R.ok_bind, e_v, e_lk, e_i, e_b, e_s, e_n, e_bin, e_bin1, e_bin2, e_neg, e_neg1, e_not, e_not1, e_not2, e_and, e_and1, e_and2, e_or, e_or1, e_or2, e_cmp, e_cmp1, e_cmp2, e_bl, e_ite, e_ite1, e_tup, e_tup1, e_lst, e_lst1, e_ix, e_ix1, e_ix2, e_fld, e_fld1, e_es0, e_es, e_es1, e_es2, e_call, e_call1, e_call2, e_call3, e_make, e_make1, e_make2, e_meth, e_meth1, e_meth2, e_meth3, e_blt, e_blt1, e_bm, e_bm1, e_bm2, u_not, u_not1, u_and, u_and1, u_or, u_or1, u_v, u_b, u_tr, u_cmp, u_cmp1, u_cmp2, u_ch, u_ch1, u_ch2, u_ch3, u_ix, u_fld, u_meth, u_blt, u_call, s_nil, s_cons, s_nx, s_rt, s_bk, s_ct, s_set, s_set1, s_asg, s_asg1, s_asg2, s_par, s_par1, s_par2, s_six, s_six1, s_six2, s_six3, s_ost, s_sf, s_sf1, s_sf2, s_ex, s_ex1, s_ret, s_ret1, s_retn, s_if, s_if1, s_pass, s_brk, s_cnt, e_lc, e_lc1, c_no, c_so, kC_ok, kSo_ok, i_e, i_rl, i_fl, i_tup, i_rg, s_for, s_for1, step_ok, cl_nx, cl_ct, cl_bk, cl_rt, s_wh, r_add, r_sub, r_mulR, r_mulL, r_modL, r_fdivL, r_tt, r_p18, r_lt, r_le, r_gt, r_ge, r_eq, r_ne, r_ofO, r_ixf, r_ixr, r_ixt, r_lenf, r_lenr, r_lent, r_int, r_abs, r_min2, r_max2, r_ti, r_tb, end_rt, end_nx, end_rt_t, end_nx_t, chk_true, atI_0, atI_1, atI_2, atI_nat, bltV, asg, asgL, clr, arr3, ht, mt]
  rw [lcL_eq _ _ e]
  congr 1
  apply List.ext_getElem?
  intro j
  have hl : (1 + (n : Int) - 1).toNat = n := by omega
  simp only [rangeL, hl, timesZ, List.getElem?_map, List.getElem?_zipIdx, Nat.zero_add]
  by_cases hj : j < n
  · simp [hj]
  · simp [hj]
theorem times_lc {fuel k : Nat} (work cost : Int) (F : List Int) (S : Store) (n : Nat) (ρ : Ev.Env) (hρ : ∃ a0 a1 a2 a3 a4 a7 a8 a9 a11, ρ = [a0, a1, a2, a3, a4, some (Val.int cost), some (Val.fl (F.map Val.int)), a7, a8, a9, some (Val.int work), a11, none]) (hw : 0 ≤ work) (hw2 : work ≤ 1000000) (h : work.toNat + F.length < fuel) (hF : F.length ≤ 1000000) :
    lcL [] (lcS (lev src.P fuel (k + 5)) ρ [12] (.nm 12) .none (.ix (.call "_law_runs" 3 (.cons (.v 10) (.cons (.v 12) (.cons (.v 5) (.cons (.v 6) .nil)))) .nil) (.i 0))) (rangeL 1 (1 + (n : Int))) S = .ok ((timesZ work cost F n).map Val.int) S := by
  obtain ⟨a0, a1, a2, a3, a4, a7, a8, a9, a11, rfl⟩ := hρ
  have e : ∀ x ∈ rangeL 1 (1 + (n : Int)), (lcS (lev src.P fuel (k + 5)) [a0, a1, a2, a3, a4, some (Val.int cost), some (Val.fl (F.map Val.int)), a7, a8, a9, some (Val.int work), a11, none] [12] (.nm 12) .none (.ix (.call "_law_runs" 3 (.cons (.v 10) (.cons (.v 12) (.cons (.v 5) (.cons (.v 6) .nil)))) .nil) (.i 0))) x S =
      .ok (some ((fun x => match x with | .int i => Val.int (runZ work i cost (work + F.length + 1).toNat 0 0 0 F).1 | x => x) x)) S := by
    intro x hx
    obtain ⟨i, hi, rfl⟩ := List.mem_map.mp hx
    rw [lcS_eq (h := rfl)]
    have ht := runs_ok (fuel := fuel) (k := k + 4) work (1 + (i : Int)) cost F S (by omega) hw hw2 hF
    simp -implicitDefEqProofs [Ev.R.ok_bind, e_v, e_lk, e_i, e_b, e_s, e_n, e_bin, e_bin1, e_bin2, e_neg, e_neg1, e_not, e_not1, e_not2, e_and, e_and1, e_and2, e_or, e_or1, e_or2, e_cmp, e_cmp1, e_cmp2, e_bl, e_ite, e_ite1, e_tup, e_tup1, e_lst, e_lst1, e_ix, e_ix1, e_ix2, e_fld, e_fld1, e_es0, e_es, e_es1, e_es2, e_call, e_call1, e_call2, e_call3, e_make, e_make1, e_make2, e_meth, e_meth1, e_meth2, e_meth3, e_blt, e_blt1, e_bm, e_bm1, e_bm2, u_not, u_not1, u_and, u_and1, u_or, u_or1, u_v, u_b, u_tr, u_cmp, u_cmp1, u_cmp2, u_ch, u_ch1, u_ch2, u_ch3, u_ix, u_fld, u_meth, u_blt, u_call, s_nil, s_cons, s_nx, s_rt, s_bk, s_ct, s_set, s_set1, s_asg, s_asg1, s_asg2, s_par, s_par1, s_par2, s_six, s_six1, s_six2, s_six3, s_ost, s_sf, s_sf1, s_sf2, s_ex, s_ex1, s_ret, s_ret1, s_retn, s_if, s_if1, s_pass, s_brk, s_cnt, e_lc, e_lc1, c_no, c_so, kC_ok, kSo_ok, i_e, i_rl, i_fl, i_tup, i_rg, s_for, s_for1, step_ok, cl_nx, cl_ct, cl_bk, cl_rt, s_wh, r_add, r_sub, r_mulR, r_mulL, r_modL, r_fdivL, r_tt, r_p18, r_lt, r_le, r_gt, r_ge, r_eq, r_ne, r_ofO, r_ixf, r_ixr, r_ixt, r_lenf, r_lenr, r_lent, r_int, r_abs, r_min2, r_max2, r_ti, r_tb, end_rt, end_nx, end_rt_t, end_nx_t, chk_true, atI_0, atI_1, atI_2, atI_nat, bltV, asg, asgL, clr, arr3, ht]
  rw [lcL_eq _ _ e]
  congr 1
  apply List.ext_getElem?
  intro j
  have hl : (1 + (n : Int) - 1).toNat = n := by omega
  simp only [rangeL, hl, timesZ, List.getElem?_map]
  by_cases hj : j < n
  · simp [hj]
  · simp [hj]
/-- the times, their least and its place -/
theorem least_ok {fuel k : Nat} (work cost : Int) (v : Val) (F : List Int) (n : Nat) (hn : work = (n : Int)) (hn2 : n ≤ 1000) (hn1 : 1 ≤ n) (hv : IsSeq v F) (h : work.toNat + F.length < fuel) (hp : F.Pairwise (· < ·)) (h1 : ∀ f ∈ F, 1 ≤ f) : ∃ (m : Int) (i : Nat), i < n ∧ minIs (timesZ work cost F n) = some m ∧ (∀ S, bmV .index (.fl ((timesZ work cost F n).map Val.int)) [.int m] S = .ok (.int i) S) ∧
    ∀ S, (lev src.P fuel (k + 6)).call "least_every" [.int work, .int cost, v] S = .ok (.int (1 + (i : Int))) S := by
  have hlen : (timesZ work cost F n).length = n := by simp [timesZ]
  cases ht : timesZ work cost F n with
  | nil =>
    rw [ht] at hlen
    simp at hlen
    omega
  | cons t ts =>
    obtain ⟨m, i, e1, e2, e3, e4⟩ := first_best t ts
    rw [← ht, hlen] at e4
    refine ⟨m, i, e4, e1, e3, fun S => ?_⟩
    rw [lev_call find_least, run_eq rfl]
    have hr : inR 1 ∧ inR (work + 1) := by unfold inR; omega
    have hl := least_lc (fuel := fuel) (k := k) work cost v F S n hv (by omega) h hp h1
    rw [ht, show (1 + (n : Int)) = work + 1 from by omega] at hl
    have hm : ∀ S : Store, mkList false (((t :: ts).zipIdx 0).map fun p => Val.tup [.int p.1, .int (1 + (p.2 : Int))]) S = .ok (.fl (((t :: ts).zipIdx 0).map fun p => Val.tup [.int p.1, .int (1 + (p.2 : Int))])) S := fun S => mkf _ S (by rw [List.length_map, List.length_zipIdx, ← ht, hlen]; omega)
    generalize (((t :: ts).zipIdx 0).map fun p => Val.tup [.int p.1, .int (1 + (p.2 : Int))]) = L at hl hm e2
    simp -implicitDefEqProofs [Ev.R.ok_bind, e_v, e_lk, e_i, e_b, e_s, e_n, e_bin, e_bin1, e_bin2, e_neg, e_neg1, e_not, e_not1, e_not2, e_and, e_and1, e_and2, e_or, e_or1, e_or2, e_cmp, e_cmp1, e_cmp2, e_bl, e_ite, e_ite1, e_tup, e_tup1, e_lst, e_lst1, e_ix, e_ix1, e_ix2, e_fld, e_fld1, e_es0, e_es, e_es1, e_es2, e_call, e_call1, e_call2, e_call3, e_make, e_make1, e_make2, e_meth, e_meth1, e_meth2, e_meth3, e_blt, e_blt1, e_bm, e_bm1, e_bm2, u_not, u_not1, u_and, u_and1, u_or, u_or1, u_v, u_b, u_tr, u_cmp, u_cmp1, u_cmp2, u_ch, u_ch1, u_ch2, u_ch3, u_ix, u_fld, u_meth, u_blt, u_call, s_nil, s_cons, s_nx, s_rt, s_bk, s_ct, s_set, s_set1, s_asg, s_asg1, s_asg2, s_par, s_par1, s_par2, s_six, s_six1, s_six2, s_six3, s_ost, s_sf, s_sf1, s_sf2, s_ex, s_ex1, s_ret, s_ret1, s_retn, s_if, s_if1, s_pass, s_brk, s_cnt, e_lc, e_lc1, c_no, c_so, kC_ok, kSo_ok, i_e, i_rl, i_fl, i_tup, i_rg, s_for, s_for1, step_ok, cl_nx, cl_ct, cl_bk, cl_rt, s_wh, r_add, r_sub, r_mulR, r_mulL, r_modL, r_fdivL, r_tt, r_p18, r_lt, r_le, r_gt, r_ge, r_eq, r_ne, r_ofO, r_ixf, r_ixr, r_ixt, r_lenf, r_lenr, r_lent, r_int, r_abs, r_min2, r_max2, r_ti, r_tb, end_rt, end_nx, end_rt_t, end_nx_t, chk_true, atI_0, atI_1, atI_2, atI_nat, bltV, asg, asgL, clr, f_least_every, b_least_every, i_rg2 hr, hl, hm, e2]

end Lw

set_option Elab.async false
set_option linter.all false
set_option maxRecDepth 100000
set_option maxHeartbeats 1000000
namespace Lw
open PySem Ev
section
variable {fuel k : Nat} (is : List Int) (p : Int) (hp : 0 ≤ p) (sc kk : Val)
theorem s_work (hp : 0 ≤ p) : ∃ w q : Int, 0 ≤ w ∧ w ≤ 200 ∧ 0 ≤ q ∧ denS (lev src.P fuel (k + 1)) (.set 3 (.ix (.lst false (.cons (.call "_law_take" 0 (.cons (.v 1) (.cons (.i 12) .nil)) .nil) (.cons (.call "_law_take" 0 (.cons (.v 1) (.cons (.i 201) .nil)) .nil) .nil))) (.call "_law_take" 0 (.cons (.v 1) (.cons (.i 2) .nil)) .nil)))
    [some sc, some (.ref 0), some kk, none, none, none, none, none, none, none, none, none, none] (hS is p) = .ok (.nx [some sc, some (.ref 0), some kk, some (.int w), none, none, none, none, none, none, none, none, none]) (hS is q) := by
  obtain ⟨r1, a1, b1, e1⟩ := takeH (fuel := fuel) (k := k) is p 12 hp (by decide)
  obtain ⟨r2, a2, b2, e2⟩ := takeH (fuel := fuel) (k := k) is (p + 1) 201 (by omega) (by decide)
  obtain ⟨r3, a3, b3, e3⟩ := takeH (fuel := fuel) (k := k) is (p + 1 + 1) 2 (by omega) (by decide)
  have pk := fun S => pick2 r1 r2 r3 S a3 b3
  refine ⟨if r3 = 0 then r1 else r2, p + 1 + 1 + 1, by split <;> omega, by split <;> omega, by omega, ?_⟩
  simp -implicitDefEqProofs [Ev.R.ok_bind, e_v, e_lk, e_i, e_b, e_s, e_n, e_bin, e_bin1, e_bin2, e_neg, e_neg1, e_not, e_not1, e_not2, e_and, e_and1, e_and2, e_or, e_or1, e_or2, e_cmp, e_cmp1, e_cmp2, e_bl, e_ite, e_ite1, e_tup, e_tup1, e_lst, e_lst1, e_ix, e_ix1, e_ix2, e_fld, e_fld1, e_es0, e_es, e_es1, e_es2, e_call, e_call1, e_call2, e_call3, e_make, e_make1, e_make2, e_meth, e_meth1, e_meth2, e_meth3, e_blt, e_blt1, e_bm, e_bm1, e_bm2, u_not, u_not1, u_and, u_and1, u_or, u_or1, u_v, u_b, u_tr, u_cmp, u_cmp1, u_cmp2, u_ch, u_ch1, u_ch2, u_ch3, u_ix, u_fld, u_meth, u_blt, u_call, s_nil, s_cons, s_nx, s_rt, s_bk, s_ct, s_set, s_set1, s_asg, s_asg1, s_asg2, s_par, s_par1, s_par2, s_six, s_six1, s_six2, s_six3, s_ost, s_sf, s_sf1, s_sf2, s_ex, s_ex1, s_ret, s_ret1, s_retn, s_if, s_if1, s_pass, s_brk, s_cnt, e_lc, e_lc1, c_no, c_so, kC_ok, kSo_ok, i_e, i_rl, i_fl, i_tup, i_rg, s_for, s_for1, step_ok, cl_nx, cl_ct, cl_bk, cl_rt, s_wh, r_add, r_sub, r_mulR, r_mulL, r_modL, r_fdivL, r_tt, r_p18, r_lt, r_le, r_gt, r_ge, r_eq, r_ne, r_ofO, r_ixf, r_ixr, r_ixt, r_lenf, r_lenr, r_lent, r_int, r_abs, r_min2, r_max2, r_ti, r_tb, end_rt, end_nx, end_rt_t, end_nx_t, chk_true, atI_0, atI_1, atI_2, atI_nat, bltV, asg, asgL, clr, arr0, e1, e2, e3, mkf, pk]
theorem s_every (hp : 0 ≤ p) (w : Int) (hw : 0 ≤ w) (hw2 : w ≤ 200) : ∃ v q : Int, 1 ≤ v ∧ v ≤ 203 ∧ 0 ≤ q ∧ denS (lev src.P fuel (k + 1)) (.set 4 (.bin false .add (.i 1) (.ix (.lst false (.cons (.call "_law_take" 0 (.cons (.v 1) (.cons (.i 5) .nil)) .nil) (.cons (.call "_law_take" 0 (.cons (.v 1) (.cons (.bin false .add (.v 3) (.i 2)) .nil)) .nil) .nil))) (.call "_law_take" 0 (.cons (.v 1) (.cons (.i 2) .nil)) .nil))))
    [some sc, some (.ref 0), some kk, some (.int w), none, none, none, none, none, none, none, none, none] (hS is p) = .ok (.nx [some sc, some (.ref 0), some kk, some (.int w), some (.int v), none, none, none, none, none, none, none, none]) (hS is q) := by
  obtain ⟨r1, a1, b1, e1⟩ := takeH (fuel := fuel) (k := k) is p 5 hp (by decide)
  obtain ⟨r2, a2, b2, e2⟩ := takeH (fuel := fuel) (k := k) is (p + 1) (w + 2) (by omega) (by omega)
  obtain ⟨r3, a3, b3, e3⟩ := takeH (fuel := fuel) (k := k) is (p + 1 + 1) 2 (by omega) (by decide)
  have pk := fun S => pick2 r1 r2 r3 S a3 b3
  refine ⟨1 + (if r3 = 0 then r1 else r2), p + 1 + 1 + 1, by split <;> omega, by split <;> omega, by omega, ?_⟩
  simp -implicitDefEqProofs [Ev.R.ok_bind, e_v, e_lk, e_i, e_b, e_s, e_n, e_bin, e_bin1, e_bin2, e_neg, e_neg1, e_not, e_not1, e_not2, e_and, e_and1, e_and2, e_or, e_or1, e_or2, e_cmp, e_cmp1, e_cmp2, e_bl, e_ite, e_ite1, e_tup, e_tup1, e_lst, e_lst1, e_ix, e_ix1, e_ix2, e_fld, e_fld1, e_es0, e_es, e_es1, e_es2, e_call, e_call1, e_call2, e_call3, e_make, e_make1, e_make2, e_meth, e_meth1, e_meth2, e_meth3, e_blt, e_blt1, e_bm, e_bm1, e_bm2, u_not, u_not1, u_and, u_and1, u_or, u_or1, u_v, u_b, u_tr, u_cmp, u_cmp1, u_cmp2, u_ch, u_ch1, u_ch2, u_ch3, u_ix, u_fld, u_meth, u_blt, u_call, s_nil, s_cons, s_nx, s_rt, s_bk, s_ct, s_set, s_set1, s_asg, s_asg1, s_asg2, s_par, s_par1, s_par2, s_six, s_six1, s_six2, s_six3, s_ost, s_sf, s_sf1, s_sf2, s_ex, s_ex1, s_ret, s_ret1, s_retn, s_if, s_if1, s_pass, s_brk, s_cnt, e_lc, e_lc1, c_no, c_so, kC_ok, kSo_ok, i_e, i_rl, i_fl, i_tup, i_rg, s_for, s_for1, step_ok, cl_nx, cl_ct, cl_bk, cl_rt, s_wh, r_add, r_sub, r_mulR, r_mulL, r_modL, r_fdivL, r_tt, r_p18, r_lt, r_le, r_gt, r_ge, r_eq, r_ne, r_ofO, r_ixf, r_ixr, r_ixt, r_lenf, r_lenr, r_lent, r_int, r_abs, r_min2, r_max2, r_ti, r_tb, end_rt, end_nx, end_rt_t, end_nx_t, chk_true, atI_0, atI_1, atI_2, atI_nat, bltV, asg, asgL, clr, arr0, e1, e2, e3, mkf, pk]
theorem s_cost (hp : 0 ≤ p) (w v : Int) : ∃ c q : Int, 0 ≤ c ∧ c ≤ 50 ∧ 0 ≤ q ∧ denS (lev src.P fuel (k + 1)) (.set 5 (.ix (.lst false (.cons (.call "_law_take" 0 (.cons (.v 1) (.cons (.i 4) .nil)) .nil) (.cons (.call "_law_take" 0 (.cons (.v 1) (.cons (.i 51) .nil)) .nil) (.cons (.i 0) .nil)))) (.call "_law_take" 0 (.cons (.v 1) (.cons (.i 3) .nil)) .nil)))
    [some sc, some (.ref 0), some kk, some (.int w), some (.int v), none, none, none, none, none, none, none, none] (hS is p) = .ok (.nx [some sc, some (.ref 0), some kk, some (.int w), some (.int v), some (.int c), none, none, none, none, none, none, none]) (hS is q) := by
  obtain ⟨r1, a1, b1, e1⟩ := takeH (fuel := fuel) (k := k) is p 4 hp (by decide)
  obtain ⟨r2, a2, b2, e2⟩ := takeH (fuel := fuel) (k := k) is (p + 1) 51 (by omega) (by omega)
  obtain ⟨r3, a3, b3, e3⟩ := takeH (fuel := fuel) (k := k) is (p + 1 + 1) 3 (by omega) (by decide)
  have pk := fun S => pick3 r1 r2 0 r3 S a3 b3
  refine ⟨(if r3 = 0 then r1 else if r3 = 1 then r2 else 0), p + 1 + 1 + 1, ?_, ?_, by omega, ?_⟩
  · split
    · omega
    · split <;> omega
  · split
    · omega
    · split <;> omega
  · simp -implicitDefEqProofs [Ev.R.ok_bind, e_v, e_lk, e_i, e_b, e_s, e_n, e_bin, e_bin1, e_bin2, e_neg, e_neg1, e_not, e_not1, e_not2, e_and, e_and1, e_and2, e_or, e_or1, e_or2, e_cmp, e_cmp1, e_cmp2, e_bl, e_ite, e_ite1, e_tup, e_tup1, e_lst, e_lst1, e_ix, e_ix1, e_ix2, e_fld, e_fld1, e_es0, e_es, e_es1, e_es2, e_call, e_call1, e_call2, e_call3, e_make, e_make1, e_make2, e_meth, e_meth1, e_meth2, e_meth3, e_blt, e_blt1, e_bm, e_bm1, e_bm2, u_not, u_not1, u_and, u_and1, u_or, u_or1, u_v, u_b, u_tr, u_cmp, u_cmp1, u_cmp2, u_ch, u_ch1, u_ch2, u_ch3, u_ix, u_fld, u_meth, u_blt, u_call, s_nil, s_cons, s_nx, s_rt, s_bk, s_ct, s_set, s_set1, s_asg, s_asg1, s_asg2, s_par, s_par1, s_par2, s_six, s_six1, s_six2, s_six3, s_ost, s_sf, s_sf1, s_sf2, s_ex, s_ex1, s_ret, s_ret1, s_retn, s_if, s_if1, s_pass, s_brk, s_cnt, e_lc, e_lc1, c_no, c_so, kC_ok, kSo_ok, i_e, i_rl, i_fl, i_tup, i_rg, s_for, s_for1, step_ok, cl_nx, cl_ct, cl_bk, cl_rt, s_wh, r_add, r_sub, r_mulR, r_mulL, r_modL, r_fdivL, r_tt, r_p18, r_lt, r_le, r_gt, r_ge, r_eq, r_ne, r_ofO, r_ixf, r_ixr, r_ixt, r_lenf, r_lenr, r_lent, r_int, r_abs, r_min2, r_max2, r_ti, r_tb, end_rt, end_nx, end_rt_t, end_nx_t, chk_true, atI_0, atI_1, atI_2, atI_nat, bltV, asg, asgL, clr, arr0, e1, e2, e3, mkf, pk]
theorem s_falls (hp : 0 ≤ p) (w v c : Int) (h1 : 0 ≤ w ∧ w ≤ 200) (h2 : 1 ≤ v ∧ v ≤ 203) (h3 : 0 ≤ c ∧ c ≤ 50) : ∃ (F : List Int) (mo : Int) (j : Nat) (q : Int), j ≤ 20 ∧ FallsOk F mo j ∧ 0 ≤ q ∧ denS (lev src.P fuel (k + 2)) (.set 6 (.call "_law_drawn_falls" 3 (.cons (.v 1) (.cons (.v 3) (.cons (.v 4) (.cons (.v 5) .nil)))) .nil))
    [some sc, some (.ref 0), some kk, some (.int w), some (.int v), some (.int c), none, none, none, none, none, none, none] (hS is p) = .ok (.nx [some sc, some (.ref 0), some kk, some (.int w), some (.int v), some (.int c), some (.fl (F.map Val.int)), none, none, none, none, none, none]) (hS is q) := by
  obtain ⟨q, mo, F, j, h4, h5, h6, e⟩ := df_ok (fuel := fuel) (k := k) is w v c p h1 h2 h3 hp
  refine ⟨F, mo, j, q, h5, h6, h4, ?_⟩
  simp -implicitDefEqProofs [Ev.R.ok_bind, e_v, e_lk, e_i, e_b, e_s, e_n, e_bin, e_bin1, e_bin2, e_neg, e_neg1, e_not, e_not1, e_not2, e_and, e_and1, e_and2, e_or, e_or1, e_or2, e_cmp, e_cmp1, e_cmp2, e_bl, e_ite, e_ite1, e_tup, e_tup1, e_lst, e_lst1, e_ix, e_ix1, e_ix2, e_fld, e_fld1, e_es0, e_es, e_es1, e_es2, e_call, e_call1, e_call2, e_call3, e_make, e_make1, e_make2, e_meth, e_meth1, e_meth2, e_meth3, e_blt, e_blt1, e_bm, e_bm1, e_bm2, u_not, u_not1, u_and, u_and1, u_or, u_or1, u_v, u_b, u_tr, u_cmp, u_cmp1, u_cmp2, u_ch, u_ch1, u_ch2, u_ch3, u_ix, u_fld, u_meth, u_blt, u_call, s_nil, s_cons, s_nx, s_rt, s_bk, s_ct, s_set, s_set1, s_asg, s_asg1, s_asg2, s_par, s_par1, s_par2, s_six, s_six1, s_six2, s_six3, s_ost, s_sf, s_sf1, s_sf2, s_ex, s_ex1, s_ret, s_ret1, s_retn, s_if, s_if1, s_pass, s_brk, s_cnt, e_lc, e_lc1, c_no, c_so, kC_ok, kSo_ok, i_e, i_rl, i_fl, i_tup, i_rg, s_for, s_for1, step_ok, cl_nx, cl_ct, cl_bk, cl_rt, s_wh, r_add, r_sub, r_mulR, r_mulL, r_modL, r_fdivL, r_tt, r_p18, r_lt, r_le, r_gt, r_ge, r_eq, r_ne, r_ofO, r_ixf, r_ixr, r_ixt, r_lenf, r_lenr, r_lent, r_int, r_abs, r_min2, r_max2, r_ti, r_tb, end_rt, end_nx, end_rt_t, end_nx_t, chk_true, atI_0, atI_1, atI_2, atI_nat, bltV, asg, asgL, clr, arr3, e]
theorem s_passed (hp : 0 ≤ p) (w v c : Val) (F : List Int) : ∃ (z : Val) (q : Int), IsSeq z F ∧ 0 ≤ q ∧ denS (lev src.P fuel (k + 1)) (.set 7 (.ix (.lst false (.cons (.blt false .list (.cons (.v 6) .nil)) (.cons (.blt false .tuple (.cons (.v 6) .nil)) .nil))) (.call "_law_take" 0 (.cons (.v 1) (.cons (.i 2) .nil)) .nil)))
    [some sc, some (.ref 0), some kk, some w, some v, some c, some (.fl (F.map Val.int)), none, none, none, none, none, none] (hS is p) = .ok (.nx [some sc, some (.ref 0), some kk, some w, some v, some c, some (.fl (F.map Val.int)), some z, none, none, none, none, none]) (hS is q) := by
  obtain ⟨r1, a1, b1, e1⟩ := takeH (fuel := fuel) (k := k) is p 2 hp (by decide)
  have l1 : ∀ S : Store, listB false [.fl (F.map Val.int)] S = .ok (.fl (F.map Val.int)) S := fun S => rfl
  have l2 : ∀ S : Store, tupleB [.fl (F.map Val.int)] S = .ok (.tup (F.map Val.int)) S := fun S => rfl
  have h : r1 = 0 ∨ r1 = 1 := by omega
  rcases h with rfl | rfl
  · exact ⟨.fl (F.map Val.int), p + 1, .inl rfl, by omega, by simp -implicitDefEqProofs [Ev.R.ok_bind, e_v, e_lk, e_i, e_b, e_s, e_n, e_bin, e_bin1, e_bin2, e_neg, e_neg1, e_not, e_not1, e_not2, e_and, e_and1, e_and2, e_or, e_or1, e_or2, e_cmp, e_cmp1, e_cmp2, e_bl, e_ite, e_ite1, e_tup, e_tup1, e_lst, e_lst1, e_ix, e_ix1, e_ix2, e_fld, e_fld1, e_es0, e_es, e_es1, e_es2, e_call, e_call1, e_call2, e_call3, e_make, e_make1, e_make2, e_meth, e_meth1, e_meth2, e_meth3, e_blt, e_blt1, e_bm, e_bm1, e_bm2, u_not, u_not1, u_and, u_and1, u_or, u_or1, u_v, u_b, u_tr, u_cmp, u_cmp1, u_cmp2, u_ch, u_ch1, u_ch2, u_ch3, u_ix, u_fld, u_meth, u_blt, u_call, s_nil, s_cons, s_nx, s_rt, s_bk, s_ct, s_set, s_set1, s_asg, s_asg1, s_asg2, s_par, s_par1, s_par2, s_six, s_six1, s_six2, s_six3, s_ost, s_sf, s_sf1, s_sf2, s_ex, s_ex1, s_ret, s_ret1, s_retn, s_if, s_if1, s_pass, s_brk, s_cnt, e_lc, e_lc1, c_no, c_so, kC_ok, kSo_ok, i_e, i_rl, i_fl, i_tup, i_rg, s_for, s_for1, step_ok, cl_nx, cl_ct, cl_bk, cl_rt, s_wh, r_add, r_sub, r_mulR, r_mulL, r_modL, r_fdivL, r_tt, r_p18, r_lt, r_le, r_gt, r_ge, r_eq, r_ne, r_ofO, r_ixf, r_ixr, r_ixt, r_lenf, r_lenr, r_lent, r_int, r_abs, r_min2, r_max2, r_ti, r_tb, end_rt, end_nx, end_rt_t, end_nx_t, chk_true, atI_0, atI_1, atI_2, atI_nat, bltV, asg, asgL, clr, arr0, e1, mkf, l1, l2]⟩
  · exact ⟨.tup (F.map Val.int), p + 1, .inr rfl, by omega, by simp -implicitDefEqProofs [Ev.R.ok_bind, e_v, e_lk, e_i, e_b, e_s, e_n, e_bin, e_bin1, e_bin2, e_neg, e_neg1, e_not, e_not1, e_not2, e_and, e_and1, e_and2, e_or, e_or1, e_or2, e_cmp, e_cmp1, e_cmp2, e_bl, e_ite, e_ite1, e_tup, e_tup1, e_lst, e_lst1, e_ix, e_ix1, e_ix2, e_fld, e_fld1, e_es0, e_es, e_es1, e_es2, e_call, e_call1, e_call2, e_call3, e_make, e_make1, e_make2, e_meth, e_meth1, e_meth2, e_meth3, e_blt, e_blt1, e_bm, e_bm1, e_bm2, u_not, u_not1, u_and, u_and1, u_or, u_or1, u_v, u_b, u_tr, u_cmp, u_cmp1, u_cmp2, u_ch, u_ch1, u_ch2, u_ch3, u_ix, u_fld, u_meth, u_blt, u_call, s_nil, s_cons, s_nx, s_rt, s_bk, s_ct, s_set, s_set1, s_asg, s_asg1, s_asg2, s_par, s_par1, s_par2, s_six, s_six1, s_six2, s_six3, s_ost, s_sf, s_sf1, s_sf2, s_ex, s_ex1, s_ret, s_ret1, s_retn, s_if, s_if1, s_pass, s_brk, s_cnt, e_lc, e_lc1, c_no, c_so, kC_ok, kSo_ok, i_e, i_rl, i_fl, i_tup, i_rg, s_for, s_for1, step_ok, cl_nx, cl_ct, cl_bk, cl_rt, s_wh, r_add, r_sub, r_mulR, r_mulL, r_modL, r_fdivL, r_tt, r_p18, r_lt, r_le, r_gt, r_ge, r_eq, r_ne, r_ofO, r_ixf, r_ixr, r_ixt, r_lenf, r_lenr, r_lent, r_int, r_abs, r_min2, r_max2, r_ti, r_tb, end_rt, end_nx, end_rt_t, end_nx_t, chk_true, atI_0, atI_1, atI_2, atI_nat, bltV, asg, asgL, clr, arr0, e1, mkf, l1, l2]⟩
end
theorem repr_int {i : Int} (h : -1000000 ≤ i) (h2 : i ≤ 1000000) (S : Store) : reprB [.int i] S = .ok (.str (Str.ofString (toString i))) S := by
  have : i.natAbs.log2 < 1920 := by
    have h3 : i.natAbs < 2 ^ 20 := by omega
    by_cases h0 : i.natAbs = 0
    · rw [h0]
      decide
    · have := (Nat.log2_lt h0).mpr h3
      omega
  show chk (i.natAbs.log2 < 1920) (Ev.R.ok (Val.str (toString i)) S) = _
  rw [chk_pos this]
theorem turn_ok {fuel k : Nat} (hf : 300 ≤ fuel) (is : List Int) (p : Int) (hp : 0 ≤ p) (sc kk : Val) : ∃ q : Int, 0 ≤ q ∧ stepF (lev src.P fuel (k + 6)) (.nm 2) l_law_0 [2, 3, 4, 5, 6, 7, 8, 9, 10, 11, 12] kk [some sc, some (.ref 0), none, none, none, none, none, none, none, none, none, none, none] (hS is p) =
    .ok (.nx [some sc, some (.ref 0), none, none, none, none, none, none, none, none, none, none, none]) (hS is q) := by
  rw [stepF_eq (h := rfl)]
  obtain ⟨w, p1, w1, w2, q1, e1⟩ := s_work (fuel := fuel) (k := k + 5) is p sc kk hp
  obtain ⟨v, p2, v1, v2, q2, e2⟩ := s_every (fuel := fuel) (k := k + 5) is p1 sc kk q1 w w1 w2
  obtain ⟨c, p3, c1, c2, q3, e3⟩ := s_cost (fuel := fuel) (k := k + 5) is p2 sc kk q2 w v
  obtain ⟨F, mo, j, p4, j1, ⟨f1, f2, f3, f4, f5⟩, q4, e4⟩ := s_falls (fuel := fuel) (k := k + 4) is p3 sc kk q3 w v c ⟨w1, w2⟩ ⟨v1, v2⟩ ⟨c1, c2⟩
  obtain ⟨z, p5, z1, q5, e5⟩ := s_passed (fuel := fuel) (k := k + 5) is p4 sc kk q4 (.int w) (.int v) (.int c) F
  refine ⟨p5, q5, ?_⟩
  have hfu : w.toNat + F.length < fuel := by omega
  have hF1 : ∀ f ∈ F, 1 ≤ f := fun f h => (f2 f h).1
  have rz := runs_ok (fuel := fuel) (k := k + 5) w v c F (hS is p5) (by omega) w1 (by omega) (by omega)
  have tz := time_Z (fuel := fuel) (k := k + 1) w v c z F (hS is p5) z1 v1 w1 hfu f1 hF1
  have uz := units_Z (fuel := fuel) (k := k + 1) w v c z F (hS is p5) z1 v1 w1 hfu f1 hF1
  have far := runZ_far w v c 10000 (by omega) v1 (by omega) c1 (by omega) (w + F.length + 1).toNat 0 0 0 10000 F f1 (fun f h => by have := (f2 f h).2; omega) (by decide) (by decide) (by decide) (by decide) (by decide) (by decide)
  generalize hT : runZ w v c (w + F.length + 1).toNat 0 0 0 F = T at rz tz uz far
  have rp1 := repr_int (i := T.1) (by omega) (by omega)
  have rp2 := repr_int (i := T.2) (by omega) (by omega)
  have lz : ∀ S : Store, listB false [z] S = .ok (.fl (F.map Val.int)) S := fun S => by rcases z1 with rfl | rfl <;> rfl
  have cz := time_Z (fuel := fuel) (k := k + 1) w v c (.fl (([] : List Int).map Val.int)) [] (hS is p5) (.inl rfl) v1 w1 (by simp; omega) List.Pairwise.nil (fun f h => by cases h)
  obtain ⟨n, hn⟩ : ∃ n : Nat, 1 + w.fmod 25 = (n : Int) ∧ 1 ≤ n ∧ n ≤ 25 := ⟨(1 + w.fmod 25).toNat, by
    have h1 := Int.fmod_nonneg_of_pos w (show (0 : Int) < 25 by decide)
    have h2 := Int.fmod_lt_of_pos w (show (0 : Int) < 25 by decide)
    omega⟩
  obtain ⟨hn1, hn2, hn3⟩ := hn
  have tl := times_lc (fuel := fuel) (k := k + 1) (n : Int) c F (hS is p5) n [some sc, some (.ref 0), some kk, some (.int w), some (.int v), some (.int c), some (.fl (F.map Val.int)), some z, some (.int T.1), some (.int T.2), some (.int n), none, none] ⟨_, _, _, _, _, _, _, _, _, rfl⟩ (by omega) (by omega) (by omega) (by omega)
  obtain ⟨m, i, i1, i2, i3, i4⟩ := least_ok (fuel := fuel) (k := k) (n : Int) c z F n rfl (by omega) hn2 z1 (by omega) f1 hF1
  have rp3 := repr_int (i := 1 + (i : Int)) (by omega) (by omega)
  have mt : ∀ S : Store, minB [.fl ((timesZ (n : Int) c F n).map Val.int)] S = .ok (.int m) S := fun S => by rw [min_ints, i2]; rfl
  have il : ∀ (S : Store) (xs : List Val), isLst S (.fl xs) = true := fun _ _ => rfl
  have hr : inR 1 ∧ inR (1 + (n : Int)) := by unfold inR; omega
  have hr2 : inR 1 ∧ inR ((n : Int) + 1) := by unfold inR; omega
  have mk2 : ∀ (S : Store), mkList false ((timesZ (n : Int) c F n).map Val.int) S = .ok (.fl ((timesZ (n : Int) c F n).map Val.int)) S := fun S => mkf _ S (by simp [timesZ]; omega)
  have sq : ∀ (S : Store) (xs : List Val), seqOf S (.fl xs) = some xs := fun _ _ => rfl
  rw [show (1 + (n : Int)) = (n : Int) + 1 from by omega] at tl
  have body : denSs (lev src.P fuel (k + 6)) l_law_0 [some sc, some (.ref 0), some kk, none, none, none, none, none, none, none, none, none, none] (hS is p) = .ok (.nx [some sc, some (.ref 0), some kk, some (.int w), some (.int v), some (.int c), some (.fl (F.map Val.int)), some z, some (.int T.1), some (.int T.2), some (.int n), some (.fl ((timesZ (n : Int) c F n).map Val.int)), none]) (hS is p5) := by
    unfold l_law_0
    refine ss_step e1 (ss_step e2 (ss_step e3 (ss_step e4 (ss_step e5 ?_))))
    by_cases hw0 : 0 < w
    · have hcl := runZ_calm w v c v1 (w + ([] : List Int).length + 1).toNat 0 0 0 hw0 (by simp; omega)
      rw [hcl] at cz
      simp only [List.map_nil, Int.zero_add, Int.sub_zero] at cz
      have md : ∀ S : Store, binV false .fdiv (.int (w - 1)) (.int v) S = .ok (.int ((w - 1).fdiv v)) S := fun S => chk_pos (.inl (by unfold L2.CDivN; omega))
      have ml : ∀ S : Store, binV false .mul (.int c) (.int ((w - 1).fdiv v)) S = .ok (.int (c * (w - 1).fdiv v)) S := fun S => r_mulP ⟨by omega, by omega⟩
      simp -implicitDefEqProofs [Ev.R.ok_bind, e_v, e_lk, e_i, e_b, e_s, e_n, e_bin, e_bin1, e_bin2, e_neg, e_neg1, e_not, e_not1, e_not2, e_and, e_and1, e_and2, e_or, e_or1, e_or2, e_cmp, e_cmp1, e_cmp2, e_bl, e_ite, e_ite1, e_tup, e_tup1, e_lst, e_lst1, e_ix, e_ix1, e_ix2, e_fld, e_fld1, e_es0, e_es, e_es1, e_es2, e_call, e_call1, e_call2, e_call3, e_make, e_make1, e_make2, e_meth, e_meth1, e_meth2, e_meth3, e_blt, e_blt1, e_bm, e_bm1, e_bm2, u_not, u_not1, u_and, u_and1, u_or, u_or1, u_v, u_b, u_tr, u_cmp, u_cmp1, u_cmp2, u_ch, u_ch1, u_ch2, u_ch3, u_ix, u_fld, u_meth, u_blt, u_call, s_nil, s_cons, s_nx, s_rt, s_bk, s_ct, s_set, s_set1, s_asg, s_asg1, s_asg2, s_par, s_par1, s_par2, s_six, s_six1, s_six2, s_six3, s_ost, s_sf, s_sf1, s_sf2, s_ex, s_ex1, s_ret, s_ret1, s_retn, s_if, s_if1, s_pass, s_brk, s_cnt, e_lc, e_lc1, c_no, c_so, kC_ok, kSo_ok, i_e, i_rl, i_fl, i_tup, i_rg, s_for, s_for1, step_ok, cl_nx, cl_ct, cl_bk, cl_rt, s_wh, r_add, r_sub, r_mulR, r_mulL, r_modL, r_fdivL, r_tt, r_p18, r_lt, r_le, r_gt, r_ge, r_eq, r_ne, r_ofO, r_ixf, r_ixr, r_ixt, r_lenf, r_lenr, r_lent, r_int, r_abs, r_min2, r_max2, r_ti, r_tb, end_rt, end_nx, end_rt_t, end_nx_t, chk_true, atI_0, atI_1, atI_2, atI_nat, bltV, asg, asgL, clr, sq, arr3, arr4, rz, tz, uz, rp1, rp2, ne_str, lz, ne_ints, hw0, mkf, cz, md, ml, hn1, i_rg2 hr2, tl, mk2, i3, i4, mt, il, rp3]
    · simp -implicitDefEqProofs [Ev.R.ok_bind, e_v, e_lk, e_i, e_b, e_s, e_n, e_bin, e_bin1, e_bin2, e_neg, e_neg1, e_not, e_not1, e_not2, e_and, e_and1, e_and2, e_or, e_or1, e_or2, e_cmp, e_cmp1, e_cmp2, e_bl, e_ite, e_ite1, e_tup, e_tup1, e_lst, e_lst1, e_ix, e_ix1, e_ix2, e_fld, e_fld1, e_es0, e_es, e_es1, e_es2, e_call, e_call1, e_call2, e_call3, e_make, e_make1, e_make2, e_meth, e_meth1, e_meth2, e_meth3, e_blt, e_blt1, e_bm, e_bm1, e_bm2, u_not, u_not1, u_and, u_and1, u_or, u_or1, u_v, u_b, u_tr, u_cmp, u_cmp1, u_cmp2, u_ch, u_ch1, u_ch2, u_ch3, u_ix, u_fld, u_meth, u_blt, u_call, s_nil, s_cons, s_nx, s_rt, s_bk, s_ct, s_set, s_set1, s_asg, s_asg1, s_asg2, s_par, s_par1, s_par2, s_six, s_six1, s_six2, s_six3, s_ost, s_sf, s_sf1, s_sf2, s_ex, s_ex1, s_ret, s_ret1, s_retn, s_if, s_if1, s_pass, s_brk, s_cnt, e_lc, e_lc1, c_no, c_so, kC_ok, kSo_ok, i_e, i_rl, i_fl, i_tup, i_rg, s_for, s_for1, step_ok, cl_nx, cl_ct, cl_bk, cl_rt, s_wh, r_add, r_sub, r_mulR, r_mulL, r_modL, r_fdivL, r_tt, r_p18, r_lt, r_le, r_gt, r_ge, r_eq, r_ne, r_ofO, r_ixf, r_ixr, r_ixt, r_lenf, r_lenr, r_lent, r_int, r_abs, r_min2, r_max2, r_ti, r_tb, end_rt, end_nx, end_rt_t, end_nx_t, chk_true, atI_0, atI_1, atI_2, atI_nat, bltV, asg, asgL, clr, sq, arr3, arr4, rz, tz, uz, rp1, rp2, ne_str, lz, ne_ints, hw0, hn1, i_rg2 hr2, tl, mk2, i3, i4, mt, il, rp3]
  show kStep [2, 3, 4, 5, 6, 7, 8, 9, 10, 11, 12] (denSs (lev src.P fuel (k + 6)) l_law_0 [some sc, some (.ref 0), some kk, none, none, none, none, none, none, none, none, none, none] (hS is p)) = _
  rw [body]
  rfl
theorem law_ok : src.Law 300 8 := by
  intro ns hn
  rw [lev_call find_law, run_eq rfl]
  obtain ⟨is, e0⟩ := draws_ok (fuel := 300) (k := 6) (many := 100) ns [] hn (by decide)
  have e1 : (lev src.P 300 7).call "_law_draws" [.rl (ns.map Val.int), .int 100] [] = .ok (.fl (is.map Val.int)) [] := e0
  obtain ⟨ρ', S', e, p, hp, rfl, rfl⟩ := forL_inv (gs := []) (step := stepF (lev src.P 300 7) (.nm 2) l_law_0 [2, 3, 4, 5, 6, 7, 8, 9, 10, 11, 12])
    (fun _ ρ S => ∃ p, 0 ≤ p ∧ ρ = [some (.rl (ns.map Val.int)), some (.ref 0), none, none, none, none, none, none, none, none, none, none, none] ∧ S = hS is p) (rangeL 0 3) 0 [some (.rl (ns.map Val.int)), some (.ref 0), none, none, none, none, none, none, none, none, none, none, none] (hS is 0)
    ⟨0, by decide, rfl, rfl⟩ (fun j x ρ S hx I => by
      obtain ⟨p, hp, rfl, rfl⟩ := I
      obtain ⟨q, hq, h⟩ := turn_ok (fuel := 300) (k := 1) (Nat.le_refl _) is p hp (.rl (ns.map Val.int)) x
      exact ⟨gdOk_nil _, _, _, .inl h, q, hq, rfl, rfl⟩) (fun _ _ _ => gdOk_nil _)
  have mk : ∀ (a b : Val) (S : Store), mkList true [a, b] S = .ok (.ref S.length) (S ++ [.lst [a, b]]) := fun a b S => r_mkm (le_line (by simp))
  have hr : inR 3 := by unfold inR; omega
  have hx : exitp [] (.bl true) (hS is p) = .ok (.bl true) [] := by
    have fr : freeze 8 ([] : Store).length (hS is p) (.bl true) = some (.bl true) := rfl
    have ko : KeepOk [] (hS is p) := ⟨Nat.zero_le _, fun i c c' h1 h2 => by simp at h1⟩
    unfold exitp
    rw [fr]
    simp only
    rw [if_pos ko]
    rfl
  refine ⟨[], ?_⟩
  simp -implicitDefEqProofs [Ev.R.ok_bind, e_v, e_lk, e_i, e_b, e_s, e_n, e_bin, e_bin1, e_bin2, e_neg, e_neg1, e_not, e_not1, e_not2, e_and, e_and1, e_and2, e_or, e_or1, e_or2, e_cmp, e_cmp1, e_cmp2, e_bl, e_ite, e_ite1, e_tup, e_tup1, e_lst, e_lst1, e_ix, e_ix1, e_ix2, e_fld, e_fld1, e_es0, e_es, e_es1, e_es2, e_call, e_call1, e_call2, e_call3, e_make, e_make1, e_make2, e_meth, e_meth1, e_meth2, e_meth3, e_blt, e_blt1, e_bm, e_bm1, e_bm2, u_not, u_not1, u_and, u_and1, u_or, u_or1, u_v, u_b, u_tr, u_cmp, u_cmp1, u_cmp2, u_ch, u_ch1, u_ch2, u_ch3, u_ix, u_fld, u_meth, u_blt, u_call, s_nil, s_cons, s_nx, s_rt, s_bk, s_ct, s_set, s_set1, s_asg, s_asg1, s_asg2, s_par, s_par1, s_par2, s_six, s_six1, s_six2, s_six3, s_ost, s_sf, s_sf1, s_sf2, s_ex, s_ex1, s_ret, s_ret1, s_retn, s_if, s_if1, s_pass, s_brk, s_cnt, e_lc, e_lc1, c_no, c_so, kC_ok, kSo_ok, i_e, i_rl, i_fl, i_tup, i_rg, s_for, s_for1, step_ok, cl_nx, cl_ct, cl_bk, cl_rt, s_wh, r_add, r_sub, r_mulR, r_mulL, r_modL, r_fdivL, r_tt, r_p18, r_lt, r_le, r_gt, r_ge, r_eq, r_ne, r_ofO, r_ixf, r_ixr, r_ixt, r_lenf, r_lenr, r_lent, r_int, r_abs, r_min2, r_max2, r_ti, r_tb, end_rt, end_nx, end_rt_t, end_nx_t, chk_true, atI_0, atI_1, atI_2, atI_nat, bltV, asg, asgL, clr, f_law, b_law, arr0, e1, mk, i_rg1 hr, e, hx]
end Lw

open PySem PySem.W PySem.Calls PyProof.Rows
set_option maxHeartbeats 0 in
theorem PySem.Challenge.cw_everystage_k59_work_with_falls_holds : PySem.Challenge.rw_everystage_k59_work_with_falls.Holds := by
  w_on; o_law
  refine HandSHeadRun.head_any (r := OpenLaw.row PySem.Challenge.rw_everystage_k59_work_with_falls) (q := view (OpenLaw.row PySem.Challenge.rw_everystage_k59_work_with_falls).prog [11]) (H := Lw.hk) (ob := Lw.ob) (M := 2000) (loose := Lw.others) (d := HandSHeadRun.topDef (OpenLaw.row PySem.Challenge.rw_everystage_k59_work_with_falls).prog 11) (kwd := []) Lw.ob_eq
    (by kernel_rfl) (fun s => by kernel_rfl) Lw.run (by kernel_rfl) (by kernel_rfl) (by kernel_rfl) (by rfl) (by first | assumption | decide +kernel) (by decide +kernel) ⟨rfl, rfl, rfl, rfl, rfl, by decide +kernel⟩ ?hw ?hc
  case hw => w_witness2
  case hc => exact Ev.Src.walk (l := PySem.Challenge.rw_everystage_k59_work_with_falls) Lw.src 300 8 Lw.e_law rfl (by kernel_rfl) (by kernel_rfl) rfl rfl rfl rfl Lw.sh_law Lw.tab_ok Lw.sh_all Lw.ck_all ⟨rfl, by decide, by decide⟩ Lw.law_ok
