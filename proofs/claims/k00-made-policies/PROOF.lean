import PyProof.Rows.All
import Wide.All
import OpenK.AllK
import Wide.FinOn
import HandS.Strs
import HandS.SetFor
import PyProof.EqAt
import PyProof.EqKinds
import KE.KLam
import KE.DataFind
import KE.DataEq
import KE.SortData
import PyProof.SeqIndex
import HandS.ForMost
import HandS.Exc
import HandS.ExcOwn
import HandS.ExcIs
import HandS.Lambda
import HandS.Nested
import HandS.Conv
import HandS.EndTab
import HandS.HeadWalk
import HandS.HeadHook4
import HandS.Head2
import HandS.TupAny
import HandS.TupMul
import HandS.Deep
import HandS.IsInst
import HandS.ExcValue
import KE.GoesEnum
import HandS.NestedK
import HandS.EndBits
import HandS.Head4
import PyProof.ExcBaseAll.ValueError
import PySem.Challenge.RW_everypolicy_k00_made_policies
set_option Elab.async false
set_option autoImplicit false
set_option linter.all false
set_option maxRecDepth 100000
namespace MP
open PySem PySem.Spec L2
open PyProof.Rows hiding St

/-! ### set(xs) of a list of ints -/
section
variable {P : Program} {w : World} {A : Around} {E : Value → Shared → Prop} {s : Shared}
/-- the set object that is there first -/
def set0 (w : World) : Obj := { cls := .type "set", dict := none, data := .set #[] 0 (.fresh 0 0 (!w.params.followText "set-order")) }
set_option maxHeartbeats 3300000 in
theorem set_lstI {ad : Addr} {arr : Array Value} (zs : List Int) {Q : Value → Shared → Prop} (h0 : A.handled = none) (hl : s.heap.IsList ad arr) (hz : IntsAre arr.toList zs) (hb : zs.length + 1 < scanBound)
    (k : ∀ (h2 : Heap) (tq c : Nat), SetR w h2 s.heap.objs.size (fun j => decide (j ∈ zs)) c → c ≤ zs.length → (∀ b o, s.heap.get? b = some o → h2.get? b = some o) → Q (.ref s.heap.objs.size) { s with heap := h2, toks := tq }) : wpAny (model P w) A (call (.type "set") [.ref ad]) Q E s := by
  have hsz : arr.size = zs.length := by
    have q := IntsAre.length hz
    rwa [Array.length_toList] at q
  obtain ⟨c, tl, hmro⟩ := F.called_set.mro
  have hmade := F.called_set.made; have hsub := F.called_set.sub
  refine wpAny_call (codeAny_of_tree (show wpAny _ _ (callAny (.type "set") _) _ _ _ from wpAny_pure ⟨Code.quiet_builtin _ (by decide +kernel), codeAny_builtin F.entry_type_call ?_⟩))
  rw [Around.under_plain (weight_type_call_type "set" [.ref ad] []) rfl]
  have h1 := F.called_set.notType; have h2 := F.called_set.canCreate; have hct := F.typeCall_set_1 (.ref ad)
  repeat (any_goals (first | assumption | wp_step))
  refine codeAny_mono (code_set_led1 (.ref ad) (E := E) (Q₁ := fun obj s₁ => obj = .ref s.heap.objs.size ∧ s₁ = { s with heap := s.heap.push (set0 w) }) ⟨rfl, rfl⟩) fun r s₁ hr => ?_
  cases r with
  | error e => exact hr
  | ok fl =>
    cases fl with
    | ret obj =>
      obtain ⟨rfl, rfl⟩ := hr
      have hS : (s.heap.push (set0 w)).get? s.heap.objs.size = some (set0 w) := Heap.get?_push_size _ rfl
      have hT : Shared.TypeIs { s with heap := s.heap.push (set0 w) } (.ref s.heap.objs.size) "set" := ⟨_, hS, rfl⟩
      have hli := F.called_set.init.lookup; have hbi := F.called_set.init.bind (.ref s.heap.objs.size)
      repeat (any_goals (first | assumption | wp_step))
      refine codeAny_mono (codeAny_call_builtin (R := wants (fun r s₂ => r = .none ∧ ∃ h2 tq c, s₂ = { s with heap := h2, toks := tq } ∧ SetR w h2 s.heap.objs.size (fun j => decide (j ∈ zs)) c ∧ c ≤ zs.length ∧ (∀ b o, s.heap.get? b = some o → h2.get? b = some o)) E) F.called_set.init.plain F.entry_set_init (check_set_init_1 hT ?_)) fun r₂ s₂ hr₂ => ?_
      · obtain ⟨⟨ocls, odict, odata, oslots⟩, hol, hcl, nl, hdl⟩ := hl
        simp only at hcl hdl
        subst hcl hdl
        have hol2 : (s.heap.push (set0 w)).get? ad = some { cls := .type "list", dict := odict, data := .seq arr nl, slots := oslots } := Heap.get?_push_of_some _ hol
        have hsls := F.sub_list_set; have hslf := F.sub_list_frozenset
        have hne : (Value.type "list" == Value.type "dict") = false := by rfl
        have hl1 : (s.heap.push (set0 w)).IsList ad arr := ⟨_, hol2, rfl, nl, rfl⟩
        unfold Builtin.«set.__init__» noKeywords Builtin.Frozenset.updateFrom
        generalize hPI : pyIter = PI
        wp_walk
        subst hPI
        refine wpAny_pyIter_list hl1 (wpAny_bind (wpAny_runValue ?_))
        have hlS : ad < s.heap.objs.size := Heap.lt_size hol
        have hneI : ad ≠ (s.heap.push (set0 w)).objs.size := by rw [Heap.size_push]; exact Nat.ne_of_lt (Nat.lt_succ_of_lt hlS)
        have hSf : s.heap.objs.size ∉ [(s.heap.push (set0 w)).objs.size, ad] := by
          rw [Heap.size_push]
          intro z
          rcases List.mem_cons.mp z with z | z
          · exact Nat.ne_of_lt (Nat.lt_succ_self _) z
          · exact Nat.ne_of_gt hlS (List.mem_singleton.mp z)
        have hval : ∀ (i : Nat) (v : Value), arr[i]? = some v → ∃ k t, zs[i]? = some k ∧ v = .int k t := fun i v hv => by
          have hi : i < zs.length := by rw [← hsz]; exact (Array.getElem?_eq_some_iff.mp hv).1
          obtain ⟨t, e⟩ := hz.int_at i v (by rw [Array.getElem?_toList]; exact hv)
          exact ⟨zs[i], t, List.getElem?_eq_getElem hi, by rw [e, List.getD_eq_getElem?_getD, List.getElem?_eq_getElem hi] <;> rfl⟩
        refine set_update_ints ((Walks.list (show A.in1.in1.in1.handled = none by simp [h0]) _ ad hneI arr).toS) s.heap.objs.size hSf zs hsz hb hval (arr.size - 0) 0 _ (by omega) (Nat.zero_le _) ⟨⟨_, Heap.get?_push_size _ rfl, rfl, rfl⟩, hl1.push _⟩ ?a0 ?a1
        case a0 => exact ⟨0, Nat.le_refl 0, setR_new_at (Heap.get?_push_of_some _ hS)⟩
        case a1 =>
          intro s3 c3 hm hc3 hS3
          obtain ⟨h3, g3, d3, tk3, os3⟩ := s3
          cases (show g3 = s.gens from hm.gens)
          cases (show d3 = s.drawn from hm.drawn)
          cases (show os3 = s.os from hm.os)
          show wpAny _ _ _ _ _ _
          refine wpAny_pure ?_
          show wpAny _ _ (ret Value.none) _ _ _
          rw [hsz] at hc3
          refine wpAny_pure ⟨rfl, h3, tk3, c3, rfl, hS3, hc3, fun b o e => ?_⟩
          have hb0 : b < s.heap.objs.size := Heap.lt_size e
          refine hm.heap b o ?_ (Heap.get?_push_of_some _ (Heap.get?_push_of_some _ e))
          rw [Heap.size_push]
          intro z
          rcases List.mem_cons.mp z with z | z
          · exact Nat.ne_of_lt hb0 z
          · exact Nat.ne_of_lt (Nat.lt_succ_of_lt hb0) (List.mem_singleton.mp z)
      · cases r₂ with
        | error e => exact hr₂
        | ok f2 =>
          cases f2 with
          | ret r =>
            obtain ⟨rfl, h2, tq, c2, rfl, q1, q2, q3⟩ := hr₂
            repeat (any_goals (first | assumption | wp_step))
            exact k _ _ _ q1 q2 q3
          | next => exact hr₂.elim
          | brk => exact hr₂.elim
          | cont => exact hr₂.elim
    | next => exact hr.elim
    | brk => exact hr.elim
    | cont => exact hr.elim
end
end MP
namespace MP

/-- loc-free data -/
inductive PD where
  | non | bl (b : Bool) | int (i : Int) | str (x : List Nat) | tup (xs : List PD) | lst (xs : List PD)
  deriving Inhabited

mutual
def PD.eqv : PD → PD → Bool
  | .non, .non => true
  | .bl a, .bl b => a == b
  | .bl a, .int j => (if a then 1 else 0) == j
  | .int i, .bl b => i == (if b then 1 else 0)
  | .int i, .int j => i == j
  | .str x, .str y => x == y
  | .tup xs, .tup ys => PD.eqvAll xs ys
  | .lst xs, .lst ys => PD.eqvAll xs ys
  | _, _ => false
def PD.eqvAll : List PD → List PD → Bool
  | [], [] => true
  | x :: xs, y :: ys => PD.eqv x y && PD.eqvAll xs ys
  | _, _ => false
end
mutual
/-- same kind, same value (so the same repr) -/
def PD.same : PD → PD → Bool
  | .non, .non => true
  | .bl a, .bl b => a == b
  | .int i, .int j => i == j
  | .str x, .str y => x == y
  | .tup xs, .tup ys => PD.sameAll xs ys
  | .lst xs, .lst ys => PD.sameAll xs ys
  | _, _ => false
def PD.sameAll : List PD → List PD → Bool
  | [], [] => true
  | x :: xs, y :: ys => PD.same x y && PD.sameAll xs ys
  | _, _ => false
end

mutual
/-- its repr is short enough -/
def PD.okR : PD → Bool
  | .int i => (decide (0 ≤ i) && decide (i < 10000000000000)) || decide (i = -1)
  | .tup xs => PD.okRs xs
  | .lst xs => PD.okRs xs
  | _ => true
def PD.okRs : List PD → Bool
  | [] => true
  | x :: xs => PD.okR x && PD.okRs xs
end
mutual
def PD.bulk : PD → Nat
  | .str x => x.length
  | .tup xs => PD.bulks xs
  | .lst xs => PD.bulks xs
  | _ => 0
def PD.bulks : List PD → Nat
  | [] => 0
  | x :: xs => PD.bulk x + 1 + PD.bulks xs
end
inductive LV where
  | non | bl (b : Bool) | int (i : Int) | str (x : List Nat) | tup (xs : List LV) | loc (n : Nat) | glo (k : Nat) | rep (d : PD)
  deriving Inhabited

inductive GO where
  | lst (xs : List LV) | fro (xs : List LV) | dic (kvs : List (LV × LV)) | set (xs : List LV) | clo (k : Nat) (cs : List Nat) | exc (k : Nat)

inductive Tr where
  | nil | nd (o : Option GO) (l r : Tr)
def Tr.get : Tr → Nat → Option GO
  | .nil, _ => none
  | .nd o l r, n => if n = 0 then o else if n % 2 = 1 then l.get (n / 2) else r.get (n / 2 - 1)
def Tr.set : Nat → Tr → Nat → GO → Option Tr
  | 0, _, _, _ => none
  | f + 1, t, n, a =>
    match t with
    | .nil => if n = 0 then some (.nd (some a) .nil .nil) else if n % 2 = 1 then (match Tr.set f .nil (n / 2) a with | some l => some (.nd none l .nil) | none => none) else (match Tr.set f .nil (n / 2 - 1) a with | some r => some (.nd none .nil r) | none => none)
    | .nd o l r => if n = 0 then some (.nd (some a) l r) else if n % 2 = 1 then (match Tr.set f l (n / 2) a with | some l' => some (.nd o l' r) | none => none) else (match Tr.set f r (n / 2 - 1) a with | some r' => some (.nd o l r') | none => none)

/-- size, objects; the next cell's number, the cells that live -/
structure GH where
  size : Nat
  t : Tr
  cn : Nat
  cs : List (Nat × Option LV)
def cLook (n : Nat) : List (Nat × Option LV) → Option (Option LV)
  | [] => none
  | (k, v) :: r => if n = k then some v else cLook n r
def cPut (n : Nat) (v : LV) : List (Nat × Option LV) → List (Nat × Option LV)
  | [] => []
  | (k, w) :: r => if n = k then (k, some v) :: r else (k, w) :: cPut n v r

inductive Res (α : Type) where
  | ok (a : α) (g : GH) | exn (k : Nat) (g : GH) | stuck

def Res.bind {α β : Type} (r : Res α) (f : α → GH → Res β) : Res β := match r with
  | .ok a g => f a g
  | .exn k g => .exn k g
  | .stuck => .stuck

def alloc (o : GO) (g : GH) : Res LV := match Tr.set 40 g.t g.size o with
  | some t => .ok (.loc g.size) ⟨g.size + 1, t, g.cn, g.cs⟩
  | none => .stuck
def store (n : Nat) (o : GO) (g : GH) : Res Unit := match Tr.set 40 g.t n o with
  | some t => .ok () ⟨g.size, t, g.cn, g.cs⟩
  | none => .stuck

/-- deep reading, d levels at most -/
def mapO {α β : Type} (f : α → Option β) : List α → Option (List β)
  | [] => some []
  | x :: xs => match f x with
    | none => none
    | some y => match mapO f xs with
      | none => none
      | some ys => some (y :: ys)
def okS (x : List Nat) : Bool := x.all fun c => decide (c < 1114112)
/-- not too long -/
def lenOk {α : Type} (xs : List α) : Bool := decide (xs.length ≤ 16777216)
def rei : Nat → GH → LV → Option PD
  | 0, _, _ => none
  | d + 1, g, v => match v with
    | .non => some .non
    | .bl b => some (.bl b)
    | .int i => some (.int i)
    | .str x => if okS x then some (.str x) else none
    | .tup xs => (match mapO (rei d g) xs with | some ys => some (.tup ys) | none => none)
    | .loc n => (match g.t.get n with
      | some (.lst xs) => (match mapO (rei d g) xs with | some ys => some (.lst ys) | none => none)
      | some (.fro xs) => (match mapO (rei d g) xs with | some ys => some (.lst ys) | none => none)
      | _ => none)
    | _ => none
abbrev dep : Nat := 16

abbrev SL := List (Option LV)
inductive Fl where
  | nx | rt (v : LV) | bk | ct

/-- a call of code k: captured cells, arguments -/
abbrev CallT := Nat → List Nat → List LV → GH → Res LV

inductive Itr where
  | lst (n i : Nat) | seq (xs : List LV) | enm (i : Nat) (xs : List LV) | rng (lo : Int) (n : Nat)

def isFn (g : GH) : LV → Bool
  | .glo _ => true
  | .loc n => (match g.t.get n with | some (.clo _ _) => true | _ => false)
  | _ => false
def appF (C : CallT) (fv : LV) (vs : List LV) (g : GH) : Res LV := match fv with
  | .glo k => C k [] vs g
  | .loc n => (match g.t.get n with | some (.clo k cs) => if cs.all (fun j => (cLook j g.cs).isSome) then C k cs vs g else .stuck | _ => .stuck)
  | _ => .stuck
structure D where
  e : CallT → SL → GH → Res LV := fun _ _ _ => .stuck
  a : CallT → SL → GH → Res (List LV) := fun _ _ _ => .stuck
  b : CallT → SL → GH → Res Bool := fun _ _ _ => .stuck
  i : CallT → SL → GH → Res Itr := fun _ _ _ => .stuck
  tg : CallT → LV → SL → GH → Res SL := fun _ _ _ _ => .stuck
  s : CallT → SL → GH → Res (Fl × SL) := fun _ _ _ => .stuck

inductive BOp where
  | add | sub | mul | fdiv | mod | pow
inductive COp where
  | eq | ne | lt | le | gt | ge | is | isn | inn | nin
inductive Bi where
  | len | tuple | list | int | abs | all | repr | sorted | sortedD | min | dict
/-- what isinstance asks -/
inductive Ic where
  | int | bool | tuple | str | cls (k : Nat)
inductive Mt where
  | append | pop | index

inductive T where
  | var (i : Nat) | cvar (i : Nat) | glo (k : Nat) | lit (v : LV) | tup (as : T) | lst (as : T) | dct (as : T) | nil | cons (a b : T)
  | bin (op : BOp) (a b : T) | neg (a : T) | no (a : T) | and (a b : T) | or (a b : T) | cmp (op : COp) (a b : T) | chn (p q : COp) (a b c : T)
  | ife (c a b : T) | ix (a b : T) | sl (a lo hi : T) | cal (p : Bool) (k : Nat) (as : T) | cav (p : Bool) (f as : T) | cak (p : Bool) (oks : List Nat) (f as : T) | bi (b : Bi) (as : T) | isi (c : Ic) (a : T) | rg1 (l : Bool) (a : T) | rg2 (l : Bool) (a b : T) | srs (a : T) | mt (m : Mt) (o as : T) | lam (k : Nat) (cs : List Nat)
  | lc (own hid : List Nat) (tg it c e : T)
  | itv (e : T) | itr (a : T) | itr2 (a b : T) | ite (e : T)
  | tgv (i : Nat) | tgc (i : Nat) | tgt (n : Nat) (as : T) | tgi (a b : T)
  | asg (tg e : T) | exs (e : T) | ret (e : T) | iff (c a b : T) | whl (c a : T) | fr (tg it a : T) | rai (k : Nat) | try_ (oks : List Nat) (i j : Nat) (a : T) | pas

/-! semantics -/
def truth (g : GH) : LV → Option Bool
  | .non => some false
  | .bl b => some b
  | .int i => some (i != 0)
  | .str x => if lenOk x then some (!x.isEmpty) else none
  | .tup xs => some (!xs.isEmpty)
  | .loc n => match g.t.get n with
    | some (.lst xs) => some (!xs.isEmpty)
    | some (.fro xs) => some (!xs.isEmpty)
    | some (.dic xs) => some (!xs.isEmpty)
    | _ => none
  | _ => none
def ofO {α : Type} (o : Option α) (g : GH) : Res α := match o with
  | some a => .ok a g
  | none => .stuck
def listAt (g : GH) (n : Nat) : Option (List LV) := match g.t.get n with
  | some (.lst xs) => some xs
  | some (.fro xs) => some xs
  | _ => none
def seqOf (g : GH) : LV → Option (List LV)
  | .tup xs => some xs
  | .loc n => listAt g n
  | _ => none
def ixN (n : Nat) (i : Int) : Option Nat := if 0 ≤ i then (if i < n then some i.toNat else none) else if -(n : Int) ≤ i then some (i + n).toNat else none
def atI {α : Type} (xs : List α) (i : Int) : Option α := match ixN xs.length i with
  | some j => xs[j]?
  | none => none
def eqL (g : GH) (a b : LV) : Option Bool := match a, b with
  | .rep d, .rep e => if PD.same d e then some true else none
  | a, b => match rei dep g a with
    | some d => (match rei dep g b with
      | some e => some (PD.eqv d e)
      | none => none)
    | none => none
def rept {α : Type} (xs : List α) : Nat → List α
  | 0 => []
  | n + 1 => xs ++ rept xs n
def lstAt (g : GH) (n : Nat) : Option (List LV) := match g.t.get n with
  | some (.lst xs) => some xs
  | _ => none
def word (i : Int) : Bool := decide (-18446744073709551616 < i) && decide (i < 18446744073709551616)
def semBin (op : BOp) (a b : LV) (g : GH) : Res LV := match op, a, b with
  | .add, .int i, .int j => .ok (.int (i + j)) g
  | .add, .str x, .str y => if lenOk (x ++ y) then .ok (.str (x ++ y)) g else .stuck
  | .add, .tup x, .tup y => if lenOk (x ++ y) then .ok (.tup (x ++ y)) g else .stuck
  | .add, .loc n, .loc m => (match lstAt g n with
    | some xs => (match lstAt g m with
      | some ys => if lenOk (xs ++ ys) then alloc (.lst (xs ++ ys)) g else .stuck
      | none => .stuck)
    | none => .stuck)
  | .sub, .int i, .int j => .ok (.int (i - j)) g
  | .mul, .int i, .int j => if word i || word j then .ok (.int (i * j)) g else .stuck
  | .mul, .tup x, .int j => if decide (j ≤ 1000) && (decide (0 ≤ j) && (decide (x.length ≤ 1000) && !x.isEmpty)) then .ok (.tup (rept x j.toNat)) g else .stuck
  | .fdiv, .int i, .int j => if decide (0 < j) && decide (j < 1073741824) then .ok (.int (i / j)) g else .stuck
  | .mod, .int i, .int j => if 0 < j then .ok (.int (i % j)) g else .stuck
  | .pow, .int i, .int j => if decide (0 ≤ j) && (decide (j ≤ 1000000) && word i) then .ok (.int (i ^ j.toNat)) g else .stuck
  | _, _, _ => .stuck
def isL : LV → LV → Option Bool
  | .non, .non => some true
  | .bl a, .bl b => some (a == b)
  | .non, .bl _ => some false
  | .bl _, .non => some false
  | _, .non => some false
  | .loc _, .bl _ => some false
  | .tup _, .bl _ => some false
  | .int _, .bl _ => some false
  | .str _, .bl _ => some false
  | _, _ => none
def kEq : LV → LV → Bool
  | .int i, .int j => i == j
  | .str x, .str y => x == y
  | _, _ => false
def dLook (k : LV) : List (LV × LV) → Option LV
  | [] => none
  | (a, v) :: r => if kEq a k then some v else dLook k r
def dHas (k : LV) (kvs : List (LV × LV)) : Bool := kvs.any fun p => kEq p.1 k
def dRep (k v : LV) : List (LV × LV) → List (LV × LV)
  | [] => []
  | (a, w) :: r => (a, if kEq a k then v else w) :: dRep k v r
def dPut (k v : LV) (kvs : List (LV × LV)) : List (LV × LV) := if dHas k kvs then dRep k v kvs else kvs ++ [(k, v)]
def isKey : LV → Bool
  | .int _ => true
  | .str _ => true
  | _ => false
def seqD (g : GH) (a : LV) (xs : List LV) : Option (List PD × PD) := match mapO (rei dep g) xs with
  | some ds => (match rei dep g a with
    | some d => some (ds, d)
    | none => none)
  | none => none
def anyEq (g : GH) (a : LV) (xs : List LV) : Option Bool := match seqD g a xs with
  | some (ds, d) => some (ds.any fun z => PD.eqv z d)
  | none => none
def findD (d : PD) : Nat → List PD → Option Nat
  | _, [] => none
  | i, x :: xs => match PD.eqv x d with
    | true => some i
    | false => findD d (i + 1) xs
def inL (g : GH) (a b : LV) : Option Bool := match b with
  | .tup xs => anyEq g a xs
  | .loc n => (match g.t.get n with
    | some (.lst xs) => anyEq g a xs
    | some (.fro xs) => anyEq g a xs
    | some (.dic kvs) => if isKey a then some (dLook a kvs).isSome else none
    | _ => none)
  | _ => none
def notO : Option Bool → Option Bool
  | some b => some (!b)
  | none => none
def semCmp (op : COp) (a b : LV) (g : GH) : Option Bool := match op with
  | .eq => eqL g a b
  | .ne => notO (eqL g a b)
  | .is => isL a b
  | .isn => notO (isL a b)
  | .inn => inL g a b
  | .nin => notO (inL g a b)
  | .lt => (match a, b with | .int i, .int j => some (decide (i < j)) | _, _ => none)
  | .le => (match a, b with | .int i, .int j => some (decide (i ≤ j)) | _, _ => none)
  | .gt => (match a, b with | .int i, .int j => some (decide (j < i)) | _, _ => none)
  | .ge => (match a, b with | .int i, .int j => some (decide (j ≤ i)) | _, _ => none)
def atV (xs : List LV) : LV → Option LV
  | .int i => atI xs i
  | _ => none
def semIx (a i : LV) (g : GH) : Option LV := match a, i with
  | .tup xs, .int i => atI xs i
  | .str x, .int i => if lenOk x then (match atI x i with | some c => some (.str [c]) | none => none) else none
  | .loc n, i => (match g.t.get n with
    | some (.lst xs) => atV xs i
    | some (.fro xs) => atV xs i
    | some (.dic kvs) => if isKey i then dLook i kvs else none
    | _ => none)
  | _, _ => none
def part : LV → Option (Option Int)
  | .non => some none
  | .int v => some (some v)
  | _ => none
def sx (n d : Nat) : Option Int → Nat
  | none => d
  | some v => if v < 0 then (v + (n : Int)).toNat else min v.toNat n
def cut {α : Type} (xs : List α) (lo hi : Option Int) : List α := (xs.drop (sx xs.length 0 lo)).take (sx xs.length xs.length hi - sx xs.length 0 lo)
def semSl (a : LV) (lo hi : Option Int) (g : GH) : Res LV := match a with
  | .tup xs => .ok (.tup (cut xs lo hi)) g
  | .str xs => if lenOk xs then .ok (.str (cut xs lo hi)) g else .stuck
  | .loc n => (match listAt g n with
    | some xs => alloc (.lst (cut xs lo hi)) g
    | none => .stuck)
  | _ => .stuck
def rgL (n : Nat) : Nat → List LV
  | 0 => []
  | k + 1 => .int ((n - (k + 1) : Nat) : Int) :: rgL n k
def bools : List LV → Option (List Bool)
  | [] => some []
  | .bl b :: r => (match bools r with | some s => some (b :: s) | none => none)
  | _ => none
def isRef : LV → Bool
  | .tup _ => true
  | .loc _ => true
  | _ => false
def semBi (b : Bi) (as : List LV) (g : GH) : Res LV := match b, as with
  | .len, [a] => (match a with
    | .tup xs => .ok (.int xs.length) g
    | .str x => if lenOk x then .ok (.int x.length) g else .stuck
    | .loc n => (match g.t.get n with
      | some (.lst xs) => .ok (.int xs.length) g
      | some (.fro xs) => .ok (.int xs.length) g
      | some (.dic xs) => .ok (.int xs.length) g
      | some (.set xs) => .ok (.int xs.length) g
      | _ => .stuck)
    | _ => .stuck)
  | .tuple, [a] => (match seqOf g a with | some xs => .ok (.tup xs) g | none => .stuck)
  | .list, [a] => (match seqOf g a with | some xs => alloc (.lst xs) g | none => .stuck)
  | .int, [.int i] => .ok (.int i) g
  | .abs, [.int i] => .ok (.int (if i < 0 then -i else i)) g
  | .all, [a] => (match seqOf g a with | some xs => (match bools xs with | some bs => .ok (.bl (bs.all id)) g | none => .stuck) | none => .stuck)
  | .repr, [a] => (match rei dep g a with | some d => if isRef a && (PD.okR d && decide (PD.bulk d ≤ 1048576)) then .ok (.rep d) g else .stuck | none => .stuck)
  | _, _ => .stuck
/-- what a value is, for isinstance -/
inductive Ty where
  | non | bl | int | str | tup | lst | dic | exc (k : Nat)
def tyOf (g : GH) : LV → Option Ty
  | .non => some .non
  | .bl _ => some .bl
  | .int _ => some .int
  | .str _ => some .str
  | .rep _ => some .str
  | .tup _ => some .tup
  | .loc n => (match g.t.get n with
    | some (.lst _) => some .lst
    | some (.fro _) => some .lst
    | some (.dic _) => some .dic
    | some (.exc k) => some (.exc k)
    | _ => none)
  | _ => none
def isC : Ic → Ty → Option Bool
  | .int, .bl => some true
  | .int, .int => some true
  | .bool, .bl => some true
  | .tuple, .tup => some true
  | .str, .str => some true
  | .cls j, .exc k => if k == j then some true else none
  | _, .exc _ => none
  | _, _ => some false
def semIs (c : Ic) (a : LV) (g : GH) : Option Bool := match tyOf g a with
  | some t => isC c t
  | none => none
def rgI (lo : Int) : Nat → List LV
  | 0 => []
  | n + 1 => .int lo :: rgI (lo + 1) n
def semRg (l : Bool) (lo hi : Int) (g : GH) : Res LV := if decide (0 ≤ lo) && (decide (lo ≤ 16777216) && (decide (0 ≤ hi) && decide (hi ≤ 16777216))) then (if l then alloc (.lst (rgI lo (hi - lo).toNat)) g else .ok (.tup (rgI lo (hi - lo).toNat)) g) else .stuck
def semMt (m : Mt) (o : LV) (as : List LV) (g : GH) : Res LV := match m, o, as with
  | .append, .loc n, [a] => (match g.t.get n with
    | some (.lst xs) => if lenOk (a :: xs) then (store n (.lst (xs ++ [a])) g).bind fun _ g => .ok .non g else .stuck
    | _ => .stuck)
  | .pop, .loc n, [.int i] => (match g.t.get n with
    | some (.lst xs) => (match ixN xs.length i with
      | some j => (match xs[j]? with
        | some v => (store n (.lst (xs.eraseIdx j)) g).bind fun _ g => .ok v g
        | none => .stuck)
      | none => .stuck)
    | _ => .stuck)
  | .index, o, [a] => (match seqOf g o with
    | some xs => (match seqD g a xs with
      | some (ds, d) => (match findD d 0 ds with | some i => .ok (.int i) g | none => .stuck)
      | none => .stuck)
    | none => .stuck)
  | _, _, _ => .stuck
def setL (n : Nat) (xs : List LV) (i v : LV) (g : GH) : Res Unit := match i with
  | .int i => (match ixN xs.length i with | some j => store n (.lst (xs.set j v)) g | none => .stuck)
  | _ => .stuck
def setI (o i v : LV) (g : GH) : Res Unit := match o with
  | .loc n => (match g.t.get n with
    | some (.lst xs) => setL n xs i v g
    | some (.dic kvs) => if isKey i && lenOk (i :: kvs.map (·.1)) then store n (.dic (dPut i v kvs)) g else .stuck
    | _ => .stuck)
  | _ => .stuck
def slot (σ : SL) (i : Nat) : Option LV := match σ[i]? with
  | some (some v) => some v
  | _ => none
def cellRd (g : GH) : Option LV → Option LV
  | some (.loc n) => (match cLook n g.cs with | some (some v) => some v | _ => none)
  | _ => none
def cellsOf (σ : SL) : List Nat → Option (List Nat)
  | [] => some []
  | i :: r => match slot σ i with
    | some (.loc n) => (match cellsOf σ r with | some s => some (n :: s) | none => none)
    | _ => none
def stepI (g : GH) : Itr → Option (Option (LV × Itr))
  | .lst n i => match listAt g n with
    | some xs => (match xs[i]? with
      | some x => some (some (x, .lst n (i + 1)))
      | none => some none)
    | none => none
  | .seq [] => some none
  | .seq (x :: xs) => some (some (x, .seq xs))
  | .enm _ [] => some none
  | .enm i (x :: xs) => some (some (.tup [.int i, x], .enm (i + 1) xs))
  | .rng _ 0 => some none
  | .rng lo (n + 1) => some (some (.int lo, .rng (lo + 1) n))
def wipe (σ : SL) : List Nat → SL
  | [] => σ
  | v :: vs => (wipe σ vs).set v none

def forL (C : CallT) (tg : CallT → LV → SL → GH → Res SL) (body : CallT → SL → GH → Res (Fl × SL)) : Nat → Itr → SL → GH → Res (Fl × SL)
  | 0, _, _, _ => .stuck
  | f + 1, it, σ, g => match stepI g it with
    | none => .stuck
    | some none => .ok (.nx, σ) g
    | some (some (x, it')) => (tg C x σ g).bind fun σ g => (body C σ g).bind fun r g => match r with
      | (.nx, σ) => forL C tg body f it' σ g
      | (.ct, σ) => forL C tg body f it' σ g
      | (.bk, σ) => .ok (.nx, σ) g
      | (.rt v, σ) => .ok (.rt v, σ) g
def whlL (C : CallT) (c : CallT → SL → GH → Res Bool) (body : CallT → SL → GH → Res (Fl × SL)) : Nat → SL → GH → Res (Fl × SL)
  | 0, _, _ => .stuck
  | f + 1, σ, g => (c C σ g).bind fun b g => match b with
    | false => .ok (.nx, σ) g
    | true => (body C σ g).bind fun r g => match r with
      | (.nx, σ) => whlL C c body f σ g
      | (.ct, σ) => whlL C c body f σ g
      | (.bk, σ) => .ok (.nx, σ) g
      | (.rt v, σ) => .ok (.rt v, σ) g
def lcL (C : CallT) (tg : CallT → LV → SL → GH → Res SL) (c : CallT → SL → GH → Res Bool) (e : CallT → SL → GH → Res LV) (own : List Nat) (d : Nat) : Nat → Itr → SL → GH → Res LV
  | 0, _, _, _ => .stuck
  | f + 1, it, σ, g => match stepI g it with
    | none => .stuck
    | some none => .ok (.loc d) g
    | some (some (x, it')) => (tg C x σ g).bind fun σ' g => (c C σ' g).bind fun b g => match b with
      | false => lcL C tg c e own d f it' (wipe σ' own) g
      | true => (e C σ' g).bind fun v g => match lstAt g d with
        | some acc => if lenOk (v :: acc) then (store d (.lst (acc ++ [v])) g).bind fun _ g => lcL C tg c e own d f it' (wipe σ' own) g else .stuck
        | none => .stuck
/-- some cells out of reach; the cells again as they were -/
def hide (ids : List Nat) (g : GH) : GH := ⟨g.size, g.t, g.cn, g.cs.filter fun p => !ids.contains p.1⟩
def back (cs : List (Nat × Option LV)) (r : Res LV) : Res LV := match r with
  | .ok v g => .ok v ⟨g.size, g.t, g.cn, cs⟩
  | _ => .stuck
def pairUp : List LV → Option (List (LV × LV))
  | [] => some []
  | k :: v :: r => if isKey k then (match pairUp r with | some s => some ((k, v) :: s) | none => none) else none
  | _ => none
def mkD : List (LV × LV) → List (LV × LV) → List (LV × LV)
  | [], acc => acc
  | (k, v) :: r, acc => mkD r (dPut k v acc)
def recv (m : Mt) (g : GH) : LV → Bool
  | .tup _ => (match m with | .index => true | _ => false)
  | .loc n => (listAt g n).isSome
  | _ => false
def smallI (j : Int) : Bool := decide (-4611686018427387904 ≤ j) && decide (j < 4611686018427387904)
def rngI1 (v : LV) (g : GH) : Res Itr := match v with
  | .int j => if smallI j then .ok (.rng 0 j.toNat) g else .stuck
  | _ => .stuck
def rngI2 (v w : LV) (g : GH) : Res Itr := match v, w with
  | .int i, .int j => if smallI i && smallI j then .ok (.rng i (j - i).toNat) g else .stuck
  | _, _ => .stuck
def valI (v : LV) (g : GH) : Res Itr := match v with
  | .tup xs => .ok (.seq xs) g
  | .str x => .ok (.seq (x.map fun c => .str [c])) g
  | .loc n => (match listAt g n with | some _ => .ok (.lst n 0) g | none => .stuck)
  | _ => .stuck
/-- a code: parameters, captured names, all slots, which slots are cells of its own, its body -/
structure Code where
  np : Nat
  nc : Nat
  ns : Nat
  cells : List Nat
  body : T
/-- cells for the slots named -/
def mkCells : List Nat → SL → GH → SL × GH
  | [], σ, g => (σ, g)
  | i :: r, σ, g => mkCells r (σ.set i (some (.loc g.cn))) ⟨g.size, g.t, g.cn + 1, (g.cn, slot σ i) :: g.cs⟩
mutual
def pureV : LV → Bool
  | .loc _ => false
  | .tup xs => pureVs xs
  | _ => true
def pureVs : List LV → Bool
  | [] => true
  | x :: xs => pureV x && pureVs xs
end
def gE : GH := ⟨0, .nil, 0, []⟩
def callP (C : CallT) (k : Nat) (vs : List LV) (g : GH) : Res LV := if pureVs vs then (match C k [] vs gE with
  | .ok v _ => if pureV v then .ok v g else .stuck
  | .exn n _ => .exn n g
  | .stuck => .stuck) else .stuck
/-- a function of the module in a heap of its own -/
def CP (C : CallT) : CallT := fun k ns vs g => match ns with
  | [] => callP C k vs g
  | _ => C k ns vs g
/-- .. or not -/
def pC (p : Bool) (C : CallT) : CallT := match p with
  | true => CP C
  | false => C
end MP
namespace MP
open PySem L2
open PyProof.Rows hiding St

/-! trie -/
theorem Tr.get_set : ∀ (f : Nat) (t : Tr) (n : Nat) (a : GO) (t' : Tr), Tr.set f t n a = some t' → ∀ k, t'.get k = if k = n then some a else t.get k := by
  intro f
  induction f with
  | zero => intro t n a t' h; simp [Tr.set] at h
  | succ f ih =>
    intro t n a t' h k
    cases t with
    | nil =>
      simp only [Tr.set] at h
      by_cases h0 : n = 0
      · rw [if_pos h0] at h
        cases h
        subst h0
        by_cases hk : k = 0
        · subst hk; simp [Tr.get]
        · simp [Tr.get, hk]
      · rw [if_neg h0] at h
        by_cases h1 : n % 2 = 1
        · rw [if_pos h1] at h
          cases e : Tr.set f .nil (n / 2) a with
          | none => rw [e] at h; cases h
          | some l =>
            rw [e] at h; cases h
            have := ih .nil (n / 2) a l e
            simp only [Tr.get]
            by_cases hk : k = 0
            · subst hk; rw [if_pos rfl, if_neg (Ne.symm h0)]
            · rw [if_neg hk]
              by_cases hk1 : k % 2 = 1
              · rw [if_pos hk1, this]
                by_cases hkn : k = n
                · subst hkn; simp
                · rw [if_neg hkn, if_neg (by omega)]; rfl
              · rw [if_neg hk1, if_neg (by rintro rfl; exact hk1 h1)]
        · rw [if_neg h1] at h
          cases e : Tr.set f .nil (n / 2 - 1) a with
          | none => rw [e] at h; cases h
          | some l =>
            rw [e] at h; cases h
            have := ih .nil (n / 2 - 1) a l e
            simp only [Tr.get]
            by_cases hk : k = 0
            · subst hk; rw [if_pos rfl, if_neg (Ne.symm h0)]
            · rw [if_neg hk]
              by_cases hk1 : k % 2 = 1
              · rw [if_pos hk1, if_neg (by rintro rfl; exact h1 hk1)]
              · rw [if_neg hk1, this]
                by_cases hkn : k = n
                · subst hkn; simp
                · rw [if_neg hkn, if_neg (by omega)]; rfl
    | nd o l r =>
      simp only [Tr.set] at h
      by_cases h0 : n = 0
      · rw [if_pos h0] at h
        cases h
        subst h0
        by_cases hk : k = 0
        · subst hk; simp [Tr.get]
        · simp [Tr.get, hk]
      · rw [if_neg h0] at h
        by_cases h1 : n % 2 = 1
        · rw [if_pos h1] at h
          cases e : Tr.set f l (n / 2) a with
          | none => rw [e] at h; cases h
          | some l' =>
            rw [e] at h; cases h
            have := ih l (n / 2) a l' e
            simp only [Tr.get]
            by_cases hk : k = 0
            · subst hk; rw [if_pos rfl, if_neg (Ne.symm h0), if_pos rfl]
            · rw [if_neg hk, if_neg hk]
              by_cases hk1 : k % 2 = 1
              · rw [if_pos hk1, if_pos hk1, this]
                by_cases hkn : k = n
                · subst hkn; simp
                · rw [if_neg hkn, if_neg (by omega)]
              · rw [if_neg hk1, if_neg hk1, if_neg (by rintro rfl; exact hk1 h1)]
        · rw [if_neg h1] at h
          cases e : Tr.set f r (n / 2 - 1) a with
          | none => rw [e] at h; cases h
          | some r' =>
            rw [e] at h; cases h
            have := ih r (n / 2 - 1) a r' e
            simp only [Tr.get]
            by_cases hk : k = 0
            · subst hk; rw [if_pos rfl, if_neg (Ne.symm h0), if_pos rfl]
            · rw [if_neg hk, if_neg hk]
              by_cases hk1 : k % 2 = 1
              · rw [if_pos hk1, if_pos hk1, if_neg (by rintro rfl; exact h1 hk1)]
              · rw [if_neg hk1, if_neg hk1, this]
                by_cases hkn : k = n
                · subst hkn; simp
                · rw [if_neg hkn, if_neg (by omega)]

/-! static data -/
structure CodeA where
  qual : Str
  params : Arguments
  body : FuncBody
  scope : Scope
  N : List Str
  ps : List Str
  fr : List Str
structure Stat where
  K : PySem.W.Frag
  cs : Nat → CodeA
  ga : Nat → Addr
  xa : Nat → Addr
  gf : Nat → Bool
  cc : Nat → Option Addr
  nm : Nat → Nat → Nat → Str
  T : List NdefX.NTab
  F : Hp
def Stat.wF (S : Stat) (F : Hp) : Stat := ⟨S.K, S.cs, S.ga, S.xa, S.gf, S.cc, S.nm, S.T, F⟩

mutual
def toPy : PD → PyData
  | .non => .none
  | .bl b => .bool b
  | .int i => .int i
  | .str x => .str ⟨x.toArray⟩
  | .tup xs => .tuple (toPys xs)
  | .lst xs => .list (toPys xs)
def toPys : List PD → List PyData
  | [] => []
  | x :: xs => toPy x :: toPys xs
end

section
variable (S : Stat) (m : Nat → Option Addr) (H : Hp)
mutual
def RV : LV → V → Prop
  | .non, v => v = .non
  | .bl b, v => v = .bl b
  | .int i, v => v = .int i
  | .str x, v => v = .str ⟨x.toArray⟩
  | .tup xs, v => ∃ a vs o, v = .ref a ∧ (H a = some (.frz o (.tup vs)) ∧ o.dict = none) ∧ RVs xs vs
  | .loc n, v => ∃ a, v = .ref a ∧ m n = some a
  | .glo k, v => v = .ref (S.ga k) ∧ S.gf k = true
  | .rep d, v => v = .str (toPy d).shown
def RVs : List LV → List V → Prop
  | [], vs => vs = []
  | x :: xs, vs => ∃ v r, vs = v :: r ∧ RV x v ∧ RVs xs r
end
end

/-- what never changes at its address -/
def Fix : HO → Prop
  | .tup _ => True
  | .ext _ => True
  | .frz _ _ => True
  | _ => False
def Keep (H H' : Hp) : Prop := ∀ a o, H a = some o → Fix o → H' a = some o
def KeepT (H H' : Hp) : Prop := ∀ a o vs, H a = some (.frz o (.tup vs)) → H' a = some (.frz o (.tup vs))
theorem Keep.t {H H' : Hp} (k : Keep H H') : KeepT H H' := fun a o vs e => k a _ e trivial
theorem Keep.refl (H : Hp) : Keep H H := fun _ _ e _ => e
theorem Keep.trans {H H1 H2 : Hp} (a : Keep H H1) (b : Keep H1 H2) : Keep H H2 := fun c o e f => b c o (a c o e f) f
abbrev Mp := Nat → Option Addr
def Ext (m m' : Mp) : Prop := ∀ n a, m n = some a → m' n = some a
theorem Ext.refl (m : Mp) : Ext m m := fun _ _ e => e
theorem Ext.trans {m m1 m2 : Mp} (a : Ext m m1) (b : Ext m1 m2) : Ext m m2 := fun n c e => b n c (a n c e)

section
variable {S : Stat} {m m' : Mp} {H H' : Hp}
mutual
theorem RV.mono (em : Ext m m') (k : KeepT H H') : ∀ {v : LV} {x : V}, RV S m H v x → RV S m' H' v x
  | .non, _, h => h
  | .bl _, _, h => h
  | .int _, _, h => h
  | .str _, _, h => h
  | .tup xs, _, h => by
    obtain ⟨a, vs, o, e, ⟨ha, hd⟩, r⟩ := h
    exact ⟨a, vs, o, e, ⟨k _ _ _ ha, hd⟩, RVs.mono em k r⟩
  | .loc n, _, h => by
    obtain ⟨a, e, h⟩ := h
    exact ⟨a, e, em _ _ h⟩
  | .glo _, _, h => h
  | .rep _, _, h => h
theorem RVs.mono (em : Ext m m') (k : KeepT H H') : ∀ {v : List LV} {x : List V}, RVs S m H v x → RVs S m' H' v x
  | [], _, h => h
  | _ :: _, _, h => by
    obtain ⟨v, r, e, h1, h2⟩ := h
    exact ⟨v, r, e, RV.mono em k h1, RVs.mono em k h2⟩
end
theorem RVs.length : ∀ {xs : List LV} {vs : List V}, RVs S m H xs vs → xs.length = vs.length
  | [], _, h => by cases h; rfl
  | _ :: _, _, h => by
    obtain ⟨v, r, e, h1, h2⟩ := h
    subst e
    simp [RVs.length h2]
theorem RVs.get : ∀ {xs : List LV} {vs : List V} {i : Nat} {x : LV}, RVs S m H xs vs → xs[i]? = some x → ∃ v, vs[i]? = some v ∧ RV S m H x v
  | [], _, _, _, _, e => by simp at e
  | y :: ys, _, 0, x, h, e => by
    obtain ⟨v, r, e1, h1, h2⟩ := h
    subst e1
    simp at e
    subst e
    exact ⟨v, rfl, h1⟩
  | y :: ys, _, i + 1, x, h, e => by
    obtain ⟨v, r, e1, h1, h2⟩ := h
    subst e1
    simpa using RVs.get h2 (by simpa using e)
theorem RVs.append : ∀ {xs ys : List LV} {vs us : List V}, RVs S m H xs vs → RVs S m H ys us → RVs S m H (xs ++ ys) (vs ++ us)
  | [], _, _, _, h, h' => by cases h; exact h'
  | _ :: _, _, _, _, h, h' => by
    obtain ⟨v, r, e1, h1, h2⟩ := h
    subst e1
    exact ⟨v, _, rfl, h1, RVs.append h2 h'⟩
theorem RVs.cons {x : LV} {xs : List LV} {v : V} {vs : List V} (h : RV S m H x v) (h' : RVs S m H xs vs) : RVs S m H (x :: xs) (v :: vs) := ⟨v, vs, rfl, h, h'⟩
theorem RVs.nil : RVs S m H [] [] := rfl
theorem RVs.drop : ∀ (n : Nat) {xs : List LV} {vs : List V}, RVs S m H xs vs → RVs S m H (xs.drop n) (vs.drop n)
  | 0, _, _, h => h
  | _ + 1, [], _, h => by cases h; rfl
  | n + 1, _ :: _, _, h => by
    obtain ⟨v, r, e1, h1, h2⟩ := h
    subst e1
    exact RVs.drop n h2
theorem RVs.take : ∀ (n : Nat) {xs : List LV} {vs : List V}, RVs S m H xs vs → RVs S m H (xs.take n) (vs.take n)
  | 0, _, _, h => rfl
  | _ + 1, [], _, h => by cases h; rfl
  | n + 1, _ :: _, _, h => by
    obtain ⟨v, r, e1, h1, h2⟩ := h
    subst e1
    exact ⟨v, _, rfl, h1, RVs.take n h2⟩
theorem RVs.set {x : LV} {v : V} (hx : RV S m H x v) : ∀ (n : Nat) {xs : List LV} {vs : List V}, RVs S m H xs vs → RVs S m H (xs.set n x) (vs.set n v)
  | _, [], _, h => by cases h; rfl
  | 0, _ :: _, _, h => by
    obtain ⟨w, r, e1, h1, h2⟩ := h
    subst e1
    exact ⟨v, _, rfl, hx, h2⟩
  | n + 1, _ :: _, _, h => by
    obtain ⟨w, r, e1, h1, h2⟩ := h
    subst e1
    exact ⟨w, _, rfl, h1, RVs.set hx n h2⟩
theorem RVs.eraseIdx : ∀ (n : Nat) {xs : List LV} {vs : List V}, RVs S m H xs vs → RVs S m H (xs.eraseIdx n) (vs.eraseIdx n)
  | _, [], _, h => by cases h; rfl
  | 0, _ :: _, _, h => by
    obtain ⟨w, r, e1, h1, h2⟩ := h
    subst e1
    exact h2
  | n + 1, _ :: _, _, h => by
    obtain ⟨w, r, e1, h1, h2⟩ := h
    subst e1
    exact ⟨w, _, rfl, h1, RVs.eraseIdx n h2⟩
theorem RVs.rep {xs : List LV} {vs : List V} (h : RVs S m H xs vs) : ∀ n, RVs S m H (rept xs n) (rept vs n)
  | 0 => rfl
  | n + 1 => RVs.append h (RVs.rep h n)
end

/-- exactly this object -/
def objHO (a : Addr) (o : Obj) : HO := .ext fun h => h.get? a = some o
theorem objHO_ok {P : Program} {w : World} {H : Hp} {h : Heap} {a : Addr} {o : Obj} (e : h.get? a = some o) : ObjOk P w H h a (objHO a o) :=
  ⟨e, ⟨o, e⟩, fun _ _ p st => st o p⟩
theorem objHO_at {P : Program} {w : World} {H : Hp} {h : Heap} {a : Addr} {o : Obj} (x : HOk P w H h) (e : H a = some (objHO a o)) : h.get? a = some o := (x a _ e).1
/-- an exception of a class -/
def excHO (a : Addr) (c : Value) : HO := .ext fun h => ∃ oe vs, h.get? a = some oe ∧ Zc c none oe ∧ oe.data = .fields vs

/-- a function's data: the code k, its cells, its code object -/
structure IsCode (S : Stat) (k : Nat) (cl : List (Str × Addr)) (c : Addr) (fd : FuncData) : Prop where
  qual : fd.qualname = (S.cs k).qual
  params : fd.params = (S.cs k).params
  body : fd.body = (S.cs k).body
  scope : fd.scope = (S.cs k).scope
  glob : fd.globals = mainGlobals
  clo : fd.closure = cl
  dfl : fd.defaults = .none
  code : fd.code = .ref c
  blt : fd.builtins = builtinsNs
  cc : ∀ c0, S.cc k = some c0 → c = c0
/-- the captured cells -/
structure Caps (mc : Nat → Option Addr) (cl : List (Str × Addr)) (fr : List Str) (ns : List Nat) : Prop where
  len : ns.length = fr.length
  to : ∀ (i : Nat) (y : Str) (n : Nat), fr[i]? = some y → ns[i]? = some n → ∃ c, cl.lookup y = some c ∧ mc n = some c
  only : ∀ y c, cl.lookup y = some c → y ∈ fr
  inj : ∀ x y c, cl.lookup x = some c → cl.lookup y = some c → x = y
  uni : ∀ y b, (y, b) ∈ cl → cl.lookup y = some b
theorem Caps.mono {m m' : Mp} {cl : List (Str × Addr)} {fr : List Str} {ns : List Nat} (em : Ext m m') (c : Caps m cl fr ns) : Caps m' cl fr ns :=
  ⟨c.len, fun i y n h1 h2 => let ⟨d, a, b⟩ := c.to i y n h1 h2; ⟨d, a, em _ _ b⟩, c.only, c.inj, c.uni⟩

def keyR : LV → Key → Prop
  | .int i, k => k = .inl i
  | .str x, k => k = .inr ⟨x.toArray⟩
  | _, _ => False
section
variable (S : Stat) (m mc : Mp) (H : Hp)
def RKs : List (LV × LV) → List (Key × V) → Prop
  | [], ks => ks = []
  | (k, v) :: r, ks => ∃ k' v' r', ks = (k', v') :: r' ∧ keyR k k' ∧ RV S m H v v' ∧ RKs r r'
def RO (a : Addr) : GO → Prop
  | .lst xs => ∃ vs, H a = some (.lst vs) ∧ RVs S m H xs vs
  | .fro xs => ∃ vs, Rd H a (.lst vs) ∧ RVs S m H xs vs
  | .dic kvs => ∃ ks, H a = some (.dK ks) ∧ RKs S m H kvs ks
  | .set _ => False
  | .clo k ns => ∃ od sl fd cl c, H a = some (objHO a ⟨.type "function", od, .func fd, sl⟩) ∧ IsCode S k cl c fd ∧ H c = some (LamX.CodeO c (S.cs k).qual) ∧ Caps mc cl (S.cs k).fr ns
  | .exc k => H a = some (excHO a (.ref (S.xa k)))
/-- a cell that is not the frame's own -/
def Far (a : Addr) (ov : Option LV) : Prop := ∃ o cv, H a = some (objHO a o) ∧ o.data = .cell cv ∧ ∀ v, ov = some v → ∃ u x, cv = some u ∧ RelV x u ∧ RV S m H v x
end
theorem RKs.mono {S : Stat} {m m' : Mp} {H H' : Hp} (em : Ext m m') (k : KeepT H H') : ∀ {v : List (LV × LV)} {x : List (Key × V)}, RKs S m H v x → RKs S m' H' v x
  | [], _, h => h
  | (a, b) :: r, _, h => by
    obtain ⟨k', v', r', e, h1, h2, h3⟩ := h
    exact ⟨k', v', r', e, h1, RV.mono em k h2, RKs.mono em k h3⟩
theorem Far.mono {S : Stat} {m m' : Mp} {H H' : Hp} {a : Addr} {ov : Option LV} (em : Ext m m') (k : Keep H H') (h : Far S m H a ov) : Far S m' H' a ov := by
  obtain ⟨o, cv, e, d, r⟩ := h
  refine ⟨o, cv, k _ _ e trivial, d, fun v hv => ?_⟩
  obtain ⟨u, x, q1, q2, q3⟩ := r v hv
  exact ⟨u, x, q1, q2, RV.mono em k.t q3⟩

/-- a list, a dict -/
def LD : HO → Prop
  | .lst _ => True
  | .dK _ => True
  | _ => False
/-- the objects -/
structure RelO (S : Stat) (m mc : Mp) (G : GH) (H : Hp) : Prop where
  obj : ∀ n o, G.t.get n = some o → ∃ a, m n = some a ∧ RO S m mc H a o
  inj : ∀ n n' a, m n = some a → m n' = some a → n = n'
  dom : ∀ n a, m n = some a → ∃ o, G.t.get n = some o
  siz : ∀ n, G.size ≤ n → G.t.get n = none
  tab : NdefX.TabsN S.T H
  cdom : ∀ n a, mc n = some a → n < G.cn
  frz : ∀ a o, S.F a = some o → H a = some o ∧ LD o
  frm : ∀ n a, m n = some a → S.F a = none
/-- the cells: those of vis are the frame's -/
structure RelC (S : Stat) (vis : Addr → Prop) (m mc : Mp) (G : GH) (H : Hp) : Prop where
  cell : ∀ n ov, cLook n G.cs = some ov → ∃ a, mc n = some a ∧ True ∧ (¬ vis a → Far S m H a ov)
  cinj : ∀ n n' ov ov' a, cLook n G.cs = some ov → cLook n' G.cs = some ov' → mc n = some a → mc n' = some a → n = n'
structure Rel (S : Stat) (vis : Addr → Prop) (m mc : Mp) (G : GH) (H : Hp) : Prop where
  o : RelO S m mc G H
  c : RelC S vis m mc G H
theorem RelO.free {S : Stat} {m mc : Mp} {G : GH} {H : Hp} (R : RelO S m mc G H) : m G.size = none := by
  cases e : m G.size with
  | none => rfl
  | some a =>
    obtain ⟨o, h⟩ := R.dom _ _ e
    rw [R.siz _ (Nat.le_refl _)] at h
    cases h
theorem RelO.cfree {S : Stat} {m mc : Mp} {G : GH} {H : Hp} (R : RelO S m mc G H) : mc G.cn = none := by
  cases e : mc G.cn with
  | none => rfl
  | some a => exact absurd (R.cdom _ _ e) (Nat.lt_irrefl _)
end MP
namespace MP
open PySem L2
open PyProof.Rows hiding St

/-! ### one object changes -/
def Soft : Option HO → Prop
  | none => True
  | some (.lst _) => True
  | some (.dK _) => True
  | _ => False
section
variable {S : Stat} {vis : Addr → Prop} {m m' mc mc' : Mp} {G G' : GH} {H H' : Hp} {b : Addr}
theorem keep_off (off : ∀ a, a ≠ b → H' a = H a) (sf : Soft (H b)) : Keep H H' := fun a o e f => by
  by_cases h : a = b
  · subst h
    rw [e] at sf
    cases o <;> first | exact f.elim | exact sf.elim
  · rw [off a h]; exact e
theorem ne_soft {a : Addr} {o : HO} (sf : Soft (H b)) (e : H a = some o) (h : ¬ Soft (some o)) : a ≠ b := fun z => by
  rw [← z, e] at sf
  exact h sf
theorem RO.off (off : ∀ a, a ≠ b → H' a = H a) (sf : Soft (H b)) (em : Ext m m') (ec : Ext mc mc') {a : Addr} (hb : a ≠ b) : ∀ {o : GO}, RO S m mc H a o → RO S m' mc' H' a o
  | .lst _, h => by
    obtain ⟨vs, e, r⟩ := h
    exact ⟨vs, (off a hb).trans e, RVs.mono em (keep_off off sf).t r⟩
  | .fro _, h => by
    obtain ⟨vs, e, r⟩ := h
    refine ⟨vs, ?_, RVs.mono em (keep_off off sf).t r⟩
    unfold Rd at e ⊢
    rw [off a hb]
    exact e
  | .dic _, h => by
    obtain ⟨vs, e, r⟩ := h
    exact ⟨vs, (off a hb).trans e, RKs.mono em (keep_off off sf).t r⟩
  | .set _, h => h
  | .clo _ _, h => by
    obtain ⟨od, sl, fd, cl, c, e, i, ec', cp⟩ := h
    exact ⟨od, sl, fd, cl, c, (off a hb).trans e, i, (keep_off off sf) _ _ ec' trivial, cp.mono ec⟩
  | .exc _, h => (off a hb).trans h
theorem tabs_off (off : ∀ a, a ≠ b → H' a = H a) (sf : Soft (H b)) {T : List NdefX.NTab} (t : NdefX.TabsN T H) : NdefX.TabsN T H' := fun p hp => by
  obtain ⟨ps, e1, e2, e3⟩ := t p hp
  refine ⟨ps, (off _ (ne_soft sf e1 fun z => z)).trans e1, e2, fun pos cv hc => ?_⟩
  obtain ⟨c, z1, z2⟩ := e3 pos cv hc
  exact ⟨c, z1, (keep_off off sf) _ _ z2 trivial⟩
theorem RelO.put (R : RelO S m mc G H) {n : Nat} {o : GO} (em : Ext m m') (hm : m' n = some b) (ho : ∀ k a, m' k = some a → k ≠ n → m k = some a) (nb : ∀ k a, m k = some a → k ≠ n → a ≠ b)
    (off : ∀ a, a ≠ b → H' a = H a) (sf : Soft (H b)) (hg : ∀ k, G'.t.get k = if k = n then some o else G.t.get k) (hs : ∀ k, G'.size ≤ k → k ≠ n ∧ G.size ≤ k) (ro : RO S m' mc H' b o) (hcn : G'.cn = G.cn) (nf : S.F b = none) : RelO S m' mc G' H' where
  obj := fun k u e => by
    rw [hg] at e
    by_cases hk : k = n
    · rw [if_pos hk] at e
      cases e
      exact ⟨b, by rw [hk]; exact hm, ro⟩
    · rw [if_neg hk] at e
      obtain ⟨a, h1, h2⟩ := R.obj k u e
      exact ⟨a, em _ _ h1, RO.off off sf em (Ext.refl mc) (nb k a h1 hk) h2⟩
  inj := fun k k' a h1 h2 => by
    by_cases hk : k = n
    · by_cases hk' : k' = n
      · rw [hk, hk']
      · have := nb k' a (ho k' a h2 hk') hk'
        rw [hk, hm] at h1
        cases h1
        exact absurd rfl this
    · by_cases hk' : k' = n
      · have := nb k a (ho k a h1 hk) hk
        rw [hk', hm] at h2
        cases h2
        exact absurd rfl this
      · exact R.inj k k' a (ho k a h1 hk) (ho k' a h2 hk')
  dom := fun k a e => by
    rw [hg]
    by_cases hk : k = n
    · exact ⟨o, if_pos hk⟩
    · rw [if_neg hk]
      exact R.dom k a (ho k a e hk)
  siz := fun k e => by
    obtain ⟨h1, h2⟩ := hs k e
    rw [hg, if_neg h1]
    exact R.siz k h2
  tab := tabs_off off sf R.tab
  cdom := fun n a e => by rw [hcn]; exact R.cdom n a e
  frz := fun a u e => by
    obtain ⟨h1, h2⟩ := R.frz a u e
    rw [off a (fun z => by rw [z, nf] at e; cases e)]
    exact ⟨h1, h2⟩
  frm := fun k a e => by
    by_cases hk : k = n
    · rw [hk, hm] at e
      cases e
      exact nf
    · exact R.frm k a (ho k a e hk)
theorem RelC.off (R : RelC S vis m mc G H) (em : Ext m m') (off : ∀ a, a ≠ b → H' a = H a) (sf : Soft (H b)) (hcs : G'.cs = G.cs) : RelC S vis m' mc G' H' where
  cell := fun n ov e => by
    rw [hcs] at e
    obtain ⟨a, h1, h2, h3⟩ := R.cell n ov e
    exact ⟨a, h1, trivial, fun v => (h3 v).mono em (keep_off off sf)⟩
  cinj := fun n n' ov ov' a e1 e2 => by
    rw [hcs] at e1 e2
    exact R.cinj n n' ov ov' a e1 e2
theorem RO.ne (hn : H b = none) {a : Addr} : ∀ {o : GO}, RO S m mc H a o → a ≠ b
  | .lst _, h => by obtain ⟨vs, e, _⟩ := h; exact ne_of_none e hn
  | .fro _, h => by
    obtain ⟨vs, e, _⟩ := h
    rcases e with e | ⟨o, e⟩
    · exact ne_of_none e hn
    · exact ne_of_none e hn
  | .dic _, h => by obtain ⟨vs, e, _⟩ := h; exact ne_of_none e hn
  | .set _, h => h.elim
  | .clo _ _, h => by obtain ⟨od, sl, fd, cl, c, e, _⟩ := h; exact ne_of_none e hn
  | .exc _, h => ne_of_none h hn
theorem alloc_ok {o : GO} {v : LV} (h : alloc o G = .ok v G') : v = .loc G.size ∧ G'.size = G.size + 1 ∧ (∀ k, G'.t.get k = if k = G.size then some o else G.t.get k) ∧ G'.cn = G.cn ∧ G'.cs = G.cs := by
  unfold alloc at h
  cases e : Tr.set 40 G.t G.size o with
  | none => rw [e] at h; cases h
  | some t =>
    rw [e] at h
    cases h
    exact ⟨rfl, rfl, Tr.get_set _ _ _ _ _ e, rfl, rfl⟩
theorem alloc_exn {o : GO} {k : Nat} (h : alloc o G = .exn k G') : False := by
  unfold alloc at h
  cases e : Tr.set 40 G.t G.size o <;> rw [e] at h <;> cases h
theorem store_ok' {o : GO} {n : Nat} {v : Unit} (h : store n o G = .ok v G') : G'.size = G.size ∧ (∀ k, G'.t.get k = if k = n then some o else G.t.get k) ∧ G'.cn = G.cn ∧ G'.cs = G.cs := by
  unfold store at h
  cases e : Tr.set 40 G.t n o with
  | none => rw [e] at h; cases h
  | some t =>
    rw [e] at h
    cases h
    exact ⟨rfl, Tr.get_set _ _ _ _ _ e, rfl, rfl⟩
theorem store_exn {o : GO} {n : Nat} {k : Nat} (h : store n o G = .exn k G') : False := by
  unfold store at h
  cases e : Tr.set 40 G.t n o <;> rw [e] at h <;> cases h
def Mp.ins (m : Mp) (n : Nat) (b : Addr) : Mp := fun k => if k = n then some b else m k
theorem Mp.ins_ext {n : Nat} (h : m n = none) : Ext m (m.ins n b) := fun k a e => by
  unfold Mp.ins
  rw [if_neg (by rintro rfl; rw [h] at e; cases e)]
  exact e
theorem Mp.ins_same {n : Nat} : m.ins n b n = some b := if_pos rfl
theorem Mp.ins_ne {n k : Nat} (h : k ≠ n) : m.ins n b k = m k := if_neg h
/-- a new object -/
theorem Rel.new (R : Rel S vis m mc G H) {o : GO} {v : LV} (ha : alloc o G = .ok v G') (hn : H b = none) (off : ∀ a, a ≠ b → H' a = H a) (ro : RO S (m.ins G.size b) mc H' b o) :
    Rel S vis (m.ins G.size b) mc G' H' ∧ Ext m (m.ins G.size b) ∧ Keep H H' ∧ RV S (m.ins G.size b) H' v (.ref b) := by
  obtain ⟨rfl, h1, h2, h3, h4⟩ := alloc_ok ha
  have em : Ext m (m.ins G.size b) := Mp.ins_ext R.o.free
  have sf : Soft (H b) := by rw [hn]; trivial
  have nf : S.F b = none := by
    cases q : S.F b with
    | none => rfl
    | some u => have := (R.o.frz b u q).1; rw [hn] at this; cases this
  refine ⟨⟨R.o.put em Mp.ins_same (fun k a e hk => ?_) (fun k a e hk' => ?_) off sf h2 (fun k hk => ?_) ro h3 nf, R.c.off em off sf h4⟩, em, keep_off off sf, b, rfl, Mp.ins_same⟩
  · rw [Mp.ins_ne hk] at e
    exact e
  · obtain ⟨u, hu⟩ := R.o.dom k a e
    obtain ⟨a', e', r⟩ := R.o.obj k u hu
    rw [e] at e'
    cases e'
    exact RO.ne hn r
  · rw [h1] at hk
    exact ⟨by omega, by omega⟩
/-- an object written -/
theorem Rel.wr (R : Rel S vis m mc G H) {o : GO} {n : Nat} {u : Unit} (hs : store n o G = .ok u G') (hm : m n = some b) (sf : Soft (H b)) (off : ∀ a, a ≠ b → H' a = H a) (ro : RO S m mc H' b o) : Rel S vis m mc G' H' ∧ Keep H H' := by
  obtain ⟨h1, h2, h3, h4⟩ := store_ok' hs
  obtain ⟨u, hu⟩ := R.o.dom n b hm
  refine ⟨⟨R.o.put (Ext.refl m) hm (fun k a e _ => e) (fun k a e hk z => ?_) off sf h2 (fun k hk => ?_) ro h3 (R.o.frm n b hm), R.c.off (Ext.refl m) off sf h4⟩, keep_off off sf⟩
  · subst z
    exact hk (R.o.inj _ _ _ e hm)
  · rw [h1] at hk
    refine ⟨?_, hk⟩
    rintro rfl
    rw [R.o.siz _ hk] at hu
    cases hu
end

/-! ### contexts -/
def vis (X : Cx) (b : Addr) : Prop := ∃ x, X.env.cells.lookup x = some b
def capt (cl : List (Str × Addr)) (b : Addr) : Prop := ∃ y, cl.lookup y = some b
structure CtxOk (S : Stat) (X : Cx) : Prop where
  k : X.K = S.K
  nb : ∀ b, vis X b → X.base.get? b = none
  nf : ∀ b, vis X b → b ∉ frs X.stack
  nd : X.N.Nodup
  cn : ∀ x c, X.env.cells.lookup x = some c → ∃ i : Nat, X.N[i]? = some x ∧ (X.env.scope.names.lookup x = some .cell ∨ X.env.scope.names.lookup x = some .free)

/-- the slots -/
def SR (S : Stat) (X : Cx) (m mc : Mp) (G : GH) (H : Hp) (i : Nat) (x : Str) (σL : SL) (σ : St) : Prop :=
  match X.env.scope.names.lookup x with
  | some .local => ∀ v, σL[i]? = some (some v) → ∃ u, σ[i]? = some (some u) ∧ RV S m H v u
  | some .cell => ∃ n, σL[i]? = some (some (.loc n)) ∧ (∃ c, mc n = some c ∧ X.env.cells.lookup x = some c) ∧ ∃ ov, cLook n G.cs = some ov ∧ ∀ v, ov = some v → ∃ u, σ[i]? = some (some u) ∧ RV S m H v u
  | some .free => ∃ n, σL[i]? = some (some (.loc n)) ∧ (∃ c, mc n = some c ∧ X.env.cells.lookup x = some c) ∧ ∃ ov, cLook n G.cs = some ov ∧ ∀ v, ov = some v → ∃ u, σ[i]? = some (some u) ∧ RV S m H v u
  | _ => True
def StR (S : Stat) (X : Cx) (m mc : Mp) (G : GH) (H : Hp) (σL : SL) (σ : St) : Prop := σL.length = X.N.length ∧ ∀ (i : Nat) (x : Str), X.N[i]? = some x → SR S X m mc G H i x σL σ
theorem StR.mono {S : Stat} {X : Cx} {m m' mc mc' : Mp} {G G' : GH} {H H' : Hp} {σL : SL} {σ : St} (Q : StR S X m mc G H σL σ) (em : Ext m m') (ec : Ext mc mc') (k : KeepT H H') (hcs : G'.cs = G.cs) : StR S X m' mc' G' H' σL σ := by
  refine ⟨Q.1, fun i x hi => ?_⟩
  have q := Q.2 i x hi
  unfold SR at q ⊢
  have cellCase : (∃ n, σL[i]? = some (some (.loc n)) ∧ (∃ c, mc n = some c ∧ X.env.cells.lookup x = some c) ∧ ∃ ov, cLook n G.cs = some ov ∧ ∀ v, ov = some v → ∃ u, σ[i]? = some (some u) ∧ RV S m H v u) →
      ∃ n, σL[i]? = some (some (.loc n)) ∧ (∃ c, mc' n = some c ∧ X.env.cells.lookup x = some c) ∧ ∃ ov, cLook n G'.cs = some ov ∧ ∀ v, ov = some v → ∃ u, σ[i]? = some (some u) ∧ RV S m' H' v u := fun ⟨n, h1, ⟨c, h2, h2'⟩, ov, h3, h4⟩ => by
    refine ⟨n, h1, ⟨c, ec _ _ h2, h2'⟩, ov, by rw [hcs]; exact h3, fun v hv => ?_⟩
    obtain ⟨u, e1, e2⟩ := h4 v hv
    exact ⟨u, e1, RV.mono em k e2⟩
  split at q
  · intro v hv
    obtain ⟨u, e1, e2⟩ := q v hv
    exact ⟨u, e1, RV.mono em k e2⟩
  · exact cellCase q
  · exact cellCase q
  · trivial

open Classical in
noncomputable def hup (X : Cx) (cl : List (Str × Addr)) (H : Hp) (h : Heap) : Hp := fun b => if capt cl b then none else if vis X b then (h.get? b).map (objHO b) else H b
open Classical in
noncomputable def strip (X : Cx) (cl : List (Str × Addr)) (H H' : Hp) : Hp := fun b => if vis X b then none else if capt cl b then H b else H' b
/-- what a callee captured is known -/
def CapOk (X : Cx) (cl : List (Str × Addr)) (H : Hp) : Prop := ∀ b, capt cl b → vis X b ∨ ∃ (o : Obj) (cv : Option Value), H b = some (objHO b o) ∧ o.data = .cell cv

section
variable {S : Stat} {X : Cx} {cl : List (Str × Addr)} {pins : List (Addr × Obj)} {σ : St} {H H' : Hp} {s s' : Shared}
theorem vis_none (I : Inv X pins σ H s) {b : Addr} (h : vis X b) : H b = none := let ⟨x, e⟩ := h; I.freeC x b e
theorem vis_obj (I : Inv X pins σ H s) {b : Addr} (h : vis X b) : ∃ o cv, s.heap.get? b = some o ∧ o.data = .cell cv := by
  obtain ⟨x, e⟩ := h
  obtain ⟨v, o, ho, hd⟩ := I.cell x b e
  exact ⟨o, v, ho, hd⟩
theorem hup_vis (I : Inv X pins σ H s) {b : Addr} (h : vis X b) (hc : ¬ capt cl b) : ∃ o, s.heap.get? b = some o ∧ hup X cl H s.heap b = some (objHO b o) := by
  obtain ⟨o, cv, ho, hd⟩ := vis_obj I h
  refine ⟨o, ho, ?_⟩
  unfold hup
  rw [if_neg hc, if_pos h, ho]
  rfl
theorem hup_cap {h : Heap} {b : Addr} (hc : capt cl b) : hup X cl H h b = none := if_pos hc
theorem hup_else {h : Heap} {b : Addr} (hc : ¬ capt cl b) (hv : ¬ vis X b) : hup X cl H h b = H b := (if_neg hc).trans (if_neg hv)
/-- what is tracked but no cell is the same -/
theorem hup_of (I : Inv X pins σ H s) (C : CapOk X cl H) {b : Addr} {o : HO} (e : H b = some o) (ho : ∀ (u : Obj) (cv : Option Value), u.data = .cell cv → o ≠ objHO b u) : hup X cl H s.heap b = some o := by
  have hv : ¬ vis X b := fun z => by rw [vis_none I z] at e; cases e
  have hc : ¬ capt cl b := fun z => by
    rcases C b z with z | ⟨u, cv, e', d⟩
    · exact hv z
    · rw [e] at e'
      cases e'
      exact ho u cv d rfl
  rw [hup_else hc hv]
  exact e
theorem objHO_data (I : Inv X pins σ H s) {b : Addr} {φ : Heap → Prop} (e : H b = some (.ext φ)) (h : ∀ u : Obj, s.heap.get? b = some u → ∀ cv, u.data ≠ .cell cv) : ∀ (u : Obj) (cv : Option Value), u.data = .cell cv → (HO.ext φ) ≠ objHO b u := fun u cv d z => by
  have q : s.heap.get? b = some u := objHO_at (P := X.prog) (w := X.w) I.hok (by rw [e, z])
  exact h u q cv d
theorem lift_env0 (I : Inv X pins σ H s) (O : CtxOk S X) (C : CapOk X cl H) : Env0 X.prog X.w X.K X.mg X.base X.A X.stack s (hup X cl H s.heap) := by
  have E := I.env0
  refine ⟨E.frames, E.mod, fun b o e => ⟨(E.bs b o e).1, ?_⟩, E.bsz, E.funs, fun b hb => ?_, fun b o e => ?_, E.bare⟩
  · by_cases hc : capt cl b
    · exact hup_cap hc
    · by_cases hv : vis X b
      · rw [O.nb b hv] at e; cases e
      · rw [hup_else hc hv]; exact (E.bs b o e).2
  · by_cases hc : capt cl b
    · exact hup_cap hc
    · by_cases hv : vis X b
      · exact absurd hb (O.nf b hv)
      · rw [hup_else hc hv]; exact E.frf b hb
  · by_cases hc : capt cl b
    · rw [hup_cap hc] at e; cases e
    · by_cases hv : vis X b
      · obtain ⟨u, hu, z⟩ := hup_vis I hv hc
        rw [z] at e
        cases e
        exact objHO_ok hu
      · rw [hup_else hc hv] at e
        refine (I.hok b o e).stay (fun _ _ _ q => q) (fun c q => ?_) fun c xs q => ?_
        · exact hup_of I C q fun u cv _ z => by unfold objHO at z; cases z
        · exact hup_of I C q fun u cv _ z => by unfold objHO at z; cases z
/-- behind the callee, seen from the caller -/
theorem strip_hok (I : Inv X pins σ H s) (C : CapOk X cl H) (k : Keep (hup X cl H s.heap) H') {h' : Heap} (hok : HOk X.prog X.w H' h') (hc : ∀ b o, capt cl b → ¬ vis X b → s.heap.get? b = some o → h'.get? b = some o)
    (own : ∀ c a, H' a = some (.own c) → ¬ vis X a) (tup : ∀ a xs, H' a = some (.tup xs) → ¬ vis X a) (ncap : ∀ a, capt cl a → H' a = none) : HOk X.prog X.w (strip X cl H H') h' := fun b o e => by
  unfold strip at e
  by_cases hv : vis X b
  · rw [if_pos hv] at e; cases e
  · rw [if_neg hv] at e
    by_cases hcc : capt cl b
    · rw [if_pos hcc] at e
      rcases C b hcc with z | ⟨u, cv, e', d⟩
      · exact absurd z hv
      · rw [e'] at e
        cases e
        exact objHO_ok (hc b u hcc hv (objHO_at I.hok e'))
    · rw [if_neg hcc] at e
      refine (hok b o e).stay (fun _ _ _ q => q) (fun c q => ?_) fun c xs q => ?_
      · unfold strip
        rw [if_neg (own _ _ q), if_neg fun z => by rw [ncap _ z] at q; cases q]
        exact q
      · unfold strip
        rw [if_neg (tup _ _ q), if_neg fun z => by rw [ncap _ z] at q; cases q]
        exact q
theorem vis_keep (I : Inv X pins σ H s) (k : Keep (hup X cl H s.heap) H') {b : Addr} (hv : vis X b) (hc : ¬ capt cl b) : ∃ o, s.heap.get? b = some o ∧ H' b = some (objHO b o) := by
  obtain ⟨o, ho, z⟩ := hup_vis (cl := cl) I hv hc
  exact ⟨o, ho, k b _ z trivial⟩
theorem not_vis_of (I : Inv X pins σ H s) (k : Keep (hup X cl H s.heap) H') (ncap : ∀ a, capt cl a → H' a = none) {b : Addr} {o : HO} (e : H' b = some o) (h : ∀ u, o ≠ objHO b u) : ¬ vis X b := fun hv => by
  by_cases hc : capt cl b
  · rw [ncap b hc] at e; cases e
  · obtain ⟨u, _, z⟩ := vis_keep I k hv hc
    rw [e] at z
    cases z
    exact h u rfl
theorem strip_un (I : Inv X pins σ H s) (C : CapOk X cl H) (k : Keep (hup X cl H s.heap) H') {h' : Heap} (u : Un (frs X.stack) [] (hup X cl H s.heap) H' s.heap h') (hok : HOk X.prog X.w H' h') : Un (frs X.stack) [] H (strip X cl H H') s.heap h' ∧ HOk X.prog X.w (strip X cl H H') h' := by
  have ncap : ∀ a, capt cl a → H' a = none := fun a ha => by
    have : ∃ o, s.heap.get? a = some o := by
      rcases C a ha with z | ⟨o, cv, e, d⟩
      · obtain ⟨o, _, e, _⟩ := vis_obj I z; exact ⟨o, e⟩
      · exact ⟨o, objHO_at I.hok e⟩
    obtain ⟨o, e⟩ := this
    exact u.free a o e (hup_cap ha) (by simp)
  have keepE : ∀ b o, s.heap.get? b = some o → hup X cl H s.heap b = none → b ∉ frs X.stack → h'.get? b = some o := fun b o e n hb => u.keep b o e n hb (by simp)
  have nfr : ∀ b o, H b = some o → b ∉ frs X.stack := fun b o e z => by rw [I.stkFree b z] at e; cases e
  refine ⟨⟨fun b o e n hb _ => ?_, fun b o e n hb _ => ?_, fun b o e n _ => ?_, fun b o e hx => u.there b o e hx, fun b xs e => ?_, fun b o xs e => ?_, fun b ps e => ?_⟩, strip_hok I C k hok (fun b o hc hv e => ?_) (fun c a q => ?_) (fun a xs q => ?_) ncap⟩
  · by_cases hc : capt cl b
    · exact keepE b o e (hup_cap hc) hb
    · by_cases hv : vis X b
      · obtain ⟨o', e', z⟩ := vis_keep (cl := cl) I k hv hc
        rw [e] at e'
        cases e'
        exact objHO_at hok z
      · exact keepE b o e (by rw [hup_else hc hv]; exact n) hb
  · by_cases hc : capt cl b
    · exact u.slot b o e (hup_cap hc) hb (by simp)
    · by_cases hv : vis X b
      · obtain ⟨o', e', z⟩ := vis_keep (cl := cl) I k hv hc
        rw [e] at e'
        cases e'
        exact ⟨o.slots, objHO_at hok z⟩
      · exact u.slot b o e (by rw [hup_else hc hv]; exact n) hb (by simp)
  · unfold strip
    by_cases hv : vis X b
    · exact if_pos hv
    · rw [if_neg hv]
      by_cases hc : capt cl b
      · rw [if_pos hc]; exact n
      · rw [if_neg hc]
        exact u.free b o e (by rw [hup_else hc hv]; exact n) (by simp)
  · have q := u.tups b xs (hup_of I C e fun u cv _ z => by unfold objHO at z; cases z)
    unfold strip
    rw [if_neg (fun z => by rw [vis_none I z] at e; cases e), if_neg (fun z => by rw [ncap b z] at q; cases q)]
    exact q
  · have q := u.frzs b o xs (hup_of I C e fun u cv _ z => by unfold objHO at z; cases z)
    unfold strip
    rw [if_neg (fun z => by rw [vis_none I z] at e; cases e), if_neg (fun z => by rw [ncap b z] at q; cases q)]
    exact q
  · obtain ⟨more, q⟩ := u.tbls b ps (hup_of I C e fun u cv _ z => by unfold objHO at z; cases z)
    refine ⟨more, ?_⟩
    unfold strip
    rw [if_neg (fun z => by rw [vis_none I z] at e; cases e), if_neg (fun z => by rw [ncap b z] at q; cases q)]
    exact q
  · refine keepE b o e (hup_cap hc) ?_
    rcases C b hc with z | ⟨u', cv, e', d⟩
    · exact absurd z hv
    · exact nfr b _ e'
  · exact not_vis_of I k ncap q fun u z => by unfold objHO at z; cases z
  · exact not_vis_of I k ncap q fun u z => by unfold objHO at z; cases z
end
end MP
namespace MP
open PySem L2
open PyProof.Rows hiding St

/-- a callee's captured cells, known at the caller -/
structure CapAt (S : Stat) (mc : Mp) (G : GH) (cl : List (Str × Addr)) (fr : List Str) (ns : List Nat) : Prop where
  caps : Caps mc cl fr ns
  cel : ∀ j ∈ ns, ∃ ov, cLook j G.cs = some ov
section
variable {S : Stat} {X : Cx} {m m' mc mc' : Mp} {G G' : GH} {cl : List (Str × Addr)} {fr : List Str} {ns : List Nat} {pins : List (Addr × Obj)} {σL : SL} {σ : St} {H H' : Hp} {s : Shared}
theorem CapAt.at_ (C : CapAt S mc G cl fr ns) {b : Addr} (h : capt cl b) : ∃ n ov, n ∈ ns ∧ mc n = some b ∧ cLook n G.cs = some ov := by
  obtain ⟨y, hy⟩ := h
  have h1 := C.caps.only y b hy
  obtain ⟨i, hi⟩ := List.mem_iff_getElem?.mp h1
  obtain ⟨hlt, _⟩ := List.getElem?_eq_some_iff.mp hi
  have hn : i < ns.length := by rw [C.caps.len]; exact hlt
  obtain ⟨c, e1, e2⟩ := C.caps.to i y ns[i] hi (List.getElem?_eq_getElem hn)
  rw [hy] at e1
  cases e1
  obtain ⟨ov, e3⟩ := C.cel ns[i] (List.getElem_mem hn)
  exact ⟨ns[i], ov, List.getElem_mem hn, e2, e3⟩
theorem RelC.at_ {v : Addr → Prop} (R : RelC S v m mc G H) {n : Nat} {b : Addr} {ov : Option LV} (hm : mc n = some b) (hg : cLook n G.cs = some ov) : True ∧ (¬ v b → Far S m H b ov) := by
  obtain ⟨a, e, r⟩ := R.cell n ov hg
  rw [hm] at e
  cases e
  exact r
theorem CapAt.ok (C : CapAt S mc G cl fr ns) (R : Rel S (vis X) m mc G H) : CapOk X cl H := fun b hb => by
  obtain ⟨n, ov, _, h1, h2⟩ := C.at_ hb
  have r := R.c.at_ h1 h2
  by_cases hv : vis X b
  · exact .inl hv
  · obtain ⟨o, cv, e, d, _⟩ := r.2 hv
    exact .inr ⟨o, cv, e, d⟩
/-- a visible cell's content -/
theorem vis_content (I : Inv X pins σ H s) (O : CtxOk S X) (R : Rel S (vis X) m mc G H) (Q : StR S X m mc G H σL σ) {n : Nat} {b : Addr} {ov : Option LV} (hv : vis X b) (hm : mc n = some b) (hg : cLook n G.cs = some ov) :
    ∃ o cv, s.heap.get? b = some o ∧ o.data = .cell cv ∧ ∀ v, ov = some v → ∃ u x, cv = some u ∧ RelV x u ∧ RV S m H v x := by
  obtain ⟨x, hx⟩ := hv
  obtain ⟨i, hi, hk⟩ := O.cn x b hx
  have hvis : Vis X.env.scope x := by
    rcases hk with k | k
    · exact .inr (.inl k)
    · exact .inr (.inr k)
  have q := Q.2 i x hi
  have q' : ∃ n, σL[i]? = some (some (.loc n)) ∧ (∃ c, mc n = some c ∧ X.env.cells.lookup x = some c) ∧ ∃ ov, cLook n G.cs = some ov ∧ ∀ v, ov = some v → ∃ u, σ[i]? = some (some u) ∧ RV S m H v u := by
    unfold SR at q
    rcases hk with k | k <;> (rw [k] at q; exact q)
  obtain ⟨n', _, ⟨c, e2', e2⟩, ov', e3, e4⟩ := q'
  rw [hx] at e2
  cases e2
  have en := R.c.cinj _ _ _ _ _ e3 hg e2' hm
  subst en
  rw [hg] at e3
  cases e3
  obtain ⟨cv, o, ho, hd⟩ := I.cell x b hx
  refine ⟨o, cv, ho, hd, fun v hv => ?_⟩
  obtain ⟨u, e5, e6⟩ := e4 v hv
  obtain ⟨mm, hn, hl⟩ := I.loc
  obtain ⟨w, rw', lk⟩ := hl i x u hi e5 hvis
  rcases lk with ⟨k', _⟩ | ⟨_, c, hc, hcell⟩
  · have k' : X.env.scope.names.lookup x = some .local := k'
    rcases hk with k | k <;> (rw [k] at k'; cases k')
  · rw [hx] at hc
    cases hc
    obtain ⟨o', ho', hd'⟩ := hcell
    rw [ho] at ho'
    cases ho'
    rw [hd] at hd'
    cases hd'
    exact ⟨w, u, rfl, rw', e6⟩
theorem cell_obj_ne_func {h : Heap} {a : Addr} {o u : Obj} (e : h.get? a = some o) (e' : h.get? a = some u) {cv : Option Value} (d : o.data = .cell cv) (d' : ∀ cv, u.data ≠ .cell cv) : False := by
  rw [e] at e'
  cases e'
  exact d' cv d
theorem codeO_at' {P : Program} {w : World} {h : Heap} {c : Addr} {q : Str} (hok : HOk P w H h) (e : H c = some (LamX.CodeO c q)) : ∃ oc vs t, h.get? c = some oc ∧ oc.data = .fields vs ∧ vs[1]? = some (.str q t) := by
  obtain ⟨⟨oc, vs, t, h1, h2, h3⟩, _, _⟩ := hok c _ e
  exact ⟨oc, vs, t, h1, h2, h3⟩
theorem excHO_at {P : Program} {w : World} {h : Heap} {a : Addr} {c : Value} (hok : HOk P w H h) (e : H a = some (excHO a c)) : ∃ oe vs, h.get? a = some oe ∧ Zc c none oe ∧ oe.data = .fields vs := by
  obtain ⟨z, _, _⟩ := hok a _ e
  exact z
/-- a function object, a code object, an exception: no cell -/
theorem hup_fun (I : Inv X pins σ H s) (C : CapOk X cl H) {a : Addr} {φ : Heap → Prop} (e : H a = some (.ext φ)) (h : ∀ u, s.heap.get? a = some u → ∀ cv, u.data ≠ .cell cv) : hup X cl H s.heap a = some (.ext φ) :=
  hup_of I C e (objHO_data I e h)
theorem Rel.lift (R : Rel S (vis X) m mc G H) (Q : StR S X m mc G H σL σ) (I : Inv X pins σ H s) (O : CtxOk S X) (C : CapAt S mc G cl fr ns) : Rel S (capt cl) m mc G (hup X cl H s.heap) ∧ KeepT H (hup X cl H s.heap) := by
  have CO := C.ok R
  have kt : KeepT H (hup X cl H s.heap) := fun a o vs e => hup_of I CO e fun u cv _ z => (by unfold objHO at z; cases z)
  have code : ∀ c q, H c = some (LamX.CodeO c q) → hup X cl H s.heap c = some (LamX.CodeO c q) := fun c q e => hup_fun I CO e fun u hu cv d => by
    obtain ⟨oc, vs, t, h1, h2, _⟩ := codeO_at' I.hok e
    rw [hu] at h1
    cases h1
    rw [d] at h2
    cases h2
  refine ⟨⟨⟨fun n o e => ?_, R.o.inj, R.o.dom, R.o.siz, fun p hp => ?_, R.o.cdom, fun a o e => ?_, R.o.frm⟩, ⟨fun n ov e => ?_, R.c.cinj⟩⟩, kt⟩
  · obtain ⟨a, hm, r⟩ := R.o.obj n o e
    refine ⟨a, hm, ?_⟩
    cases o with
    | lst xs =>
      obtain ⟨vs, e1, r1⟩ := r
      exact ⟨vs, hup_of I CO e1 fun u cv _ z => (by unfold objHO at z; cases z), RVs.mono (Ext.refl m) kt r1⟩
    | fro xs =>
      obtain ⟨vs, e1, r1⟩ := r
      refine ⟨vs, ?_, RVs.mono (Ext.refl m) kt r1⟩
      rcases e1 with e1 | ⟨o, e1⟩
      · exact .inl (hup_of I CO e1 fun u cv _ z => (by unfold objHO at z; cases z))
      · exact .inr ⟨o, hup_of I CO e1 fun u cv _ z => (by unfold objHO at z; cases z)⟩
    | dic kvs =>
      obtain ⟨vs, e1, r1⟩ := r
      exact ⟨vs, hup_of I CO e1 fun u cv _ z => (by unfold objHO at z; cases z), RKs.mono (Ext.refl m) kt r1⟩
    | set _ => exact r
    | clo k ns' =>
      obtain ⟨od, sl, fd, cl', c, e1, i, ec, cp⟩ := r
      refine ⟨od, sl, fd, cl', c, hup_fun I CO e1 fun u hu cv d => ?_, i, code c _ ec, cp⟩
      have := objHO_at I.hok e1
      rw [hu] at this
      cases this
      cases d
    | exc k =>
      refine hup_fun I CO r fun u hu cv d => ?_
      obtain ⟨oe, vs, h1, _, h2⟩ := excHO_at I.hok r
      rw [hu] at h1
      cases h1
      rw [d] at h2
      cases h2
  · obtain ⟨ps, e1, e2, e3⟩ := R.o.tab p hp
    refine ⟨ps, hup_of I CO e1 fun u cv _ z => (by unfold objHO at z; cases z), e2, fun pos cv hc => ?_⟩
    obtain ⟨c, z1, z2⟩ := e3 pos cv hc
    exact ⟨c, z1, code c _ z2⟩
  · obtain ⟨e1, e2⟩ := R.o.frz a o e
    refine ⟨hup_of I CO e1 fun u cv _ z => ?_, e2⟩
    rw [z] at e2
    exact e2
  · obtain ⟨a, hm, r1, r2⟩ := R.c.cell n ov e
    refine ⟨a, hm, trivial, fun hc => ?_⟩
    by_cases hv : vis X a
    · obtain ⟨o, cv, e1, d, rr⟩ := vis_content I O R Q hv hm e
      obtain ⟨o', e1', z⟩ := hup_vis (cl := cl) I hv hc
      rw [e1] at e1'
      cases e1'
      refine ⟨o, cv, z, d, fun v hv' => ?_⟩
      obtain ⟨u, x, q1, q2, q3⟩ := rr v hv'
      exact ⟨u, x, q1, q2, RV.mono (Ext.refl m) kt q3⟩
    · obtain ⟨o, cv, e1, d, rr⟩ := r2 hv
      refine ⟨o, cv, (hup_else hc hv).trans e1, d, fun v hv' => ?_⟩
      obtain ⟨u, x, q1, q2, q3⟩ := rr v hv'
      exact ⟨u, x, q1, q2, RV.mono (Ext.refl m) kt q3⟩
/-- behind the callee -/
theorem Rel.strip (R : Rel S (vis X) m mc G H) (Q : StR S X m mc G H σL σ) (I : Inv X pins σ H s) (O : CtxOk S X) (C : CapAt S mc G cl fr ns)
    (R' : RelO S m' mc' G' H') (hcs : G'.cs = G.cs) (em : Ext m m') (ec : Ext mc mc') (k : Keep (hup X cl H s.heap) H') {h' : Heap} (hok : HOk X.prog X.w H' h') (ncap : ∀ a, capt cl a → H' a = none) :
    Rel S (vis X) m' mc' G' (strip X cl H H') ∧ StR S X m' mc' G' (strip X cl H H') σL σ ∧ Keep H (strip X cl H H') ∧ KeepT H' (strip X cl H H') := by
  have CO := C.ok R
  have to : ∀ b o, H' b = some o → (∀ u : Obj, o = objHO b u → ∀ cv, u.data ≠ .cell cv) → MP.strip X cl H H' b = some o := fun b o e h => by
    have hc : ¬ capt cl b := fun z => by rw [ncap b z] at e; cases e
    have hv : ¬ vis X b := fun z => by
      obtain ⟨u, hu, q⟩ := vis_keep I k z hc
      rw [e] at q
      cases q
      obtain ⟨o', cv, e1, d⟩ := vis_obj I z
      rw [hu] at e1
      cases e1
      exact h u rfl cv d
    unfold MP.strip
    rw [if_neg hv, if_neg hc]
    exact e
  have ext : ∀ b φ, H' b = some (.ext φ) → (∀ u, h'.get? b = some u → ∀ cv, u.data ≠ .cell cv) → MP.strip X cl H H' b = some (.ext φ) := fun b φ e h => to b _ e fun u z cv d => by
    rw [z] at e
    exact h u (objHO_at hok e) cv d
  have kt : KeepT H' (MP.strip X cl H H') := fun a o vs e => to a _ e fun u z => (by unfold objHO at z; cases z)
  have code : ∀ c q, H' c = some (LamX.CodeO c q) → MP.strip X cl H H' c = some (LamX.CodeO c q) := fun c q e => ext c _ e fun u hu cv d => by
    obtain ⟨oc, vs, t, h1, h2, _⟩ := codeO_at' hok e
    rw [hu] at h1
    cases h1
    rw [d] at h2
    cases h2
  have kp : Keep H (MP.strip X cl H H') := fun a o e f => by
    have hv : ¬ vis X a := fun z => by rw [vis_none I z] at e; cases e
    unfold MP.strip
    rw [if_neg hv]
    by_cases hc : capt cl a
    · rw [if_pos hc]; exact e
    · rw [if_neg hc]
      exact k a o (by rw [hup_else hc hv]; exact e) f
  refine ⟨⟨⟨fun n o e => ?_, R'.inj, R'.dom, R'.siz, fun p hp => ?_, R'.cdom, fun a o e => ?_, R'.frm⟩, ⟨fun n ov e => ?_, fun n n' ov ov' a e1 e2 h1 h2 => ?_⟩⟩, Q.mono em ec kp.t hcs, kp, kt⟩
  · obtain ⟨a, hm, r⟩ := R'.obj n o e
    refine ⟨a, hm, ?_⟩
    cases o with
    | lst xs =>
      obtain ⟨vs, e1, r1⟩ := r
      exact ⟨vs, to _ _ e1 fun u z => (by unfold objHO at z; cases z), RVs.mono (Ext.refl m') kt r1⟩
    | fro xs =>
      obtain ⟨vs, e1, r1⟩ := r
      refine ⟨vs, ?_, RVs.mono (Ext.refl m') kt r1⟩
      rcases e1 with e1 | ⟨o, e1⟩
      · exact .inl (to _ _ e1 fun u z => (by unfold objHO at z; cases z))
      · exact .inr ⟨o, to _ _ e1 fun u z => (by unfold objHO at z; cases z)⟩
    | dic kvs =>
      obtain ⟨vs, e1, r1⟩ := r
      exact ⟨vs, to _ _ e1 fun u z => (by unfold objHO at z; cases z), RKs.mono (Ext.refl m') kt r1⟩
    | set _ => exact r
    | clo k' ns' =>
      obtain ⟨od, sl, fd, cl', c, e1, i, ec, cp⟩ := r
      refine ⟨od, sl, fd, cl', c, ext _ _ e1 fun u hu cv d => ?_, i, code c _ ec, cp⟩
      have := objHO_at hok e1
      rw [hu] at this
      cases this
      cases d
    | exc k' =>
      refine ext _ _ r fun u hu cv d => ?_
      obtain ⟨oe, vs, h1, _, h2⟩ := excHO_at hok r
      rw [hu] at h1
      cases h1
      rw [d] at h2
      cases h2
  · obtain ⟨ps, e1, e2, e3⟩ := R'.tab p hp
    refine ⟨ps, to _ _ e1 fun u z => (by unfold objHO at z; cases z), e2, fun pos cv hc => ?_⟩
    obtain ⟨c, z1, z2⟩ := e3 pos cv hc
    exact ⟨c, z1, code c _ z2⟩
  · obtain ⟨e1, e2⟩ := R'.frz a o e
    refine ⟨to _ _ e1 fun u z => ?_, e2⟩
    rw [z] at e2
    exact e2.elim
  · rw [hcs] at e
    obtain ⟨a, hm, r1, r2⟩ := R.c.cell n ov e
    exact ⟨a, ec _ _ hm, trivial, fun hv => (r2 hv).mono em kp⟩
  · rw [hcs] at e1 e2
    obtain ⟨b1, z1, _⟩ := R.c.cell n ov e1
    obtain ⟨b2, z2, _⟩ := R.c.cell n' ov' e2
    have q1 := ec _ _ z1
    have q2 := ec _ _ z2
    rw [h1] at q1
    rw [h2] at q2
    cases q1
    cases q2
    exact R.c.cinj n n' ov ov' _ e1 e2 z1 z2
end
end MP
namespace MP
open PySem L2
open PyProof.Rows hiding St

abbrev envK (C : CodeA) (cl : List (Str × Addr)) (L f c : Addr) : Env :=
  { scope := C.scope, locals := L, globals := mainGlobals, cells := cellsFrom (L + 1) C.scope.names cl, qual := C.qual ++ ".<locals>.", func := some f, code := .ref c, frame := some L, builtins := builtinsNs }
def kcx (P : Program) (w : World) (K : PySem.W.Frag) (mg : Str → Option Value) (base : Heap) (C : CodeA) (cl : List (Str × Addr)) (f c : Addr) (A : Around) (outer : List Env) (s : Shared) (H : Hp) (E : XK) : Cx where
  prog := P
  w := w
  K := K
  mg := mg
  base := base
  A := A.deeper (envK C cl s.heap.objs.size f c)
  N := C.N
  s_0 := s
  H_0 := H
  env := envK C cl s.heap.objs.size f c
  outer := outer
  stack := envK C cl s.heap.objs.size f c :: outer
  ex := []
  fn := fun x => C.scope.names.lookup x == some .cell
  calm := true
  pn := []
  xe := fun e s' => wpAny (model P w) (A.deeper (envK C cl s.heap.objs.size f c)) (leaving (envK C cl s.heap.objs.size f c) e) (fun _ s'' => CX P w outer H s E e s'') (fun e' s'' => CX P w outer H s E e' s'') s'

/-- the names of a code: parameters, captured ones, its own -/
structure KScope (C : CodeA) : Prop where
  kind : C.scope.kind = .function
  co : C.scope.isCoroutine = false
  gen : C.scope.isGenerator = false
  nd : C.N.Nodup
  pre : C.N.take (C.ps.length + C.fr.length) = C.ps ++ C.fr
  par : ∀ x ∈ C.ps, C.scope.names.lookup x = some .local ∨ C.scope.names.lookup x = some .cell
  uniq : ∀ y ∈ C.scope.names, C.scope.names.lookup y.1 = some y.2
  free : ∀ y ∈ C.scope.names, y.2 = .free → y.1 ∈ C.fr
  frk : ∀ x ∈ C.fr, C.scope.names.lookup x = some .free
  cel : ∀ y ∈ C.scope.names, y.2 = .cell → y.1 ∈ C.N
  p1 : C.params.posonlyargs = []
  p2 : C.params.args.map (·.arg) = C.ps
  p3 : C.params.vararg.isNone = true
  p4 : C.params.kwonlyargs = []
  p5 : C.params.kwarg.isNone = true
def kscB (C : CodeA) : Bool :=
  decide (C.scope.kind = .function) && (!C.scope.isCoroutine && (!C.scope.isGenerator && (decide C.N.Nodup && (decide (C.N.take (C.ps.length + C.fr.length) = C.ps ++ C.fr) &&
    (C.ps.all (fun x => decide (C.scope.names.lookup x = some .local) || decide (C.scope.names.lookup x = some .cell)) && (C.scope.names.all (fun y => decide (C.scope.names.lookup y.1 = some y.2)) &&
      (C.scope.names.all (fun y => !decide (y.2 = .free) || decide (y.1 ∈ C.fr)) && (C.fr.all (fun x => decide (C.scope.names.lookup x = some .free)) && (C.scope.names.all (fun y => !decide (y.2 = .cell) || decide (y.1 ∈ C.N)) &&
        (C.params.posonlyargs.isEmpty && (decide (C.params.args.map (·.arg) = C.ps) && (C.params.vararg.isNone && (C.params.kwonlyargs.isEmpty && C.params.kwarg.isNone)))))))))))))
theorem kscope_by {C : CodeA} (h : kscB C = true) : KScope C := by
  unfold kscB at h
  simp only [Bool.and_eq_true, Bool.not_eq_true', decide_eq_true_eq, List.all_eq_true, Bool.or_eq_true, decide_eq_false_iff_not, List.isEmpty_iff] at h
  obtain ⟨h1, h2, h3, h4, h5, h6, h7, h8, h9, h10, h11, h12, h13, h14, h15⟩ := h
  exact ⟨h1, h2, h3, h4, h5, h6, h7, fun y hy e => (h8 y hy).elim (fun z => absurd e z) id, h9, fun y hy e => (h10 y hy).elim (fun z => absurd e z) id, h11, h12, h13, h14, h15⟩
theorem zip_nodup_bind : ∀ {ps : List Str} {us : List Value} {sl : List (Str × Value)}, ps.Nodup → ps.length = us.length → (∀ x ∈ ps, sl.lookup x = (ps.zip us).lookup x) → ps.filterMap (fun n => (sl.lookup n).map fun v => (n, v)) = ps.zip us
  | [], us, sl, _, _, _ => rfl
  | p :: ps, [], sl, _, hl, _ => by simp at hl
  | p :: ps, u :: us, sl, nd, hl, h => by
    have h0 := h p List.mem_cons_self
    rw [List.zip_cons_cons, List.lookup_cons, beq_self_eq_true] at h0
    rw [List.filterMap_cons, h0]
    show (p, u) :: _ = _
    rw [zip_nodup_bind (us := us) (List.nodup_cons.mp nd).2 (by simpa using hl) fun x hx => ?_]
    · rfl
    · rw [h x (List.mem_cons_of_mem _ hx), List.zip_cons_cons, List.lookup_cons]
      have : (x == p) = false := beq_eq_false_iff_ne.mpr fun e => (List.nodup_cons.mp nd).1 (e ▸ hx)
      rw [this]
theorem zip_lookup_some : ∀ {ps : List Str} {us : List Value} {x : Str}, ps.length = us.length → x ∈ ps → ((ps.zip us).lookup x).isSome = true
  | [], _, _, _, h => by cases h
  | p :: ps, [], _, hl, _ => by simp at hl
  | p :: ps, u :: us, x, hl, h => by
    rw [List.zip_cons_cons, List.lookup_cons]
    cases e : x == p with
    | true => rfl
    | false =>
      refine zip_lookup_some (by simpa using hl) ?_
      rcases List.mem_cons.mp h with z | z
      · rw [z, beq_self_eq_true] at e
        cases e
      · exact z
theorem bindArgs_plain {fd : FuncData} {ps : List Str} {us : List Value} (h1 : fd.params.posonlyargs = []) (h2 : fd.params.args.map (·.arg) = ps) (h3 : fd.params.vararg.isNone = true) (h4 : fd.params.kwonlyargs = []) (h5 : fd.params.kwarg.isNone = true) (hd : fd.defaults = .none)
    (nd : ps.Nodup) (hl : us.length = ps.length) : bindArgs fd ⟨us, []⟩ = pure (ps.zip us) := by
  have v0 : fd.params.vararg = none := by
    cases e : fd.params.vararg with
    | none => rfl
    | some _ => rw [e] at h3; cases h3
  have k0 : fd.params.kwarg = none := by
    cases e : fd.params.kwarg with
    | none => rfl
    | some _ => rw [e] at h5; cases h5
  have miss : (ps.take (ps.length - 0)).filter (fun n => ((ps.zip us).lookup n).isNone) = [] := by
    refine List.filter_eq_nil_iff.mpr fun x hx => ?_
    have := zip_lookup_some (us := us) hl.symm (List.mem_of_mem_take hx)
    cases e : (ps.zip us).lookup x with
    | none => rw [e] at this; cases this
    | some _ => simp
  have fm := zip_nodup_bind (sl := ps.zip us) nd hl.symm fun _ _ => rfl
  unfold bindArgs
  simp only [h1, h2, h4, v0, k0, hd, List.map_nil, List.nil_append, List.append_nil, List.forIn_nil, pure_bind]
  have sq : (seqItems? Value.none : Sem (Option (Array Value))) = pure none := rfl
  rw [sq]
  simp only [pure_bind, Option.getD_none, Array.toList_empty, List.length_nil, List.drop_nil, Nat.sub_zero, List.take_length, List.drop_length, List.zip_nil_right, List.forIn_nil, pure_bind]
  have c1 : (decide (us.length > ps.length) && (none : Option PySem.Arg).isNone) = false := by
    rw [hl]; simp
  rw [Nat.sub_zero, List.take_length] at miss
  rw [if_neg (by rw [c1]; decide), if_neg (by rw [miss]; decide), if_neg (by decide), fm]
theorem KScope.at_par {C : CodeA} (S : KScope C) {i : Nat} {x : Str} (h : C.ps[i]? = some x) : C.N[i]? = some x := by
  obtain ⟨hl, _⟩ := List.getElem?_eq_some_iff.mp h
  have q : (C.ps ++ C.fr)[i]? = some x := by rw [List.getElem?_append_left hl]; exact h
  rw [← S.pre, List.getElem?_take_of_lt (by omega)] at q
  exact q
theorem KScope.at_fr {C : CodeA} (S : KScope C) {i : Nat} {x : Str} (h : C.fr[i]? = some x) : C.N[C.ps.length + i]? = some x := by
  obtain ⟨hl, _⟩ := List.getElem?_eq_some_iff.mp h
  have q : (C.ps ++ C.fr)[C.ps.length + i]? = some x := by
    rw [List.getElem?_append_right (by omega), Nat.add_sub_cancel_left]
    exact h
  rw [← S.pre, List.getElem?_take_of_lt (by omega)] at q
  exact q
theorem KScope.len {C : CodeA} (S : KScope C) : C.ps.length + C.fr.length ≤ C.N.length := by
  have q := congrArg List.length S.pre
  rw [List.length_take, List.length_append] at q
  omega
theorem KScope.low {C : CodeA} (S : KScope C) {i : Nat} {x : Str} (h : C.N[i]? = some x) (hi : i < C.ps.length + C.fr.length) : (C.ps ++ C.fr)[i]? = some x := by
  rw [← S.pre, List.getElem?_take_of_lt hi]
  exact h

theorem newEnvK {M : Model} {A : Around} {E : Value → Shared → Prop} {s : Shared} {scope : Scope} {closure : List (Str × Addr)} {binds : List (Str × Value)} {qual : Str} {func : Option Addr} {code : Value} {Q : Env → Shared → Prop}
    (h : wpAny M A (forIn binds PUnit.unit fun (p : Str × Value) (_ : PUnit) => do storeName { scope := scope, locals := s.heap.objs.size, globals := mainGlobals, cells := cellsFrom (s.heap.objs.size + 1) scope.names closure, qual := qual, func := func, code := code, frame := some s.heap.objs.size, builtins := builtinsNs } p.1 p.2; pure (ForInStep.yield PUnit.unit))
      (fun _ s' => Q { scope := scope, locals := s.heap.objs.size, globals := mainGlobals, cells := cellsFrom (s.heap.objs.size + 1) scope.names closure, qual := qual, func := func, code := code, frame := some s.heap.objs.size, builtins := builtinsNs } s') E
      { s with heap := pushCells (s.heap.push { cls := .type "frame", data := .dict #[] }) scope.names }) :
    wpAny M A (newFunctionEnv scope mainGlobals closure binds qual func code none builtinsNs) Q E s := by
  simp only [newFunctionEnv, Option.isSome_none, Bool.false_eq_true, if_false]
  refine wpAny_bind (wpAny_alloc ?_)
  refine wpAny_bind (wpAny_layCells _ (fun n k c => rfl) scope.names closure _ _ ?_)
  rw [show ({ s with heap := s.heap.push { cls := .type "frame", data := .dict #[] } } : Shared).heap.objs.size = s.heap.objs.size + 1 from Heap.size_push ..]
  exact wpAny_bind (thn h fun _ s' q => wpAny_pure q)

def setAll (σ : St) : Nat → List V → St
  | _, [] => σ
  | i, v :: vs => setAll (σ.set i (some v)) (i + 1) vs
theorem setAll_eq : ∀ (vs : List V) (pre t : St), setAll (pre ++ (List.replicate vs.length none ++ t)) pre.length vs = pre ++ (vs.map some ++ t)
  | [], pre, t => rfl
  | v :: vs, pre, t => by
    have e : (pre ++ (List.replicate (v :: vs).length none ++ t)).set pre.length (some v) = (pre ++ [some v]) ++ (List.replicate vs.length none ++ t) := by
      rw [List.set_append_right _ _ (Nat.le_refl _), Nat.sub_self]
      simp [List.replicate_succ]
    have := setAll_eq vs (pre ++ [some v]) t
    rw [List.length_append] at this
    show setAll ((pre ++ (List.replicate (v :: vs).length none ++ t)).set pre.length (some v)) (pre.length + 1) vs = _
    rw [e]
    show setAll _ (pre.length + [some v].length) vs = _
    rw [this]
    simp
theorem bindK {X : Cx} {H : Hp} {A : Around} {M : Model} {E : Value → Shared → Prop} (hN : X.N.Nodup) : ∀ (ps : List Str) (us : List Value) (vs : List V) (i : Nat) (σ : St) (s : Shared) (Q : PUnit → Shared → Prop), Inv X [] σ H s → Vals vs us → ps.length = us.length →
    (∀ j x, ps[j]? = some x → X.N[i + j]? = some x ∧ Loc X.env.scope x ∧ (X.fn x = true ∨ X.env.scope.names.lookup x = some .local)) → (∀ s', Inv X [] (setAll σ i vs) H s' → Q PUnit.unit s') →
    wpAny M A (forIn (ps.zip us) PUnit.unit fun (p : Str × Value) (_ : PUnit) => do storeName X.env p.1 p.2; pure (ForInStep.yield PUnit.unit)) Q E s
  | [], us, vs, i, σ, s, Q, I, r, hl, _, h => by
    cases us with
    | cons _ _ => simp at hl
    | nil =>
      cases r
      show wpAny M A (forIn ([] : List (Str × Value)) PUnit.unit _) Q E s
      rw [List.forIn_nil]
      exact wpAny_pure (h s I)
  | p :: ps, us, vs, i, σ, s, Q, I, r, hl, hp, h => by
    cases r with
    | nil => simp at hl
    | cons r rr =>
      rename_i v u vs us
      obtain ⟨h1, h2, h3⟩ := hp 0 p rfl
      rw [List.zip_cons_cons, List.forIn_cons]
      refine wpAny_bind (wpAny_bind (store_ok I hN h1 h2 r (fun s1 I1 => wpAny_pure ?_) h3))
      exact bindK hN ps us vs (i + 1) _ s1 Q I1 rr (by simpa using hl) (fun j x hj => by
        have := hp (j + 1) x (by simpa using hj)
        rw [show i + 1 + j = i + (j + 1) by omega]
        exact this) h

section
variable {P : Program} {w : World} {K : PySem.W.Frag} {mg : Str → Option Value} {base : Heap} {C : CodeA} {cl : List (Str × Addr)} {f c : Addr} {A : Around} {outer : List Env} {s : Shared} {H : Hp} {E : XK} {ws : List (Option V)}
theorem pushF_keep {b : Addr} {o : Obj} (e : s.heap.get? b = some o) : (pushCells (s.heap.push { cls := .type "frame", data := .dict #[] }) C.scope.names).get? b = some o := pushCells_keeps _ _ _ _ (Heap.get?_push_of_some _ e)
/-- the captured cells as the callee finds them; ws: what they hold, where it is known -/
structure CapK (cl : List (Str × Addr)) (fr : List Str) (ws : List (Option V)) (h : Heap) (H : Hp) : Prop where
  len : ws.length = fr.length
  uni : ∀ y b, (y, b) ∈ cl → cl.lookup y = some b
  all : ∀ y b, cl.lookup y = some b → y ∈ fr ∧ H b = none ∧ ∃ v, h.IsCell b v
  inj : ∀ x y b, cl.lookup x = some b → cl.lookup y = some b → x = y
  has : ∀ (i : Nat) (y : Str), fr[i]? = some y → ∃ b, cl.lookup y = some b ∧ ∀ v, ws[i]? = some (some v) → ∃ u, RelV v u ∧ h.IsCell b (some u)
/-- a cell of the new frame: captured, or new -/
theorem cellK (hc : CapK cl C.fr ws s.heap H) {y : Str} {b : Addr} (e : (cellsFrom (s.heap.objs.size + 1) C.scope.names cl).lookup y = some b) :
    (cl.lookup y = some b ∧ b < s.heap.objs.size) ∨ ((y, .cell) ∈ C.scope.names ∧ s.heap.objs.size + 1 ≤ b ∧ (pushCells (s.heap.push { cls := .type "frame", data := .dict #[] }) C.scope.names).IsCell b none) := by
  have hs : (s.heap.push { cls := .type "frame", data := .dict #[] }).objs.size = s.heap.objs.size + 1 := Heap.size_push ..
  rw [← hs] at e
  rcases cells_mem (PySem.mem_of_lookup e) with hm | ⟨h1, h2, h3⟩
  · have q := hc.uni y b hm
    obtain ⟨_, _, v, z⟩ := hc.all y b q
    exact .inl ⟨q, z.lt⟩
  · rw [hs] at h2
    exact .inr ⟨h1, h2, h3⟩
theorem cellK_cl (S : KScope C) (hc : CapK cl C.fr ws s.heap H) {y : Str} {b : Addr} (e : cl.lookup y = some b) : (cellsFrom (s.heap.objs.size + 1) C.scope.names cl).lookup y = some b := by
  have hs : (s.heap.push { cls := .type "frame", data := .dict #[] }).objs.size = s.heap.objs.size + 1 := Heap.size_push ..
  obtain ⟨b', hb⟩ := mem_lookup (cells_acc (names := C.scope.names) (n := s.heap.objs.size + 1) (PySem.mem_of_lookup e))
  rcases cellK hc hb with ⟨h1, _⟩ | ⟨h1, _⟩
  · rw [e] at h1
    cases h1
    exact hb
  · have := S.uniq _ h1
    rw [S.frk y (hc.all y b e).1] at this
    cases this
theorem cellK_own (S : KScope C) (hc : CapK cl C.fr ws s.heap H) {y : Str} (e : C.scope.names.lookup y = some .cell) : ∃ b, (cellsFrom (s.heap.objs.size + 1) C.scope.names cl).lookup y = some b ∧ s.heap.objs.size + 1 ≤ b := by
  obtain ⟨b0, hm⟩ := cells_has (n := s.heap.objs.size + 1) (acc := cl) (PySem.mem_of_lookup e)
  obtain ⟨b, hb⟩ := mem_lookup hm
  refine ⟨b, hb, ?_⟩
  rcases cellK hc hb with ⟨h1, _⟩ | ⟨_, h2, _⟩
  · have := S.frk y (hc.all y b h1).1
    rw [e] at this
    cases this
  · exact h2
theorem invK (S : KScope C) (hd : A.handled = none) (e0 : Env0 P w K mg base A outer s H) (hc : CapK cl C.fr ws s.heap H) :
    Inv (kcx P w K mg base C cl f c A outer s H E) [] (List.replicate C.ps.length none ++ (ws ++ List.replicate (C.N.length - C.ps.length - ws.length) none)) H { s with heap := pushCells (s.heap.push { cls := .type "frame", data := .dict #[] }) C.scope.names } := by
  have kp : ∀ b o, s.heap.get? b = some o → (pushCells (s.heap.push { cls := .type "frame", data := .dict #[] }) C.scope.names).get? b = some o := fun b o e => pushF_keep e
  have noA : ∀ b : Addr, b ∉ (kcx P w K mg base C cl f c A outer s H E).ex := fun b z => absurd (show b ∈ ([] : List Addr) from z) (by simp)
  have own : ∀ y, C.scope.names.lookup y = some .cell ∨ C.scope.names.lookup y = some .free → ∃ b, (cellsFrom (s.heap.objs.size + 1) C.scope.names cl).lookup y = some b := fun y hy => by
    rcases hy with k | k
    · obtain ⟨b, h, _⟩ := cellK_own S hc k
      exact ⟨b, h⟩
    · obtain ⟨i, hi⟩ := List.mem_iff_getElem?.mp (S.free _ (PySem.mem_of_lookup k) rfl)
      obtain ⟨b, h, _⟩ := hc.has i y hi
      exact ⟨b, cellK_cl S hc h⟩
  have ll := S.len
  have lw := hc.len
  refine ⟨⟨e0.mod, S.kind, rfl, rfl, Nat.le_refl _, fun y z b h1 h2 => ?_, own, fun y b h1 h2 => ?_, fun _ => hd, Around.frames_deeper e0.frames, .inr ⟨rfl, rfl⟩, fun b z => absurd z (noA b), e0.bs, e0.bsz, fun b _ _ => noA b, fun b z => absurd z (noA b), e0.funs, e0.frf⟩,
    rfl, e0.bare, Un.kept kp, ⟨fun _ => none, ?_, fun i y v e1 e2 e3 => ?_⟩, fun y b e => ?_, e0.hok.fresh (Nat.le_refl _), fun y b e => ?_, fun q hq => absurd (show q ∈ ([] : List (Addr × Obj)) ++ [] from hq) (by simp), e0.hok.kept kp, ?_⟩
  · have hs : (s.heap.push { cls := .type "frame", data := .dict #[] }).objs.size = s.heap.objs.size + 1 := Heap.size_push ..
    have h1 : (cellsFrom (s.heap.objs.size + 1) C.scope.names cl).lookup y = some b := h1
    have h2 : (cellsFrom (s.heap.objs.size + 1) C.scope.names cl).lookup z = some b := h2
    rw [← hs] at h1 h2
    refine cells_inj (fun p hp => ?_) (fun y z b a d => ?_) (PySem.mem_of_lookup h1) (PySem.mem_of_lookup h2)
    · obtain ⟨_, _, v, q⟩ := hc.all p.1 p.2 (hc.uni p.1 p.2 hp)
      rw [hs]
      exact Nat.lt_succ_of_lt q.lt
    · exact hc.inj y z b (hc.uni y b a) (hc.uni z b d)
  · have h1 : C.scope.names.lookup y = some .cell := by
      have z : (C.scope.names.lookup y == some NameKind.cell) = true := h1
      simpa using z
    obtain ⟨b', h3, h4⟩ := cellK_own S hc h1
    have h2 : (cellsFrom (s.heap.objs.size + 1) C.scope.names cl).lookup y = some b := h2
    rw [h2] at h3
    cases h3
    show s.heap.objs.size ≤ b
    omega
  · exact Heap.Ns.keeps (Heap.Ns.new s.heap (.type "frame")) fun b o e => pushCells_keeps _ _ _ _ e
  · have e1 : C.N[i]? = some y := e1
    by_cases h1 : i < C.ps.length
    · rw [List.getElem?_append_left (by simpa using h1), List.getElem?_replicate] at e2
      split at e2 <;> cases e2
    · rw [List.getElem?_append_right (by simpa using h1), List.length_replicate] at e2
      by_cases h2 : i < C.ps.length + C.fr.length
      · rw [List.getElem?_append_left (by omega)] at e2
        have q := S.low e1 h2
        rw [List.getElem?_append_right (by omega)] at q
        obtain ⟨b, hb, hv⟩ := hc.has _ y q
        obtain ⟨u, ru, hu⟩ := hv v e2
        refine ⟨u, ru, .inr ⟨.inr (S.frk y (List.mem_of_getElem? q)), b, cellK_cl S hc hb, ?_⟩⟩
        obtain ⟨o, ho, hdd⟩ := hu
        exact ⟨o, kp _ _ ho, hdd⟩
      · rw [List.getElem?_append_right (by omega), List.getElem?_replicate] at e2
        split at e2 <;> cases e2
  · rcases cellK hc e with ⟨h1, _⟩ | ⟨_, _, h3⟩
    · obtain ⟨_, _, v, o, ho, hdd⟩ := hc.all y b h1
      exact ⟨v, o, kp _ _ ho, hdd⟩
    · exact ⟨_, h3⟩
  · rcases cellK hc e with ⟨h1, _⟩ | ⟨_, h2, _⟩
    · exact (hc.all y b h1).2.1
    · exact e0.hok.fresh (by omega)
  · show _ = C.N.length
    simp only [List.length_append, List.length_replicate]
    omega
/-- the code's context is in order -/
theorem ctxK {S : Stat} (SC : KScope C) (e0 : Env0 P w K mg base A outer s H) (hc : CapK cl C.fr ws s.heap H) (hk : K = S.K) (hb : ∀ b, capt cl b → base.get? b = none) (hf : ∀ b, capt cl b → b ∉ frs outer) : CtxOk S (kcx P w K mg base C cl f c A outer s H E) := by
  have frLt : ∀ b, b ∈ frs outer → b < s.heap.objs.size := fun b hm => by
    obtain ⟨_, o, ho, _⟩ := e0.funs.mem hm
    exact Heap.lt_size ho
  refine ⟨hk, fun b hv => ?_, fun b hv hm => ?_, SC.nd, fun x b e => ?_⟩
  · obtain ⟨y, hy⟩ := hv
    rcases cellK hc hy with ⟨h1, _⟩ | ⟨_, h2, _⟩
    · exact hb b ⟨y, h1⟩
    · have := e0.bsz
      show base.get? b = none
      exact Heap.get?_none_of_le (Nat.le_trans this (Nat.le_of_succ_le h2))
  · obtain ⟨y, hy⟩ := hv
    have hm : b ∈ frs (envK C cl s.heap.objs.size f c :: outer) := hm
    unfold frs at hm
    rw [List.filterMap_cons] at hm
    rcases List.mem_cons.mp (show b ∈ s.heap.objs.size :: frs outer from hm) with z | z
    · have z : b = s.heap.objs.size := z
      rcases cellK hc hy with ⟨_, h2⟩ | ⟨_, h2, _⟩
      · rw [z] at h2; exact Nat.lt_irrefl _ h2
      · rw [z] at h2; exact Nat.lt_irrefl _ h2
    · rcases cellK hc hy with ⟨h1, _⟩ | ⟨_, h2, _⟩
      · exact hf b ⟨y, h1⟩ z
      · have := frLt b z
        exact Nat.lt_irrefl _ (Nat.lt_trans this h2)
  · rcases cellK hc e with ⟨h1, _⟩ | ⟨h1, _⟩
    · obtain ⟨i, hi⟩ := List.mem_iff_getElem?.mp (hc.all x b h1).1
      exact ⟨_, SC.at_fr hi, .inr (SC.frk x (hc.all x b h1).1)⟩
    · obtain ⟨i, hi⟩ := List.mem_iff_getElem?.mp (SC.cel _ h1 rfl)
      exact ⟨i, hi, .inl (SC.uniq _ h1)⟩
/-- a code is entered: its frame, its cells, its parameters -/
theorem enterK {S : Stat} {k : Nat} {od : Option Addr} {fd : FuncData} {slo : Array (Option Value)} {args : Args} {us : List Value} {vs : List V} {R : Result → Shared → Prop}
    (SC : KScope (S.cs k)) (hr : A.depth < recursionLimit) (hd : A.handled = none) (e0 : Env0 P w K mg base A outer s H) (hc : CapK cl (S.cs k).fr ws s.heap H) (ho : s.heap.get? f = some ⟨.type "function", od, .func fd, slo⟩) (ic : IsCode S k cl c fd)
    (hcr : s.heap.CodeRec (.ref c) (S.cs k).qual) (hb : BindsTo s fd args ((S.cs k).ps.zip us)) (r : Vals vs us) (hl : vs.length = (S.cs k).ps.length)
    (h : ∀ s1, Inv (kcx P w K mg base (S.cs k) cl f c A outer s H E) [] (vs.map some ++ (ws ++ List.replicate ((S.cs k).N.length - (S.cs k).ps.length - ws.length) none)) H s1 →
      match (S.cs k).body with
      | .stmts b => wpAny (model P w) (A.deeper (envK (S.cs k) cl s.heap.objs.size f c)) (execs b (envK (S.cs k) cl s.heap.objs.size f c)) (fun fl s' => R (.ok (.ret (match fl with | .ret v => v | _ => .none))) s')
          (fun e s' => wpAny (model P w) (A.deeper (envK (S.cs k) cl s.heap.objs.size f c)) (leaving (envK (S.cs k) cl s.heap.objs.size f c) e) (fun _ s'' => R (.error e) s'') (fun e' s'' => R (.error e') s'') s') s1
      | .expr e => wpAny (model P w) (A.deeper (envK (S.cs k) cl s.heap.objs.size f c)) (eval e (envK (S.cs k) cl s.heap.objs.size f c)) (fun v s' => R (.ok (.ret v)) s')
          (fun e' s' => wpAny (model P w) (A.deeper (envK (S.cs k) cl s.heap.objs.size f c)) (leaving (envK (S.cs k) cl s.heap.objs.size f c) e') (fun _ s'' => R (.error e') s'') (fun e'' s'' => R (.error e'') s'') s') s1) :
    codeAny (model P w) A (.call (.ref f) args) R s := by
  obtain ⟨q1, q2, q3, q4, q5, q6, q7, q9, q10, _⟩ := ic
  have lim : s.heap.NoLimit := e0.mod.nolimit.keeps fun b o e => (e0.bs b o e).1
  have I0 := invK (E := E) (f := f) (c := c) SC hd e0 hc
  have start : ∀ (Q : Env → Shared → Prop) (EE : Value → Shared → Prop), (∀ s1, Inv (kcx P w K mg base (S.cs k) cl f c A outer s H E) [] (vs.map some ++ (ws ++ List.replicate ((S.cs k).N.length - (S.cs k).ps.length - ws.length) none)) H s1 → Q (envK (S.cs k) cl s.heap.objs.size f c) s1) →
      wpAny (model P w) A.in1 (newFunctionEnv fd.scope fd.globals fd.closure ((S.cs k).ps.zip us) (fd.qualname ++ ".<locals>.") (some f) fd.code none fd.builtins) Q EE s := fun Q EE hQ => by
    rw [q4, q5, q6, q1, q9, q10]
    refine newEnvK ?_
    refine bindK (X := kcx P w K mg base (S.cs k) cl f c A outer s H E) SC.nd (S.cs k).ps us vs 0 _ _ _ I0 r (by rw [← hl, r.length]) (fun j x hj => ?_) fun s' I' => hQ s' ?_
    · refine ⟨by rw [Nat.zero_add]; exact SC.at_par hj, SC.par x (List.mem_of_getElem? hj), ?_⟩
      rcases SC.par x (List.mem_of_getElem? hj) with z | z
      · exact .inr z
      · exact .inl (by show ((S.cs k).scope.names.lookup x == some NameKind.cell) = true; rw [z]; rfl)
    · rw [← hl] at I'
      have e := setAll_eq vs [] (ws ++ List.replicate ((S.cs k).N.length - vs.length - ws.length) none)
      rw [← hl]
      have I2 : Inv (kcx P w K mg base (S.cs k) cl f c A outer s H E) [] (setAll ([] ++ (List.replicate vs.length none ++ (ws ++ List.replicate ((S.cs k).N.length - vs.length - ws.length) none))) ([] : St).length vs) H s' := I'
      rw [e] at I2
      exact I2
  have hcr' : s.heap.CodeRec fd.code fd.qualname := by rw [q9, q1]; exact hcr
  have lim2 : ∀ s1, Inv (kcx P w K mg base (S.cs k) cl f c A outer s H E) [] (vs.map some ++ (ws ++ List.replicate ((S.cs k).N.length - (S.cs k).ps.length - ws.length) none)) H s1 → s1.heap.NoLimit := fun s1 I1 => I1.nolimit
  cases hbd : (S.cs k).body with
  | stmts b =>
    rw [hbd] at q3 h
    refine codeAny_call_function hr ho rfl (by rw [q4]; exact SC.co) (by rw [q4]; exact SC.gen) q3 hcr' (hb _ _ _ _ ?_)
    refine start _ _ fun s1 I1 => ⟨lim2 s1 I1, codeAny_func (h s1 I1)⟩
  | expr e =>
    rw [hbd] at q3 h
    refine PySem.W.kla_callFunE hr ho rfl (by rw [q4]; exact SC.co) (by rw [q4]; exact SC.gen) q3 hcr' (hb _ _ _ _ ?_)
    refine start _ _ fun s1 I1 => ⟨lim2 s1 I1, PySem.W.kla_codeExpr (h s1 I1)⟩
end
end MP
namespace MP
open PySem L2
open PyProof.Rows hiding St

/-! ### the callee's exception, seen from the caller -/
section
variable {S : Stat} {X : Cx} {cl : List (Str × Addr)} {pins : List (Addr × Obj)} {σ : St} {H H' : Hp} {s s' : Shared}
theorem strip_ub (I : Inv X pins σ H s) (C : CapOk X cl H) (k : Keep (hup X cl H s.heap) H') {B h' : Heap} (u : UB (frs X.stack) (hup X cl H s.heap) H' s.heap B h') (hok : HOk X.prog X.w H' B) (nf : ∀ b, vis X b → b ∉ frs X.stack) :
    UB (frs X.stack) H (strip X cl H H') s.heap B h' ∧ HOk X.prog X.w (strip X cl H H') B := by
  have ncap : ∀ a, capt cl a → H' a = none := fun a ha => by
    have : ∃ o, s.heap.get? a = some o := by
      rcases C a ha with z | ⟨o, cv, e, d⟩
      · obtain ⟨o, _, e, _⟩ := vis_obj I z; exact ⟨o, e⟩
      · exact ⟨o, objHO_at I.hok e⟩
    obtain ⟨o, e⟩ := this
    exact u.free a o e (hup_cap ha)
  have keepE : ∀ b o, s.heap.get? b = some o → hup X cl H s.heap b = none → b ∉ frs X.stack → B.get? b = some o := u.keep
  have nfr : ∀ b o, H b = some o → b ∉ frs X.stack := fun b o e z => by rw [I.stkFree b z] at e; cases e
  refine ⟨⟨fun b o e n hb => ?_, fun b o e hb => u.slot b o e hb, fun b o e n => ?_, fun b o e hx => u.there b o e hx, fun b xs e => ?_, fun b o xs e => ?_, fun b ps e => ?_⟩, strip_hok I C k hok (fun b o hc hv e => ?_) (fun c a q => ?_) (fun a xs q => ?_) ncap⟩
  · by_cases hc : capt cl b
    · exact keepE b o e (hup_cap hc) hb
    · by_cases hv : vis X b
      · obtain ⟨o', e', z⟩ := vis_keep (cl := cl) I k hv hc
        rw [e] at e'
        cases e'
        exact objHO_at hok z
      · exact keepE b o e (by rw [hup_else hc hv]; exact n) hb
  · unfold strip
    by_cases hv : vis X b
    · exact if_pos hv
    · rw [if_neg hv]
      by_cases hc : capt cl b
      · rw [if_pos hc]; exact n
      · rw [if_neg hc]
        exact u.free b o e (by rw [hup_else hc hv]; exact n)
  · have q := u.tups b xs (hup_of I C e fun u cv _ z => (by unfold objHO at z; cases z))
    unfold strip
    rw [if_neg (fun z => by rw [vis_none I z] at e; cases e), if_neg (fun z => by rw [ncap b z] at q; cases q)]
    exact q
  · have q := u.frzs b o xs (hup_of I C e fun u cv _ z => (by unfold objHO at z; cases z))
    unfold strip
    rw [if_neg (fun z => by rw [vis_none I z] at e; cases e), if_neg (fun z => by rw [ncap b z] at q; cases q)]
    exact q
  · obtain ⟨more, q⟩ := u.tbls b ps (hup_of I C e fun u cv _ z => (by unfold objHO at z; cases z))
    refine ⟨more, ?_⟩
    unfold strip
    rw [if_neg (fun z => by rw [vis_none I z] at e; cases e), if_neg (fun z => by rw [ncap b z] at q; cases q)]
    exact q
  · refine keepE b o e (hup_cap hc) ?_
    rcases C b hc with z | ⟨u', cv, e', d⟩
    · exact absurd z hv
    · exact nfr b _ e'
  · exact not_vis_of I k ncap q fun u z => by unfold objHO at z; cases z
  · exact not_vis_of I k ncap q fun u z => by unfold objHO at z; cases z
end

/-! ### what is wanted of a result -/
section
variable (S : Stat) (X : Cx) (W : WX)
def Post {α : Type} (m mc : Mp) (H : Hp) (σL : SL) (σ : St) (r : Res α) (k : α → Mp → Mp → GH → Hp → Prop) : Prop := match r with
  | .ok a G' => ∀ m' mc' H', Ext m m' → Ext mc mc' → Keep H H' → Rel S (vis X) m' mc' G' H' → StR S X m' mc' G' H' σL σ → k a m' mc' G' H'
  | .exn n G' => ∀ m' mc' H', Ext m m' → Ext mc mc' → Keep H H' → Rel S (vis X) m' mc' G' H' → StR S X m' mc' G' H' σL σ → W (.ref (S.xa n)) none σ H'
  | .stuck => False
/-- what holds ahead -/
structure Pre (m mc : Mp) (G : GH) (H : Hp) (σL : SL) (σ : St) : Prop where
  r : Rel S (vis X) m mc G H
  q : StR S X m mc G H σL σ
def tE (f : SL → GH → Res LV) : TE := fun σ H Q => ∃ m mc G σL, Pre S X m mc G H σL σ ∧ Post S X W m mc H σL σ (f σL G) fun v m' _ _ H' => ∀ x, RV S m' H' v x → Q x H'
def tB (f : SL → GH → Res Bool) : TT := fun σ H Q => ∃ m mc G σL, Pre S X m mc G H σL σ ∧ Post S X W m mc H σL σ (f σL G) fun b _ _ _ H' => Q b H'
def tA (f : SL → GH → Res (List LV)) : TA := fun σ H Q => ∃ m mc G σL, Pre S X m mc G H σL σ ∧ Post S X W m mc H σL σ (f σL G) fun v m' _ _ H' => ∀ x, RVs S m' H' v x → Q x H'
end
section
variable {S : Stat} {X : Cx} {W : WX} {m mc : Mp} {G G' : GH} {H : Hp} {σL : SL} {σ : St}
theorem Post.imp {α : Type} {r : Res α} {k k' : α → Mp → Mp → GH → Hp → Prop} (h : Post S X W m mc H σL σ r k)
    (f : ∀ a m' mc' G' H', r = .ok a G' → Ext m m' → Ext mc mc' → Keep H H' → Pre S X m' mc' G' H' σL σ → k a m' mc' G' H' → k' a m' mc' G' H') : Post S X W m mc H σL σ r k' := by
  cases r with
  | ok a G' => exact fun m' mc' H' e1 e2 kp r q => f a m' mc' G' H' rfl e1 e2 kp ⟨r, q⟩ (h m' mc' H' e1 e2 kp r q)
  | exn n G' => exact h
  | stuck => exact h
theorem Post.bind {α β : Type} {r : Res α} {f : α → GH → Res β} {k : β → Mp → Mp → GH → Hp → Prop} (h : Post S X W m mc H σL σ (r.bind f) k) :
    Post S X W m mc H σL σ r fun a m' mc' G' H' => Pre S X m' mc' G' H' σL σ ∧ Ext m m' ∧ Ext mc mc' ∧ Keep H H' ∧ Post S X W m' mc' H' σL σ (f a G') k := by
  cases r with
  | ok a G' =>
    intro m' mc' H' e1 e2 kp r q
    refine ⟨⟨r, q⟩, e1, e2, kp, ?_⟩
    have h : Post S X W m mc H σL σ (f a G') k := h
    generalize f a G' = z at h
    cases z with
    | ok b G2 => exact fun m2 mc2 H2 d1 d2 kp2 r2 q2 => h m2 mc2 H2 (e1.trans d1) (e2.trans d2) (kp.trans kp2) r2 q2
    | exn n G2 => exact fun m2 mc2 H2 d1 d2 kp2 r2 q2 => h m2 mc2 H2 (e1.trans d1) (e2.trans d2) (kp.trans kp2) r2 q2
    | stuck => exact h
  | exn n G' => exact h
  | stuck => exact h
/-- nothing has changed -/
theorem Post.ok {α : Type} {a : α} {k : α → Mp → Mp → GH → Hp → Prop} (p : Pre S X m mc G H σL σ) (h : Post S X W m mc H σL σ (.ok a G) k) : k a m mc G H := h m mc H (Ext.refl m) (Ext.refl mc) (Keep.refl H) p.r p.q
end

/-! ### the address of what is new -/
def OKX (X : Cx) (H : Hp) : Prop := (∀ b, vis X b → H b = none) ∧ ∀ a o, X.K.lookup a = some o → H a = none
theorem okx {X : Cx} {pins : List (Addr × Obj)} {σ : St} {H : Hp} {s : Shared} (I : Inv X pins σ H s) : OKX X H :=
  ⟨fun b h => vis_none I h, fun a o e => (I.bs a o (I.ok.mod.kin a o e)).2⟩
theorem OKX.new {X : Cx} {H : Hp} {p : Addr} {o : HO} (h : OKX X (upd H p o)) : ¬ vis X p ∧ X.K.lookup p = none := by
  refine ⟨fun z => ?_, ?_⟩
  · have := h.1 p z
    rw [upd_same] at this
    cases this
  · cases e : X.K.lookup p with
    | none => rfl
    | some u =>
      have := h.2 p u e
      rw [upd_same] at this
      cases this
section
variable {X : Cx}
theorem PE.w {e : Expr} {t t' : TE} (h : PE X e t) (f : ∀ σ H Q, t' σ H Q → t σ H fun v H' => OKX X H' → Q v H') : PE X e t' :=
  ⟨fun pins s σ H Q I q => thn (h.run pins s σ H _ I (f σ H Q q)) fun u s' ⟨v, H', I', r, k⟩ => ⟨v, H', I', r, k (okx I')⟩⟩
theorem PT.w {e : Expr} {t t' : TT} (h : PT X e t) (f : ∀ σ H Q, t' σ H Q → t σ H fun v H' => OKX X H' → Q v H') : PT X e t' :=
  ⟨fun pins s σ H Q I q => thn (h.run pins s σ H _ I (f σ H Q q)) fun u s' ⟨H', I', k⟩ => ⟨H', I', k (okx I')⟩⟩
theorem PA.w {e : List Expr} {t t' : TA} (h : PA X e t) (f : ∀ σ H Q, t' σ H Q → t σ H fun v H' => OKX X H' → Q v H') : PA X e t' :=
  ⟨fun pos pins s σ H Q I q => thn (h.run pos pins s σ H _ I (f σ H Q q)) fun u s' ⟨v, H', I', r, k⟩ => ⟨v, H', I', r, k (okx I')⟩⟩
end

/-! ### calls -/
/-- the calls of C keep their word, in a room of d -/
structure Sound (S : Stat) (P : Program) (w : World) (mg : Str → Option Value) (base : Heap) (d : Nat) (C : CallT) : Prop where
  cs : ∀ k ns args G, (∀ v G', C k ns args G = .ok v G' → G'.cs = G.cs) ∧ ∀ n G', C k ns args G = .exn n G' → G'.cs = G.cs
  ok : ∀ k ns args G, C k ns args G ≠ .stuck → KScope (S.cs k) ∧ args.length = (S.cs k).ps.length
  run : ∀ (k : Nat) (ns : List Nat) (args : List LV) (G : GH) (A : Around) (outer : List Env) (s : Shared) (H : Hp) (f c : Addr) (cl : List (Str × Addr)) (od : Option Addr) (fd : FuncData) (slo : Array (Option Value)) (us : List Value) (vs : List V) (ar : Args) (m mc : Mp) (Q : VK) (E : XK),
    Room (d + 1) A → A.guards = some [] → Env0 P w S.K mg base A outer s H → s.heap.get? f = some ⟨.type "function", od, .func fd, slo⟩ → IsCode S k cl c fd → s.heap.CodeRec (.ref c) (S.cs k).qual →
    CapAt S mc G cl (S.cs k).fr ns → (∀ b n ov, capt cl b → mc n = some b → cLook n G.cs = some ov → H b = none ∧ base.get? b = none ∧ b ∉ frs outer ∧ ∃ o cv, s.heap.get? b = some o ∧ o.data = .cell cv ∧ ∀ v, ov = some v → ∃ u x, cv = some u ∧ RelV x u ∧ RV S m H v x) →
    BindsTo s fd ar ((S.cs k).ps.zip us) → Vals vs us → RVs S m H args vs → Rel S (capt cl) m mc G H →
    (match C k ns args G with
      | .ok v G' => ∀ m' mc' H' x, Ext m m' → Ext mc mc' → Keep H H' → RelO S m' mc' G' H' → RV S m' H' v x → Q x H'
      | .exn n G' => ∀ m' mc' H', Ext m m' → Ext mc mc' → Keep H H' → RelO S m' mc' G' H' → E (.ref (S.xa n)) none H'
      | .stuck => False) →
    codeAny (model P w) A (.call (.ref f) ar) (CR (CX P w) outer P w H s Q E) s

/-- a function of the module -/
def GloFn (S : Stat) (k : Nat) : Prop := ∃ od fd slo c, S.K.lookup (S.ga k) = some ⟨.type "function", od, .func fd, slo⟩ ∧ IsCode S k [] c fd ∧ PySem.W.codeIn S.K (.ref c) (S.cs k).qual = true ∧ (S.cs k).fr = []
structure Ctx (S : Stat) (X : Cx) (W : WX) (d : Nat) (C : CallT) : Prop where
  ok : CtxOk S X
  calm : X.calm = true
  tk : Takes X W
  own : PassesOwn (model X.prog X.w) X.A X.env X.xe
  room : Room (d + 1) X.A
  gd : X.A.guards = some []
  glo : ∀ k, S.gf k = true → GloFn S k
  tab : ∀ k c0, S.cc k = some c0 → ∃ P, LamX.TabB X.base X.mg c0 P ∧ (P, S.nm k) ∈ S.T ∧ ∀ p ∈ S.T, p.1 = P → p.2 = S.nm k
  sndA : ∀ F, Sound (S.wF F) X.prog X.w X.mg X.base d C
theorem Ctx.snd {S : Stat} {X : Cx} {W : WX} {d : Nat} {C : CallT} (T : Ctx S X W d C) : Sound S X.prog X.w X.mg X.base d C := T.sndA S.F
section
variable {S : Stat} {X : Cx} {W : WX} {d : Nat} {C : CallT} {m mc : Mp} {G : GH} {H : Hp} {σL : SL} {σ : St} {pins : List (Addr × Obj)} {s : Shared}
/-- a function's object is called -/
theorem call_fn (T : Ctx S X W d C) (I : Inv X pins σ H s) (p : Pre S X m mc G H σL σ) {k : Nat} {ns : List Nat} {args : List LV} {f c : Addr} {cl : List (Str × Addr)} {od : Option Addr} {fd : FuncData} {slo : Array (Option Value)} {us : List Value} {vs : List V}
    {kws : List (Str × Value)} {ar : List Value} {Q : VK} (ho : s.heap.get? f = some ⟨.type "function", od, .func fd, slo⟩) (ic : IsCode S k cl c fd) (hcr : s.heap.CodeRec (.ref c) (S.cs k).qual) (hc : CapAt S mc G cl (S.cs k).fr ns)
    (hb : BindsTo s fd ⟨ar, kws⟩ ((S.cs k).ps.zip us)) (r : Vals vs us) (ra : RVs S m H args vs) (h : Post S X W m mc H σL σ (C k ns args G) fun v m' _ _ H' => ∀ x, RV S m' H' v x → Q x H') :
    wpAny (model X.prog X.w) X.A (call (.ref f) ar kws) (EP X pins σ Q) X.xe s := by
  obtain ⟨RL, kt⟩ := Rel.lift p.r p.q I T.ok hc
  have CO := hc.ok p.r
  have e0 := lift_env0 (cl := cl) I T.ok CO
  rw [T.ok.k] at e0
  have vcell : ∀ b n ov, capt cl b → mc n = some b → cLook n G.cs = some ov → ∃ o cv, s.heap.get? b = some o ∧ o.data = .cell cv ∧ ∀ v, ov = some v → ∃ u x, cv = some u ∧ RelV x u ∧ RV S m H v x := fun b n ov hb hm hg => by
    by_cases hv : vis X b
    · exact vis_content I T.ok p.r p.q hv hm hg
    · obtain ⟨o, cv, e, dd, rr⟩ := (p.r.c.at_ hm hg).2 hv
      exact ⟨o, cv, objHO_at I.hok e, dd, rr⟩
  refine wpAny_call (codeAny_mono (T.snd.run k ns args G X.A X.stack s (hup X cl H s.heap) f c cl od fd slo us vs ⟨ar, kws⟩ m mc
    (fun x H' => ∃ v G' m' mc', C k ns args G = .ok v G' ∧ Ext m m' ∧ Ext mc mc' ∧ Keep (hup X cl H s.heap) H' ∧ RelO S m' mc' G' H' ∧ RV S m' H' v x)
    (fun cls dd H' => ∃ n G' m' mc', C k ns args G = .exn n G' ∧ cls = .ref (S.xa n) ∧ dd = none ∧ Ext m m' ∧ Ext mc mc' ∧ Keep (hup X cl H s.heap) H' ∧ RelO S m' mc' G' H')
    T.room T.gd e0 ho ic hcr hc (fun b n ov hb hm hg => ?_) hb r (RVs.mono (Ext.refl m) kt ra) RL ?_) fun rr s' hq => ?_)
  · obtain ⟨o, cv, e1, e2, e3⟩ := vcell b n ov hb hm hg
    refine ⟨hup_cap hb, ?_, ?_, o, cv, e1, e2, fun v hv => ?_⟩
    · rcases CO b hb with z | ⟨u, cu, z, _⟩
      · exact T.ok.nb b z
      · cases q : X.base.get? b with
        | none => rfl
        | some ob =>
          have := (I.bs b ob q).2
          rw [z] at this
          cases this
    · rcases CO b hb with z | ⟨u, cu, z, _⟩
      · exact T.ok.nf b z
      · exact fun hm' => by rw [I.stkFree b hm'] at z; cases z
    · obtain ⟨u, x, q1, q2, q3⟩ := e3 v hv
      exact ⟨u, x, q1, q2, RV.mono (Ext.refl m) kt q3⟩
  · cases e : C k ns args G with
    | ok v G' => exact fun m' mc' H' x e1 e2 kp R rv => ⟨v, G', m', mc', rfl, e1, e2, kp, R, rv⟩
    | exn n G' => exact fun m' mc' H' e1 e2 kp R => ⟨n, G', m', mc', rfl, rfl, rfl, e1, e2, kp, R⟩
    | stuck =>
      rw [e] at h
      exact h
  · cases rr with
    | error ex =>
      obtain ⟨a, B, H', cls, dd, rfl, fl, hok, ub, na, os, ag, n, G', m', mc', ec, rfl, rfl, e1, e2, kp, R⟩ := hq
      obtain ⟨ub', hok'⟩ := strip_ub I CO kp ub hok T.ok.nf
      have ncap : ∀ a, capt cl a → H' a = none := fun a ha => by
        obtain ⟨nn, ov, _, z1, z2⟩ := hc.at_ ha
        obtain ⟨o, cv, z3, _⟩ := vcell a nn ov ha z1 z2
        exact ub.free a o z3 (hup_cap ha)
      obtain ⟨R2, Q2, kp2, _⟩ := Rel.strip p.r p.q I T.ok hc R ((T.snd.cs k ns args G).2 n G' ec) e1 e2 kp hok ncap
      refine T.tk _ _ (XE.of_call (E := fun cls dd H2 => W cls dd σ H2) I (fun _ _ _ z => z) ⟨a, B, strip X cl H H', .ref (S.xa n), none, rfl, fl, hok', ub', ?_, os, ag, ?_⟩)
      · unfold strip
        split
        · rfl
        · split
          · rename_i hv hcc
            exfalso
            obtain ⟨nn, ov, _, z1, z2⟩ := hc.at_ hcc
            obtain ⟨o, cv, z3, _⟩ := vcell a nn ov hcc z1 z2
            have nfr : a ∉ frs X.stack := by
              rcases CO a hcc with z | ⟨u, cu, z, _⟩
              · exact absurd z hv
              · exact fun hm' => by rw [I.stkFree a hm'] at z; cases z
            have := ub.keep a o z3 (hup_cap hcc) nfr
            rw [fl.2.1] at this
            cases this
          · exact na
      · rw [ec] at h
        exact h m' mc' _ e1 e2 kp2 R2 Q2
    | ok fl =>
      cases fl with
      | next => exact False.elim hq
      | brk => exact False.elim hq
      | cont => exact False.elim hq
      | ret u =>
        obtain ⟨v, H', os, bare, un, hok, rv, w', G', m', mc', ec, e1, e2, kp, R, rw'⟩ := hq
        obtain ⟨un', hok'⟩ := strip_un I CO kp un hok
        have ncap : ∀ a, capt cl a → H' a = none := fun a ha => by
          obtain ⟨nn, ov, _, z1, z2⟩ := hc.at_ ha
          obtain ⟨o, cv, z3, _⟩ := vcell a nn ov ha z1 z2
          exact un.free a o z3 (hup_cap ha) (by simp)
        obtain ⟨R2, Q2, kp2, kt2⟩ := Rel.strip p.r p.q I T.ok hc R ((T.snd.cs k ns args G).1 w' G' ec) e1 e2 kp hok ncap
        rw [ec] at h
        exact ⟨v, strip X cl H H', I.call' (ch := []) os un' hok' bare (fun _ z => nomatch z), rv, h m' mc' _ e1 e2 kp2 R2 Q2 v (RV.mono (Ext.refl m') kt2 rw')⟩
end
end MP
namespace MP
open PySem L2
open PyProof.Rows hiding St

section
variable (S : Stat) (X : Cx) (W : WX)
def tS (f : SL → GH → Res (Fl × SL)) : TS := fun D σ H => ∃ m mc G σL, Pre S X m mc G H σL σ ∧ match f σL G with
  | .ok (fl, σL') G' => ∀ m' mc' H' σ', Ext m m' → Ext mc mc' → Keep H H' → Rel S (vis X) m' mc' G' H' → StR S X m' mc' G' H' σL' σ' → (match fl with
    | .nx => D.nx σ' H'
    | .rt v => ∀ x, RV S m' H' v x → D.rt x H'
    | .bk => D.bk σ' H'
    | .ct => D.ct σ' H')
  | .exn n G' => ∀ m' mc' H' σ', Ext m m' → Ext mc mc' → Keep H H' → Rel S (vis X) m' mc' G' H' → W (.ref (S.xa n)) none σ' H'
  | .stuck => False
end

theorem choose_list {α β : Type} {P : α → β → Prop} : ∀ (l : List α), (∀ a ∈ l, ∃ o, P a o) → ∃ ws : List β, ws.length = l.length ∧ ∀ (i : Nat) a, l[i]? = some a → ∃ o, ws[i]? = some o ∧ P a o
  | [], _ => ⟨[], rfl, fun i a h => by simp at h⟩
  | x :: l, h => by
    obtain ⟨o, ho⟩ := h x List.mem_cons_self
    obtain ⟨ws, e, hw⟩ := choose_list l fun a ha => h a (List.mem_cons_of_mem _ ha)
    refine ⟨o :: ws, by simp [e], fun i a hi => ?_⟩
    cases i with
    | zero =>
      simp at hi
      subst hi
      exact ⟨o, rfl, ho⟩
    | succ i =>
      simp at hi
      simpa using hw i a hi

theorem cLook_cons {n k : Nat} {v : Option LV} {r : List (Nat × Option LV)} : cLook n ((k, v) :: r) = if n = k then some v else cLook n r := rfl
theorem RO.mc {S : Stat} {m mc mc' : Mp} {H : Hp} {a : Addr} {o : GO} (e : Ext mc mc') (h : RO S m mc H a o) : RO S m mc' H a o := by
  cases o with
  | lst xs => exact h
  | fro xs => exact h
  | dic xs => exact h
  | set xs => exact h
  | clo k ns =>
    obtain ⟨od, sl, fd, cl, c', e1, e2, e3, e4⟩ := h
    exact ⟨od, sl, fd, cl, c', e1, e2, e3, e4.mono e⟩
  | exc k => exact h
/-- a cell is made: only the cells grow -/
theorem Rel.newCell {S : Stat} {v : Addr → Prop} {m mc : Mp} {G : GH} {H : Hp} (R : Rel S v m mc G H) {c : Addr} {ov : Option LV} (hv : v c) (hn : H c = none) (hd : ∀ n o a, cLook n G.cs = some o → mc n = some a → a ≠ c) :
    Rel S v m (mc.ins G.cn c) ⟨G.size, G.t, G.cn + 1, (G.cn, ov) :: G.cs⟩ H ∧ Ext mc (mc.ins G.cn c) := by
  have ec : Ext mc (mc.ins G.cn c) := Mp.ins_ext R.o.cfree
  have old : ∀ n o, cLook n G.cs = some o → n ≠ G.cn := fun n o e z => by
    obtain ⟨a, h, _⟩ := R.c.cell n o e
    rw [z, R.o.cfree] at h
    cases h
  refine ⟨⟨⟨fun n o e => ?_, R.o.inj, R.o.dom, R.o.siz, R.o.tab, fun n a e => ?_, R.o.frz, R.o.frm⟩, ⟨fun n o e => ?_, fun n n' o o' a e1 e2 h1 h2 => ?_⟩⟩, ec⟩
  · obtain ⟨a, h1, h2⟩ := R.o.obj n o e
    exact ⟨a, h1, RO.mc ec h2⟩
  · show n < G.cn + 1
    by_cases h : n = G.cn
    · omega
    · rw [Mp.ins_ne h] at e
      exact Nat.lt_succ_of_lt (R.o.cdom n a e)
  · have e : cLook n ((G.cn, ov) :: G.cs) = some o := e
    rw [cLook_cons] at e
    by_cases h : n = G.cn
    · rw [h]
      exact ⟨c, Mp.ins_same, trivial, fun z => absurd hv z⟩
    · rw [if_neg h] at e
      obtain ⟨a, h1, h2, h3⟩ := R.c.cell n o e
      exact ⟨a, by rw [Mp.ins_ne h]; exact h1, h2, h3⟩
  · have e1 : cLook n ((G.cn, ov) :: G.cs) = some o := e1
    have e2 : cLook n' ((G.cn, ov) :: G.cs) = some o' := e2
    rw [cLook_cons] at e1 e2
    by_cases h : n = G.cn
    · by_cases h' : n' = G.cn
      · rw [h, h']
      · rw [if_neg h'] at e2
        rw [Mp.ins_ne h'] at h2
        rw [h, Mp.ins_same] at h1
        cases h1
        exact absurd rfl (hd n' o' c e2 h2)
    · rw [if_neg h] at e1
      rw [Mp.ins_ne h] at h1
      by_cases h' : n' = G.cn
      · rw [h', Mp.ins_same] at h2
        cases h2
        exact absurd rfl (hd n o c e1 h1)
      · rw [if_neg h'] at e2
        rw [Mp.ins_ne h'] at h2
        exact R.c.cinj n n' o o' a e1 e2 h1 h2
end MP
namespace MP
open PySem L2
open PyProof.Rows hiding St

/-- the slots while the own cells are being made: those of rem are not yet -/
structure Mk (S : Stat) (X : Cx) (m mc : Mp) (G : GH) (H : Hp) (σ : St) (rem : List Nat) (σL : SL) : Prop where
  r : Rel S (vis X) m mc G H
  len : σL.length = X.N.length
  sl : ∀ (i : Nat) (x : Str), X.N[i]? = some x → (X.env.scope.names.lookup x = some .cell ∧ i ∈ rem ∧ ∀ v, σL[i]? = some (some v) → ∃ u, σ[i]? = some (some u) ∧ RV S m H v u) ∨ SR S X m mc G H i x σL σ
  far : ∀ (i : Nat) (x : Str) c, i ∈ rem → X.N[i]? = some x → X.env.cells.lookup x = some c → ∀ n o a, cLook n G.cs = some o → mc n = some a → a ≠ c
theorem slot_get {σ : SL} {i : Nat} {v : LV} : slot σ i = some v ↔ σ[i]? = some (some v) := by
  unfold slot
  constructor
  · intro h
    split at h
    · rename_i w e
      cases h
      exact e
    · cases h
  · intro h
    rw [h]
theorem SR.loc {S : Stat} {X : Cx} {m mc : Mp} {G : GH} {H : Hp} {i : Nat} {x : Str} {σL : SL} {σ : St} (k : X.env.scope.names.lookup x = some .local) : SR S X m mc G H i x σL σ ↔ ∀ v, σL[i]? = some (some v) → ∃ u, σ[i]? = some (some u) ∧ RV S m H v u := by
  unfold SR
  rw [k]
theorem SR.cel {S : Stat} {X : Cx} {m mc : Mp} {G : GH} {H : Hp} {i : Nat} {x : Str} {σL : SL} {σ : St} (k : X.env.scope.names.lookup x = some .cell ∨ X.env.scope.names.lookup x = some .free) : SR S X m mc G H i x σL σ ↔ ∃ n, σL[i]? = some (some (.loc n)) ∧ (∃ c, mc n = some c ∧ X.env.cells.lookup x = some c) ∧ ∃ ov, cLook n G.cs = some ov ∧ ∀ v, ov = some v → ∃ u, σ[i]? = some (some u) ∧ RV S m H v u := by
  unfold SR
  rcases k with k | k <;> rw [k]
theorem SR.other {S : Stat} {X : Cx} {m mc : Mp} {G : GH} {H : Hp} {i : Nat} {x : Str} {σL : SL} {σ : St} (h1 : X.env.scope.names.lookup x ≠ some .local) (h2 : X.env.scope.names.lookup x ≠ some .cell) (h3 : X.env.scope.names.lookup x ≠ some .free) : SR S X m mc G H i x σL σ := by
  unfold SR
  split
  · rename_i e; exact absurd e h1
  · rename_i e; exact absurd e h2
  · rename_i e; exact absurd e h3
  · trivial
theorem SR.grow {S : Stat} {X : Cx} {m mc : Mp} {G : GH} {H : Hp} {i : Nat} {x : Str} {σL σL' : SL} {σ : St} {c : Addr} {ov : Option LV} (R : RelO S m mc G H) (h : SR S X m mc G H i x σL σ) (e : σL'[i]? = σL[i]?) :
    SR S X m (mc.ins G.cn c) ⟨G.size, G.t, G.cn + 1, (G.cn, ov) :: G.cs⟩ H i x σL' σ := by
  unfold SR at h ⊢
  rw [e]
  have cellCase : (∃ n, σL[i]? = some (some (.loc n)) ∧ (∃ c, mc n = some c ∧ X.env.cells.lookup x = some c) ∧ ∃ ov, cLook n G.cs = some ov ∧ ∀ v, ov = some v → ∃ u, σ[i]? = some (some u) ∧ RV S m H v u) →
      ∃ n, σL[i]? = some (some (.loc n)) ∧ (∃ c', (mc.ins G.cn c) n = some c' ∧ X.env.cells.lookup x = some c') ∧ ∃ ov', cLook n ((G.cn, ov) :: G.cs) = some ov' ∧ ∀ v, ov' = some v → ∃ u, σ[i]? = some (some u) ∧ RV S m H v u := fun ⟨n, h1, ⟨d, h2, h2'⟩, ov', h3, h4⟩ => by
    have hn : n ≠ G.cn := fun z => by
      rw [z, R.cfree] at h2
      cases h2
    refine ⟨n, h1, ⟨d, by rw [Mp.ins_ne hn]; exact h2, h2'⟩, ov', ?_, h4⟩
    rw [cLook_cons, if_neg hn]
    exact h3
  split at h
  · exact h
  · exact cellCase h
  · exact cellCase h
  · trivial
theorem mkCells_ok {S : Stat} {X : Cx} {m : Mp} {H : Hp} {σ : St} (hN : X.N.Nodup) (inj : ∀ x y c, X.env.cells.lookup x = some c → X.env.cells.lookup y = some c → x = y) (has : ∀ x, X.env.scope.names.lookup x = some .cell → ∃ c, X.env.cells.lookup x = some c) (nov : ∀ b, vis X b → H b = none) :
    ∀ (rem : List Nat) (mc : Mp) (G : GH) (σL : SL), rem.Nodup → (∀ i ∈ rem, ∃ x, X.N[i]? = some x ∧ X.env.scope.names.lookup x = some .cell) → Mk S X m mc G H σ rem σL →
      ∃ mc', Ext mc mc' ∧ Rel S (vis X) m mc' (mkCells rem σL G).2 H ∧ StR S X m mc' (mkCells rem σL G).2 H (mkCells rem σL G).1 σ
  | [], mc, G, σL, _, _, M => ⟨mc, Ext.refl mc, M.r, M.len, fun i x hi => (M.sl i x hi).elim (fun z => nomatch z.2.1) id⟩
  | i :: rem, mc, G, σL, nd, hk, M => by
    obtain ⟨x, hx, kx⟩ := hk i List.mem_cons_self
    obtain ⟨c, hc⟩ := has x kx
    have hv : vis X c := ⟨x, hc⟩
    obtain ⟨R2, ec⟩ := Rel.newCell (ov := slot σL i) M.r hv (nov c hv) (M.far i x c List.mem_cons_self hx hc)
    obtain ⟨ni, nd'⟩ := List.nodup_cons.mp nd
    have hil : i < σL.length := by rw [M.len]; exact (List.getElem?_eq_some_iff.mp hx).1
    have M2 : Mk S X m (mc.ins G.cn c) ⟨G.size, G.t, G.cn + 1, (G.cn, slot σL i) :: G.cs⟩ H σ rem (σL.set i (some (.loc G.cn))) := by
     refine ⟨R2, by rw [List.length_set]; exact M.len, fun j y hj => ?_, fun j y d hj hy hd n o a h1 h2 => ?_⟩
     · by_cases h : j = i
       · rw [h] at hj ⊢
         rw [hx] at hj
         cases hj
         right
         have pre : ∀ v, σL[i]? = some (some v) → ∃ u, σ[i]? = some (some u) ∧ RV S m H v u := by
           rcases M.sl i x hx with z | z
           · exact z.2.2
           · unfold SR at z
             rw [kx] at z
             obtain ⟨n, h1, ⟨c', h2, h3⟩, ov, h4, _⟩ := z
             rw [hc] at h3
             cases h3
             exact absurd rfl (M.far i x c List.mem_cons_self hx hc n ov c h4 h2)
         unfold SR
         rw [kx]
         refine ⟨G.cn, by rw [List.getElem?_set_self hil], ⟨c, Mp.ins_same, hc⟩, slot σL i, by rw [cLook_cons, if_pos rfl], fun v hv' => pre v (slot_get.mp hv')⟩
       · rcases M.sl j y hj with ⟨z1, z2, z3⟩ | z
         · left
           refine ⟨z1, (List.mem_cons.mp z2).resolve_left h, fun v e => z3 v ?_⟩
           rw [List.getElem?_set_ne (Ne.symm h)] at e
           exact e
         · exact .inr (SR.grow M.r.o z (List.getElem?_set_ne (Ne.symm h)))
     · have h1 : cLook n ((G.cn, slot σL i) :: G.cs) = some o := h1
       rw [cLook_cons] at h1
       by_cases h : n = G.cn
       · rw [h, Mp.ins_same] at h2
         cases h2
         rintro rfl
         have := inj x y c hc hd
         subst this
         exact ni (by rw [nodup_ix hN hx hy]; exact hj)
       · rw [if_neg h] at h1
         rw [Mp.ins_ne h] at h2
         exact M.far j y d (List.mem_cons_of_mem _ hj) hy hd n o a h1 h2
    obtain ⟨mc', e1, R3, Q3⟩ := mkCells_ok hN inj has nov rem (mc.ins G.cn c) ⟨G.size, G.t, G.cn + 1, (G.cn, slot σL i) :: G.cs⟩ (σL.set i (some (.loc G.cn))) nd' (fun j hj => hk j (List.mem_cons_of_mem _ hj)) M2
    exact ⟨mc', ec.trans e1, R3, Q3⟩

section
variable {S : Stat} {P : Program} {w : World} {mg : Str → Option Value} {base : Heap} {C : CodeA} {cl : List (Str × Addr)} {f c : Addr} {A : Around} {outer : List Env} {s : Shared} {H : Hp} {E : XK}
/-- what the captured cells hold -/
theorem capK_of {m mc : Mp} {G : GH} {ns : List Nat} (hc : CapAt S mc G cl C.fr ns) (vc : ∀ b n ov, capt cl b → mc n = some b → cLook n G.cs = some ov → H b = none ∧ ∃ o cv, s.heap.get? b = some o ∧ o.data = .cell cv ∧ ∀ v, ov = some v → ∃ u x, cv = some u ∧ RelV x u ∧ RV S m H v x) :
    ∃ ws, CapK cl C.fr ws s.heap H ∧ ∀ (i : Nat) n ov v, ns[i]? = some n → cLook n G.cs = some ov → ov = some v → ∃ u, ws[i]? = some (some u) ∧ RV S m H v u := by
  obtain ⟨ws, hl, hw⟩ := choose_list (P := fun (p : Str × Nat) (o : Option V) => ∀ b, cl.lookup p.1 = some b → mc p.2 = some b → (∀ v, o = some v → ∃ u, RelV v u ∧ s.heap.IsCell b (some u)) ∧ ∀ ov v, cLook p.2 G.cs = some ov → ov = some v → ∃ u, o = some u ∧ RV S m H v u) (C.fr.zip ns) (fun p hp => by
    obtain ⟨i, hi⟩ := List.mem_iff_getElem?.mp hp
    rw [List.getElem?_zip_eq_some] at hi
    obtain ⟨h1, h2⟩ := hi
    obtain ⟨ov, ho⟩ := hc.cel p.2 (List.mem_of_getElem? h2)
    obtain ⟨b, hb, hm⟩ := hc.caps.to i p.1 p.2 h1 h2
    obtain ⟨_, o, cv, e1, e2, e3⟩ := vc b p.2 ov ⟨p.1, hb⟩ hm ho
    cases ov with
    | none =>
      refine ⟨none, fun b' _ _ => ⟨fun v z => (nomatch z), fun ov v z1 z2 => ?_⟩⟩
      rw [ho] at z1
      cases z1
      cases z2
    | some v =>
      obtain ⟨u, x, q1, q2, q3⟩ := e3 v rfl
      refine ⟨some x, fun b' hb' _ => ⟨fun v' z => ?_, fun ov v' z1 z2 => ?_⟩⟩
      · cases z
        rw [hb] at hb'
        cases hb'
        exact ⟨u, q2, o, e1, by rw [e2, q1]⟩
      · rw [ho] at z1
        cases z1
        cases z2
        exact ⟨x, rfl, q3⟩)
  have lz : (C.fr.zip ns).length = C.fr.length := by rw [List.length_zip, hc.caps.len, Nat.min_self]
  refine ⟨ws, ⟨hl.trans lz, hc.caps.uni, fun y b e => ?_, fun x y b => hc.caps.inj x y b, fun i y hi => ?_⟩, fun i n ov v hn ho hv => ?_⟩
  · obtain ⟨n, ov, _, h1, h2⟩ := hc.at_ ⟨y, e⟩
    obtain ⟨z, o, cv, e1, e2, _⟩ := vc b n ov ⟨y, e⟩ h1 h2
    exact ⟨hc.caps.only y b e, z, cv, o, e1, e2⟩
  · obtain ⟨hlt, _⟩ := List.getElem?_eq_some_iff.mp hi
    have hn : ns[i]? = some (ns[i]'(by rw [hc.caps.len]; exact hlt)) := List.getElem?_eq_getElem _
    obtain ⟨b, hb, hm⟩ := hc.caps.to i y _ hi hn
    refine ⟨b, hb, fun v hv => ?_⟩
    obtain ⟨o, ho, hp⟩ := hw i (y, ns[i]'(by rw [hc.caps.len]; exact hlt)) (by rw [List.getElem?_zip_eq_some]; exact ⟨hi, hn⟩)
    rw [hv] at ho
    cases ho
    exact (hp b hb hm).1 v rfl
  · obtain ⟨hlt, _⟩ := List.getElem?_eq_some_iff.mp hn
    have hy : C.fr[i]? = some (C.fr[i]'(by rw [← hc.caps.len]; exact hlt)) := List.getElem?_eq_getElem _
    obtain ⟨b, hb, hm⟩ := hc.caps.to i _ n hy hn
    obtain ⟨o, ho', hp⟩ := hw i (C.fr[i]'(by rw [← hc.caps.len]; exact hlt), n) (by rw [List.getElem?_zip_eq_some]; exact ⟨hy, hn⟩)
    obtain ⟨u, rfl, q⟩ := (hp b hb hm).2 ov v ho hv
    exact ⟨u, ho', q⟩

/-- what is checked of a code -/
structure CodeOk (C : CodeA) (cd : Code) : Prop where
  sc : KScope C
  np : cd.np = C.ps.length
  nc : cd.nc = C.fr.length
  ns : cd.ns = C.N.length
  cnd : cd.cells.Nodup
  cel : ∀ i ∈ cd.cells, ∃ x, C.N[i]? = some x ∧ C.scope.names.lookup x = some .cell
  all : ∀ i x, C.N[i]? = some x → C.scope.names.lookup x = some .cell → i ∈ cd.cells
/-- a code's slots, at its entry -/
theorem mk_entry {cd : Code} {m mc : Mp} {G : GH} {ns : List Nat} {args : List LV} {vs : List V} {ws : List (Option V)} (K : CodeOk C cd) (hk : CapK cl C.fr ws s.heap H) (hok : HOk P w H s.heap) (ha : args.length = cd.np) (hc : CapAt S mc G cl C.fr ns) (R : Rel S (capt cl) m mc G H) (ra : RVs S m H args vs)
    (vc : ∀ b n ov, capt cl b → mc n = some b → cLook n G.cs = some ov → ∃ o, s.heap.get? b = some o) (hw : ∀ (i : Nat) n ov v, ns[i]? = some n → cLook n G.cs = some ov → ov = some v → ∃ u, ws[i]? = some (some u) ∧ RV S m H v u) :
    Mk S (kcx P w S.K mg base C cl f c A outer s H E) m mc G H (vs.map some ++ (ws ++ List.replicate (C.N.length - C.ps.length - ws.length) none)) cd.cells (args.map some ++ (ns.map (fun n => some (.loc n)) ++ List.replicate (cd.ns - cd.np - cd.nc) none)) := by
  have visC : ∀ b, capt cl b → vis (kcx P w S.K mg base C cl f c A outer s H E) b := fun b ⟨y, e⟩ => ⟨y, cellK_cl K.sc hk e⟩
  have liveLt : ∀ n o a, cLook n G.cs = some o → mc n = some a → a < s.heap.objs.size := fun n o a h1 h2 => by
    by_cases z : capt cl a
    · obtain ⟨ob, e⟩ := vc a n o z h2 h1
      exact Heap.lt_size e
    · obtain ⟨ob, cv, e, _⟩ := (R.c.at_ h2 h1).2 z
      exact Heap.lt_size (objHO_at hok e)
  have la : args.length = vs.length := ra.length
  have lps : args.length = C.ps.length := ha.trans K.np
  have lns : ns.length = C.fr.length := hc.caps.len
  have lw : ws.length = C.fr.length := hk.len
  have ll := K.sc.len
  refine ⟨⟨R.o, ⟨fun n ov e => ?_, R.c.cinj⟩⟩, ?_, fun i x hi => ?_, fun i x d hi hx hd n o a h1 h2 z => ?_⟩
  · obtain ⟨a, h1, h2, h3⟩ := R.c.cell n ov e
    exact ⟨a, h1, trivial, fun hn => h3 fun z => hn (visC a z)⟩
  · show _ = C.N.length
    simp only [List.length_append, List.length_map, List.length_replicate, K.ns, K.np, K.nc]
    omega
  · have hi : C.N[i]? = some x := hi
    -- below the parameters
    have pre : i < args.length + ns.length → (C.ps ++ C.fr)[i]? = some x := fun z => K.sc.low hi (by omega)
    have loc : ∀ v, (args.map some ++ (ns.map (fun n => some (LV.loc n)) ++ List.replicate (cd.ns - cd.np - cd.nc) none))[i]? = some (some v) → C.scope.names.lookup x ≠ some .free → ∃ u, (vs.map some ++ (ws ++ List.replicate (C.N.length - C.ps.length - ws.length) none))[i]? = some (some u) ∧ RV S m H v u := fun v e nf => by
      by_cases z : i < args.length
      · rw [List.getElem?_append_left (by simpa using z), List.getElem?_map] at e
        obtain ⟨u, hu, ru⟩ := ra.get (x := v) (i := i) (by
          cases q : args[i]? with
          | none => rw [q] at e; cases e
          | some y => rw [q] at e; simpa using e)
        refine ⟨u, ?_, ru⟩
        rw [List.getElem?_append_left (by simpa using (by omega : i < vs.length)), List.getElem?_map, hu]
        rfl
      · rw [List.getElem?_append_right (by simpa using z), List.length_map] at e
        by_cases z2 : i < args.length + ns.length
        · exfalso
          have q := pre z2
          rw [List.getElem?_append_right (by omega)] at q
          exact nf (K.sc.frk x (List.mem_of_getElem? q))
        · rw [List.getElem?_append_right (by simp; omega), List.getElem?_replicate] at e
          split at e <;> cases e
    have lk : (kcx P w S.K mg base C cl f c A outer s H E).env.scope.names.lookup x = C.scope.names.lookup x := rfl
    cases hl : C.scope.names.lookup x with
    | none => exact .inr (SR.other (by rw [lk, hl]; decide) (by rw [lk, hl]; decide) (by rw [lk, hl]; decide))
    | some kd =>
      cases kd with
      | «local» => exact .inr ((SR.loc (lk.trans hl)).mpr fun v e => loc v e (by rw [hl]; decide))
      | cell => exact .inl ⟨hl, K.all i x hi hl, fun v e => loc v e (by rw [hl]; decide)⟩
      | free =>
        right
        refine (SR.cel (.inr (lk.trans hl))).mpr ?_
        obtain ⟨j, hj⟩ := List.mem_iff_getElem?.mp (K.sc.free _ (PySem.mem_of_lookup hl) rfl)
        have ei : i = C.ps.length + j := nodup_ix K.sc.nd hi (K.sc.at_fr hj)
        obtain ⟨hlt, _⟩ := List.getElem?_eq_some_iff.mp hj
        have hn : ns[j]? = some (ns[j]'(by omega)) := List.getElem?_eq_getElem _
        obtain ⟨d, hd, hm⟩ := hc.caps.to j x _ hj hn
        obtain ⟨ov, ho⟩ := hc.cel _ (List.mem_of_getElem? hn)
        refine ⟨ns[j]'(by omega), ?_, ⟨d, hm, cellK_cl K.sc hk hd⟩, ov, ho, fun v hv => ?_⟩
        · rw [List.getElem?_append_right (by rw [List.length_map]; omega), List.getElem?_append_left (by simp; omega), List.getElem?_map, List.length_map, show i - args.length = j by omega, hn]
          rfl
        · obtain ⟨u, hu, ru⟩ := hw j _ ov v hn ho hv
          refine ⟨u, ?_, ru⟩
          have hjw : j < ws.length := by omega
          rw [List.getElem?_append_right (by rw [List.length_map]; omega), List.getElem?_append_left (by rw [List.length_map]; omega), List.length_map, show i - vs.length = j by omega, hu]
      | _ => exact .inr (SR.other (by rw [lk, hl]; decide) (by rw [lk, hl]; decide) (by rw [lk, hl]; decide))
  · subst z
    have lt := liveLt n o a h1 h2
    obtain ⟨y, hy, ky⟩ := K.cel i hi
    have hx : C.N[i]? = some x := hx
    rw [hx] at hy
    cases hy
    rcases cellK hk hd with ⟨z, _⟩ | ⟨_, z, _⟩
    · have := K.sc.frk x (hk.all x a z).1
      rw [ky] at this
      cases this
    · exact Nat.lt_irrefl _ (Nat.lt_trans lt z)
end
end MP
namespace MP
open PySem L2
open PyProof.Rows hiding St

/-! ### results -/
abbrev kE (S : Stat) (Q : VK) : LV → Mp → Mp → GH → Hp → Prop := fun v m' _ _ H' => ∀ x, RV S m' H' v x → Q x H'
section
variable {S : Stat} {X : Cx} {W : WX} {m mc : Mp} {G : GH} {H : Hp} {σL : SL} {σ : St}
theorem Post.ofO {α : Type} {o : Option α} {k : α → Mp → Mp → GH → Hp → Prop} (p : Pre S X m mc G H σL σ) (h : Post S X W m mc H σL σ (MP.ofO o G) k) : ∃ a, o = some a ∧ k a m mc G H := by
  cases o with
  | none => exact h.elim
  | some a => exact ⟨a, rfl, Post.ok p h⟩
theorem Post.isok {r : Res LV} {k : LV → Mp → Mp → GH → Hp → Prop} {v : LV} (p : Pre S X m mc G H σL σ) (h : Post S X W m mc H σL σ r k) (e : r = .ok v G) : k v m mc G H := by
  subst e
  exact Post.ok p h
theorem RO.not (h : ∀ n, G.t.get n = none → True) : True := trivial
/-- a cell-less new object that the plain heap doesn't know (a tuple) -/
theorem Rel.lay {b : Addr} {o : HO} (R : Rel S (vis X) m mc G H) (hK : X.K = S.K) (hn : H b = none) : Rel S (vis X) m mc G (upd H b o) ∧ Keep H (upd H b o) := by
  have off : ∀ a, a ≠ b → upd H b o a = H a := fun a ha => upd_ne ha
  have sf : Soft (H b) := by rw [hn]; trivial
  refine ⟨⟨⟨fun n u e => ?_, R.o.inj, R.o.dom, R.o.siz, tabs_off off sf R.o.tab, R.o.cdom, fun a u e => ?_, R.o.frm⟩, R.c.off (Ext.refl m) off sf rfl⟩, keep_off off sf⟩
  · obtain ⟨a, h1, h2⟩ := R.o.obj n u e
    exact ⟨a, h1, RO.off off sf (Ext.refl m) (Ext.refl mc) (RO.ne hn h2) h2⟩
  · obtain ⟨e1, e2⟩ := R.o.frz a u e
    exact ⟨(off a (ne_of_none e1 hn)).trans e1, e2⟩
/-- the result is a tuple laid at b -/
theorem Post.tup {vs : List V} {xs : List LV} {Q : VK} {b : Addr} {o : Obj} (p : Pre S X m mc G H σL σ) (hK : X.K = S.K) (h : Post S X W m mc H σL σ (.ok (.tup xs) G) (kE S Q)) (hn : H b = none) (hd : o.dict = none) (ra : RVs S m H xs vs) (ok : OKX X (upd H b (.frz o (.tup vs)))) : Q (.ref b) (upd H b (.frz o (.tup vs))) := by
  obtain ⟨hv, hk⟩ := ok.new
  obtain ⟨R, kp⟩ := Rel.lay (o := .frz o (.tup vs)) p.r hK hn
  exact h m mc _ (Ext.refl m) (Ext.refl mc) kp R (p.q.mono (Ext.refl m) (Ext.refl mc) kp.t rfl) (.ref b) ⟨b, vs, o, rfl, ⟨upd_same, hd⟩, RVs.mono (Ext.refl m) kp.t ra⟩
/-- a tuple's object -/
abbrev tupO (us : List Value) : Obj := { cls := .type "tuple", data := .seq us.toArray }
/-- .. just pushed -/
theorem Post.push {vs : List V} {xs : List LV} {us : List Value} {Q : VK} {pins : List (Addr × Obj)} {s : Shared} {tk : Nat} (I : Inv X pins σ H s) (p : Pre S X m mc G H σL σ) (hK : X.K = S.K) (h : Post S X W m mc H σL σ (.ok (.tup xs) G) (kE S Q)) (r : Vals vs us) (ra : RVs S m H xs vs) (hz : vs.length ≤ sizeLine) :
    EP X pins σ Q (.ref s.heap.objs.size) { s with heap := s.heap.push (tupO us), toks := tk } := by
  have I2 : Inv X pins σ (upd H s.heap.objs.size (.frz (tupO us) (.tup vs))) { s with heap := s.heap.push (tupO us), toks := tk } :=
    I.laid (fun b u e => Heap.get?_push_of_some _ e) (Nat.le_refl _) ⟨Heap.get?_push_size _ rfl, hz, us, r, ⟨_, Heap.get?_push_size _ rfl, rfl, _, rfl⟩⟩
  exact ⟨.ref s.heap.objs.size, _, I2, rfl, Post.tup p hK h (I.hok.fresh (Nat.le_refl _)) rfl ra (okx I2)⟩
/-- .. a new object at b -/
theorem Post.new {go : GO} {o : HO} {Q : VK} {b : Addr} (p : Pre S X m mc G H σL σ) (hK : X.K = S.K) (h : Post S X W m mc H σL σ (alloc go G) (kE S Q)) (hn : H b = none) (ok : OKX X (upd H b o)) (ro : ∀ m', Ext m m' → KeepT H (upd H b o) → RO S m' mc (upd H b o) b go) : Q (.ref b) (upd H b o) := by
  obtain ⟨hv, hk⟩ := ok.new
  have off : ∀ a, a ≠ b → upd H b o a = H a := fun a ha => upd_ne ha
  have sf : Soft (H b) := by rw [hn]; trivial
  cases e : alloc go G with
  | ok v G' =>
    rw [e] at h
    obtain ⟨R, em, kp, rv⟩ := Rel.new p.r e hn off (ro _ (Mp.ins_ext p.r.o.free) (keep_off off sf).t)
    obtain ⟨_, _, _, _, hcs⟩ := alloc_ok e
    exact h _ mc _ em (Ext.refl mc) kp R (p.q.mono em (Ext.refl mc) kp.t hcs) (.ref b) rv
  | exn k G' => exact (alloc_exn e).elim
  | stuck => rw [e] at h; exact h.elim
/-- .. an object written at b -/
theorem Post.wr {go : GO} {o : HO} {n : Nat} {b : Addr} {k : Unit → Mp → Mp → GH → Hp → Prop} (p : Pre S X m mc G H σL σ) (h : Post S X W m mc H σL σ (store n go G) k) (hm : m n = some b) (hv : ¬ vis X b) (sf : Soft (H b)) (ro : KeepT H (upd H b o) → RO S m mc (upd H b o) b go) :
    ∃ G', Pre S X m mc G' (upd H b o) σL σ ∧ Keep H (upd H b o) ∧ k () m mc G' (upd H b o) := by
  have off : ∀ a, a ≠ b → upd H b o a = H a := fun a ha => upd_ne ha
  cases e : store n go G with
  | ok v G' =>
    rw [e] at h
    obtain ⟨R, kp⟩ := Rel.wr p.r e hm sf off (ro (keep_off off sf).t)
    obtain ⟨_, _, _, hcs⟩ := store_ok' e
    have q := p.q.mono (Ext.refl m) (Ext.refl mc) kp.t hcs
    exact ⟨G', ⟨R, q⟩, kp, h m mc _ (Ext.refl m) (Ext.refl mc) kp R q⟩
  | exn k G' => exact (store_exn e).elim
  | stuck => rw [e] at h; exact h.elim
end

/-! ### reading data -/
section
variable {S : Stat} {m mc : Mp} {G : GH} {H : Hp} {v : Addr → Prop}
theorem Rel.lst (R : Rel S v m mc G H) {n : Nat} {xs : List LV} {x : V} (e : G.t.get n = some (.lst xs)) (r : RV S m H (.loc n) x) : ∃ a vs, x = .ref a ∧ m n = some a ∧ H a = some (.lst vs) ∧ RVs S m H xs vs := by
  obtain ⟨a, rfl, hm⟩ := r
  obtain ⟨b, hb, vs, h1, h2⟩ := R.o.obj n _ e
  rw [hm] at hb
  cases hb
  exact ⟨a, vs, rfl, hm, h1, h2⟩
theorem Rel.seq (R : Rel S v m mc G H) {n : Nat} {xs : List LV} {x : V} (e : listAt G n = some xs) (r : RV S m H (.loc n) x) : ∃ a vs, x = .ref a ∧ SqL S.K H a vs ∧ RVs S m H xs vs := by
  obtain ⟨a, rfl, hm⟩ := r
  unfold listAt at e
  cases q : G.t.get n with
  | none => rw [q] at e; cases e
  | some o =>
    rw [q] at e
    obtain ⟨b, hb, ro⟩ := R.o.obj n _ q
    rw [hm] at hb
    cases hb
    cases o with
    | lst ys =>
      cases e
      obtain ⟨vs, h1, h2⟩ := ro
      exact ⟨a, vs, rfl, SqL.of h1, h2⟩
    | fro ys =>
      cases e
      obtain ⟨vs, h1, h2⟩ := ro
      exact ⟨a, vs, rfl, .inl h1, h2⟩
    | _ => cases e
theorem RV.tup {xs : List LV} {x : V} (r : RV S m H (.tup xs) x) : ∃ a vs, x = .ref a ∧ SqT S.K H a vs ∧ RVs S m H xs vs := by
  obtain ⟨a, vs, o, e, h, q⟩ := r
  exact ⟨a, vs, e, .inl (.inr ⟨o, h.1⟩), q⟩
theorem okS_str {x : List Nat} (h : okS x = true) : PyData.strOk ⟨x.toArray⟩ = true := by
  unfold PyData.strOk
  unfold okS at h
  rw [List.all_eq_true] at h
  simpa using h
mutual
theorem toPy_eqv : ∀ (a b : PD), PyData.eqv (toPy a) (toPy b) = PD.eqv a b
  | .non, b => by cases b <;> rfl
  | .bl i, b => by cases b <;> rfl
  | .int i, b => by cases b <;> rfl
  | .str x, b => by
    cases b with
    | str y =>
      show ((⟨x.toArray⟩ : Str) == ⟨y.toArray⟩) = (x == y)
      by_cases h : x = y
      · rw [h]; simp
      · have : (⟨x.toArray⟩ : Str) ≠ ⟨y.toArray⟩ := fun e => h (by simpa using e)
        rw [beq_eq_false_iff_ne.mpr h, beq_eq_false_iff_ne.mpr this]
    | _ => rfl
  | .tup xs, b => by
    cases b with
    | tup ys => exact toPys_eqv xs ys
    | _ => rfl
  | .lst xs, b => by
    cases b with
    | lst ys => exact toPys_eqv xs ys
    | _ => rfl
theorem toPys_eqv : ∀ (a b : List PD), PyData.eqvAll (toPys a) (toPys b) = PD.eqvAll a b
  | [], [] => rfl
  | [], _ :: _ => rfl
  | _ :: _, [] => rfl
  | x :: xs, y :: ys => by
    show (PyData.eqv (toPy x) (toPy y) && PyData.eqvAll (toPys xs) (toPys ys)) = (PD.eqv x y && PD.eqvAll xs ys)
    rw [toPy_eqv x y, toPys_eqv xs ys]
end
theorem toPys_map : ∀ l : List PD, toPys l = l.map toPy
  | [] => rfl
  | x :: xs => by show toPy x :: toPys xs = _; rw [toPys_map xs]; rfl
/-- what the datum of a value is -/
def IsD (K : PySem.W.Frag) (H : Hp) (n : Nat) (x : V) (d : PD) : Prop := Dp K H x (toPy d) ∧ (toPy d).canLay0 = true ∧ (toPy d).depth ≤ n
def IsDs (K : PySem.W.Frag) (H : Hp) (n : Nat) (xs : List V) (ds : List PD) : Prop := DpAll K H xs (toPys ds) ∧ PyData.canLayAll0 (toPys ds) = true ∧ PyData.depthAll (toPys ds) ≤ n
theorem mapO_isD {f : LV → Option PD} {n : Nat} (hf : ∀ a x d, f a = some d → RV S m H a x → IsD S.K H n x d) : ∀ {xs : List LV} {vs : List V} {ds : List PD}, mapO f xs = some ds → RVs S m H xs vs → IsDs S.K H n vs ds
  | [], vs, ds, e, r => by
    cases e
    cases r
    exact ⟨.nil, by simp [toPys, PyData.canLayAll0], by simp [toPys, PyData.depthAll]⟩
  | a :: xs, vs, ds, e, r => by
    obtain ⟨v, vr, rfl, r1, r2⟩ := r
    unfold mapO at e
    cases e1 : f a with
    | none => rw [e1] at e; cases e
    | some d =>
      rw [e1] at e
      cases e2 : mapO f xs with
      | none => simp only [e2] at e; cases e
      | some ds' =>
        simp only [e2] at e
        cases e
        obtain ⟨h1, h2, h3⟩ := hf a v d e1 r1
        obtain ⟨k1, k2, k3⟩ := mapO_isD hf e2 r2
        refine ⟨.cons h1 k1, ?_, ?_⟩
        · show PyData.canLayAll0 (toPy d :: toPys ds') = true
          rw [PyData.canLayAll0, h2, k2]
          rfl
        · show PyData.depthAll (toPy d :: toPys ds') ≤ n
          rw [PyData.depthAll]
          exact Nat.max_le.mpr ⟨h3, k3⟩
theorem rei_isD (R : Rel S v m mc G H) : ∀ (n : Nat) (a : LV) (x : V) (d : PD), rei n G a = some d → RV S m H a x → IsD S.K H n x d
  | 0, a, x, d, e, r => by cases e
  | n + 1, a, x, d, e, r => by
    have ih := fun a x d => rei_isD R n a x d
    have seqL : ∀ {xs : List LV} {k : Nat} {d : PD}, listAt G k = some xs → RV S m H (.loc k) x → (match mapO (rei n G) xs with | some ys => some (PD.lst ys) | none => none) = some d → IsD S.K H (n + 1) x d := fun {xs k d} hl hr e => by
      obtain ⟨a, vs, rfl, hs, rs⟩ := R.seq hl hr
      cases q : mapO (rei n G) xs with
      | none => rw [q] at e; cases e
      | some ds =>
        rw [q] at e
        cases e
        obtain ⟨k1, k2, k3⟩ := mapO_isD ih q rs
        refine ⟨.lst hs k1, ?_, ?_⟩
        · show (PyData.list (toPys ds)).canLay0 = true
          rw [PyData.canLay0]; exact k2
        · show (PyData.list (toPys ds)).depth ≤ n + 1
          rw [PyData.depth]; omega
    cases a with
    | non =>
      cases e
      cases r
      exact ⟨.non, rfl, Nat.zero_le _⟩
    | bl b =>
      cases e
      cases r
      exact ⟨.bl b, rfl, Nat.zero_le _⟩
    | int i =>
      cases e
      cases r
      exact ⟨.int i, rfl, Nat.zero_le _⟩
    | str y =>
      have e : (if okS y = true then some (PD.str y) else none) = some d := e
      by_cases h : okS y = true
      · rw [if_pos h] at e
        cases e
        cases r
        refine ⟨.str _, ?_, Nat.zero_le _⟩
        show (PyData.str ⟨y.toArray⟩).canLay0 = true
        rw [PyData.canLay0]
        exact okS_str h
      · rw [if_neg h] at e
        cases e
    | tup xs =>
      have e : (match mapO (rei n G) xs with | some ys => some (PD.tup ys) | none => none) = some d := e
      obtain ⟨a, vs, rfl, hs, rs⟩ := r.tup
      cases q : mapO (rei n G) xs with
      | none => rw [q] at e; cases e
      | some ds =>
        rw [q] at e
        cases e
        obtain ⟨k1, k2, k3⟩ := mapO_isD ih q rs
        refine ⟨.tup hs k1, ?_, ?_⟩
        · show (PyData.tuple (toPys ds)).canLay0 = true
          rw [PyData.canLay0]; exact k2
        · show (PyData.tuple (toPys ds)).depth ≤ n + 1
          rw [PyData.depth]; omega
    | loc k =>
      have e : (match G.t.get k with
        | some (.lst xs) => (match mapO (rei n G) xs with | some ys => some (PD.lst ys) | none => none)
        | some (.fro xs) => (match mapO (rei n G) xs with | some ys => some (PD.lst ys) | none => none)
        | _ => none) = some d := e
      cases q : G.t.get k with
      | none => rw [q] at e; cases e
      | some o =>
        rw [q] at e
        cases o with
        | lst xs => exact seqL (by unfold listAt; rw [q]) r e
        | fro xs => exact seqL (by unfold listAt; rw [q]) r e
        | _ => cases e
    | glo k => cases e
    | rep d => cases e
theorem IsD.shaped {K : PySem.W.Frag} {n : Nat} {x : V} {d : PD} (h : IsD K H n x d) (hn : n ≤ 64) : SeqAt.shaped (toPy d) = true := by
  unfold SeqAt.shaped
  rw [h.2.1, decide_eq_true (Nat.le_trans h.2.2 hn)]
  rfl
end
end MP
namespace MP
open PySem L2
open PyProof.Rows hiding St

section
variable (S : Stat) (X : Cx) (W : WX)
/-- a two-place operation, by values of both kinds -/
def LOp (f : Value → Value → Sem Value) (g : LV → LV → GH → Res LV) : Prop :=
  ∀ (pins : List (Addr × Obj)) (s : Shared) (σ : St) (H : Hp) (m mc : Mp) (G : GH) (σL : SL) (a b : LV) (x y : V) (v u : Value) (Q : VK), Inv X pins σ H s → Pre S X m mc G H σL σ → RV S m H a x → RV S m H b y → RelV x v → RelV y u →
    Post S X W m mc H σL σ (g a b G) (kE S Q) → wpAny (model X.prog X.w) X.A (f v u) (EP X pins σ Q) X.xe s
/-- a test by an operation -/
def lb (g : LV → LV → GH → Option Bool) : LV → LV → GH → Res LV := fun a b G => match g a b G with
  | some k => .ok (.bl k) G
  | none => .stuck
/-- what is ever asked of a context -/
structure CtxE : Prop where
  ok : CtxOk S X
  room : Room 1 X.A
  calm : X.calm = true
end
section
variable {S : Stat} {X : Cx} {W : WX} {m mc : Mp} {G : GH} {H : Hp} {σL : SL} {σ : St} {pins : List (Addr × Obj)} {s : Shared} {Q : VK}
theorem opw {f : Value → Value → Sem Value} {r : R2} (ho : OpR X f r) (I : Inv X pins σ H s) {x y : V} {v u : Value} (rx : RelV x v) (ry : RelV y u) (h : r x y H fun v H' => OKX X H' → Q v H') : wpAny (model X.prog X.w) X.A (f v u) (EP X pins σ Q) X.xe s :=
  thn (ho pins s σ H x y v u _ I rx ry h) fun _ s' ⟨w, H', I', r, k⟩ => ⟨w, H', I', r, k (okx I')⟩
theorem RV.int_ {i : Int} {x : V} (r : RV S m H (.int i) x) : x = .int i := r
theorem RV.bl_ {i : Bool} {x : V} (r : RV S m H (.bl i) x) : x = .bl i := r
theorem RV.str_ {i : List Nat} {x : V} (r : RV S m H (.str i) x) : x = .str ⟨i.toArray⟩ := r
theorem RV.non_ {x : V} (r : RV S m H .non x) : x = .non := r
theorem lenOk_iff {α : Type} {xs : List α} : lenOk xs = true ↔ xs.length ≤ sizeLine := by
  unfold lenOk
  rw [decide_eq_true_eq, sizeLine_eq]
theorem word_of {i : Int} (h : word i = true) : -(2 ^ 64) < i ∧ i < 2 ^ 64 := by
  unfold word at h
  rw [Bool.and_eq_true, decide_eq_true_eq, decide_eq_true_eq] at h
  exact ⟨by omega, by omega⟩
theorem Post.guard {α : Type} {c : Bool} {r : Res α} {k : α → Mp → Mp → GH → Hp → Prop} (h : Post S X W m mc H σL σ (if c = true then r else .stuck) k) : c = true ∧ Post S X W m mc H σL σ r k := by
  cases c with
  | true => exact ⟨rfl, h⟩
  | false => exact h.elim
theorem lop_add (C : CtxE S X) : LOp S X W (binaryOp .Add) (semBin .add) := by
  intro pins s σ H m mc G σL a b x y v u Q I p ra rb rx ry h
  have hK := C.ok.k
  cases a with
  | int i =>
    cases b with
    | int j =>
      cases ra.int_
      cases rb.int_
      exact opw op_add I rx ry ⟨i, j, rfl, rfl, fun _ => Post.ok p h _ rfl⟩
    | _ => exact h.elim
  | str i =>
    cases b with
    | str j =>
      obtain ⟨hl, h⟩ := Post.guard h
      cases ra.str_
      cases rb.str_
      have hl' := lenOk_iff.mp hl
      rw [List.length_append] at hl'
      exact opw op_add_str I rx ry ⟨_, _, rfl, rfl, by simpa [Str.length] using hl', fun _ => Post.ok p h _ (by
        show V.str (⟨i.toArray⟩ ++ ⟨j.toArray⟩) = V.str ⟨(i ++ j).toArray⟩
        congr 1
        show Str.mk (i.toArray ++ j.toArray) = _
        simp)⟩
    | _ => exact h.elim
  | tup xs =>
    cases b with
    | tup ys =>
      obtain ⟨hl, h⟩ := Post.guard h
      obtain ⟨a1, vs, rfl, h1, r1⟩ := ra.tup
      obtain ⟨a2, ws, rfl, h2, r2⟩ := rb.tup
      have hl' := lenOk_iff.mp hl
      rw [List.length_append] at hl'
      have l1 := r1.length
      have l2 := r2.length
      rw [← hK] at h1 h2
      cases rx
      cases ry
      obtain ⟨its, q1, p1, _⟩ := I.tuple h1
      obtain ⟨its2, q2, p2, _⟩ := I.tuple h2
      by_cases e : vs = []
      · subst e
        cases q1
        have : xs = [] := List.eq_nil_of_length_eq_zero (by rw [l1]; rfl)
        subst this
        exact cat_tup0 p1 p2 ⟨.ref a2, H, I, rfl, Post.ok p h _ rb⟩
      · refine HT.cat_tup p1 p2 (fun z => e (q1.nil_iff.mp z)) (fun z => ⟨.ref a1, H, I, rfl, ?_⟩) (fun z => ?_) (by rw [← q1.length, ← q2.length]; omega)
        · have ez := q2.nil_iff.mp z
          subst ez
          have : ys = [] := List.eq_nil_of_length_eq_zero (by rw [l2]; rfl)
          subst this
          rw [List.append_nil] at h
          exact Post.ok p h _ ra
        · exact Post.push (tk := s.toks) I p hK h (q1.append q2) (RVs.append r1 r2) (by rw [List.length_append]; omega)
    | _ => exact h.elim
  | loc n =>
    cases b with
    | loc n2 =>
      have h : Post S X W m mc H σL σ (match lstAt G n with
        | some xs => (match lstAt G n2 with
          | some ys => if lenOk (xs ++ ys) then alloc (.lst (xs ++ ys)) G else .stuck
          | none => .stuck)
        | none => .stuck) (kE S Q) := h
      cases e1 : lstAt G n with
      | none => rw [e1] at h; exact h.elim
      | some xs =>
        rw [e1] at h
        cases e2 : lstAt G n2 with
        | none => rw [e2] at h; exact h.elim
        | some ys =>
          rw [e2] at h
          obtain ⟨hl, h⟩ := Post.guard h
          have g : ∀ {n xs}, lstAt G n = some xs → G.t.get n = some (.lst xs) := fun {n xs} e => by
            unfold lstAt at e
            split at e
            · rename_i q; cases e; exact q
            · cases e
          obtain ⟨a1, vs, rfl, _, h1, r1⟩ := p.r.lst (g e1) ra
          obtain ⟨a2, ws, rfl, _, h2, r2⟩ := p.r.lst (g e2) rb
          have hl' := lenOk_iff.mp hl
          rw [List.length_append] at hl'
          have l1 := r1.length
          have l2 := r2.length
          refine opw op_cat I rx ry ⟨a1, a2, vs, ws, rfl, rfl, h1, h2, by omega, fun q hq ok => ?_⟩
          exact Post.new p hK h hq ok fun m' em kt => ⟨_, upd_same, RVs.mono em kt (RVs.append r1 r2)⟩
    | _ => exact h.elim
  | _ => exact h.elim
theorem lop_sub : LOp S X W (binaryOp .Sub) (semBin .sub) := by
  intro pins s σ H m mc G σL a b x y v u Q I p ra rb rx ry h
  cases a with
  | int i =>
    cases b with
    | int j =>
      cases ra.int_
      cases rb.int_
      exact opw op_sub I rx ry ⟨i, j, rfl, rfl, fun _ => Post.ok p h _ rfl⟩
    | _ => exact h.elim
  | _ => exact h.elim
theorem rept_eq {α : Type} (xs : List α) : ∀ n, rept xs n = (List.replicate n xs).flatten
  | 0 => rfl
  | n + 1 => by rw [List.replicate_succ, List.flatten_cons, ← rept_eq xs n]; rfl
end
end MP
namespace MP
open PySem PySem.Spec L2
open PyProof.Rows hiding St

theorem tup_mul1 (l : Addr) (items : Array Value) (n : Nat) (dd : Option Addr) (sl : Array (Option Value)) (u : Tok) :
    Meets (Builtin.«tuple.__mul__» ⟨[.ref l, .int 1 u], []⟩) (fun _ R s => s.heap.get? l = some { cls := .type "tuple", dict := dd, data := .seq items n, slots := sl } ∧ R (.ok (.ret (Value.ref l))) s) :=
  .of_wp fun prog w A R s h => by
    obtain ⟨hp, g, d, tk, os⟩ := s
    obtain ⟨hl, h⟩ := h
    have f1 := AutoSeq1.idx_int
    have c0 : (decide ((1 : Int) < -(2 ^ 63)) || decide ((1 : Int) ≥ 2 ^ 63)) = false := by decide
    have c1 : (items.isEmpty || (1 : Int) == 1) = true := by rw [beq_self_eq_true, Bool.or_true]
    wp_walk using wpAny_loadPart' hl
    repeat (first
      | (refine wpAny_ite_false (decide_eq_false (by rw [c0]; exact Bool.false_ne_true)) ?_; wp_walk using wpAny_loadPart' hl)
      | (refine wpAny_ite_true (decide_eq_true c1) ?_; wp_walk using wpAny_loadPart' hl))
    exact ⟨_, rfl, h⟩
theorem tup_mul0 (l : Addr) (items : Array Value) (n : Nat) (dd : Option Addr) (sl : Array (Option Value)) (x : Int) (u : Tok) (c0 : (decide (x < -(2 ^ 63)) || decide (x ≥ 2 ^ 63)) = false) (c1 : (items.isEmpty || x == 1) = false) (c2 : (decide (x ≤ 0) || items.isEmpty) = true) :
    Meets (Builtin.«tuple.__mul__» ⟨[.ref l, .int x u], []⟩) (fun _ R s => s.heap.get? l = some { cls := .type "tuple", dict := dd, data := .seq items n, slots := sl } ∧
      R (.ok (.ret (Value.ref s.heap.objs.size))) { s with heap := s.heap.push { cls := Value.type "tuple", data := Data.seq #[] }, toks := s.toks }) :=
  .of_wp fun prog w A R s h => by
    obtain ⟨hp, g, d, tk, os⟩ := s
    obtain ⟨hl, h⟩ := h
    have f1 := AutoSeq1.idx_int
    wp_walk using wpAny_loadPart' hl
    repeat (first
      | (refine wpAny_ite_false (decide_eq_false (by rw [c0]; exact Bool.false_ne_true)) ?_; wp_walk using wpAny_loadPart' hl)
      | (refine wpAny_ite_false (decide_eq_false (by rw [c1]; exact Bool.false_ne_true)) ?_; wp_walk using wpAny_loadPart' hl)
      | (refine wpAny_ite_true (decide_eq_true c2) ?_; wp_walk using wpAny_loadPart' hl))
    exact ⟨_, rfl, h⟩

section
variable {S : Stat} {X : Cx} {W : WX} {m mc : Mp} {G : GH} {H : Hp} {σL : SL} {σ : St} {pins : List (Addr × Obj)} {s : Shared} {Q : VK}
theorem mul_tup_any (C : CtxE S X) (I : Inv X pins σ H s) (p : Pre S X m mc G H σL σ) {a : Addr} {vs : List V} {xs : List LV} {j : Int} {u : Value} (h1 : SqT X.K H a vs) (r1 : RVs S m H xs vs) (ry : RelV (.int j) u) (hj : 0 ≤ j) (hj2 : j ≤ 1000) (hx : xs.length ≤ 1000) (e0 : xs ≠ [])
    (h : Post S X W m mc H σL σ (.ok (.tup (rept xs j.toNat)) G) (kE S Q)) (same : rept xs j.toNat = xs → Q (.ref a) H) : wpAny (model X.prog X.w) X.A (binaryOp .Mult (.ref a) u) (EP X pins σ Q) X.xe s := by
  have hK := C.ok.k
  have l1 := r1.length
  obtain ⟨t, rfl⟩ := ry
  obtain ⟨its, r, ⟨⟨cls, dd, data, sl⟩, ho, hc, n, hd⟩, hs⟩ := I.tuple h1
  simp only at hc hd
  subst hc hd
  have hle : its.length = vs.length := r.length.symm
  have c0 : (decide (j < -(2 ^ 63)) || decide (j ≥ 2 ^ 63)) = false := by
    rw [decide_eq_false (by omega), decide_eq_false (by omega)] <;> rfl
  by_cases e1 : j = 1
  · subst e1
    refine wpAny_binaryOp_repeat_ref (T := "tuple") (U := "int") (by decide) ⟨_, ho, rfl⟩ (fun s' => typeIs_int s' 1 t) noFill_tuple_mul F.fills_int_mul F.slot_int_rmul repeat_tuple F.slot_int_index.lookup
      (call_meets F.slot_int_rmul (typeIs_int s 1 t) F.entry_int_rmul (F.args_int_rmul_2 _ _) (int_rmul_tuple 1 t a its.toArray n dd sl)
        ⟨ho, rfl, ⟨_, ho, rfl⟩, call_meets F.slot_tuple_mul ⟨_, ho, rfl⟩ F.entry_tuple_mul (F.args_tuple_mul_2 _ _) (tup_mul1 a its.toArray n dd sl t) ⟨ho, ?_⟩⟩)
    refine ⟨.ref a, H, I, rfl, same ?_⟩
    show xs ++ [] = xs
    simp
  · have hn : its ≠ [] := fun e => e0 (by
      rw [e] at hle
      exact List.eq_nil_of_length_eq_zero (by rw [l1]; exact hle.symm))
    have hi : its.toArray.isEmpty = false := by
      cases its with
      | nil => exact absurd rfl hn
      | cons a b => rfl
    by_cases e2 : j = 0
    · subst e2
      have c1 : (its.toArray.isEmpty || (0 : Int) == 1) = false := by rw [hi]; rfl
      have c2 : (decide ((0 : Int) ≤ 0) || its.toArray.isEmpty) = true := rfl
      refine wpAny_binaryOp_repeat_ref (T := "tuple") (U := "int") (by decide) ⟨_, ho, rfl⟩ (fun s' => typeIs_int s' 0 t) noFill_tuple_mul F.fills_int_mul F.slot_int_rmul repeat_tuple F.slot_int_index.lookup
        (call_meets F.slot_int_rmul (typeIs_int s 0 t) F.entry_int_rmul (F.args_int_rmul_2 _ _) (int_rmul_tuple 0 t a its.toArray n dd sl)
          ⟨ho, rfl, ⟨_, ho, rfl⟩, call_meets F.slot_tuple_mul ⟨_, ho, rfl⟩ F.entry_tuple_mul (F.args_tuple_mul_2 _ _) (tup_mul0 a its.toArray n dd sl 0 t c0 c1 c2) ⟨ho, ?_⟩⟩)
      exact Post.push (tk := s.toks) I p hK h (xs := rept xs (0 : Int).toNat) (us := []) .nil rfl (Nat.zero_le _)
    · have hm : ((its.toArray.size : Nat) : Int) * j ≤ 1000000 := by
        have a1 : ((its.length : Nat) : Int) * j ≤ 1000 * j := Int.mul_le_mul_of_nonneg_right (by omega) (by omega)
        rw [List.size_toArray]
        omega
      have flen : (List.replicate j.toNat its).flatten.length ≤ sizeLine := by
        rw [PyProof.Rows.lm_len_rep_flat, sizeLine_eq]
        have a1 : j.toNat * its.length ≤ 1000 * 1000 := Nat.mul_le_mul (by omega) (by omega)
        omega
      have c1 : (its.toArray.isEmpty || j == 1) = false := by
        rw [hi, Bool.false_or]
        exact beq_eq_false_iff_ne.mpr e1
      have c2 : (decide (j ≤ 0) || its.toArray.isEmpty) = false := by
        rw [hi, Bool.or_false]
        exact decide_eq_false (by omega)
      have c4 : Builtin.Tuple.tupleTooMany (((its.toArray.size : Nat) : Int) * j) = false := by
        unfold Builtin.Tuple.tupleTooMany
        rw [sizeLine_eq]
        exact decide_eq_false (by omega)
      refine wpAny_binaryOp_repeat_ref (T := "tuple") (U := "int") (by decide) ⟨_, ho, rfl⟩ (fun s' => typeIs_int s' j t) noFill_tuple_mul F.fills_int_mul F.slot_int_rmul repeat_tuple F.slot_int_index.lookup
        (call_meets F.slot_int_rmul (typeIs_int s j t) F.entry_int_rmul (F.args_int_rmul_2 _ _) (int_rmul_tuple j t a its.toArray n dd sl)
          ⟨ho, rfl, ⟨_, ho, rfl⟩, call_meets F.slot_tuple_mul ⟨_, ho, rfl⟩ F.entry_tuple_mul (F.args_tuple_mul_2 _ _) (tuple_mulW a its.toArray n dd sl j t c0 c1 c2 (by omega) c4 (by rw [size_rep, List.size_toArray]; exact flen)) ⟨ho, ?_⟩⟩)
      rw [size_rep]
      have rr : Vals (rept vs j.toNat) (List.replicate j.toNat its).flatten := by rw [rept_eq]; exact r.rep j.toNat
      exact Post.push (tk := s.toks) I p hK h rr (RVs.rep r1 j.toNat) (by rw [rr.length]; exact flen)
theorem lop_mul (C : CtxE S X) : LOp S X W (binaryOp .Mult) (semBin .mul) := by
  intro pins s σ H m mc G σL a b x y v u Q I p ra rb rx ry h
  have hK := C.ok.k
  cases a with
  | int i =>
    cases b with
    | int j =>
      obtain ⟨hl, h⟩ := Post.guard h
      cases ra.int_
      cases rb.int_
      rw [Bool.or_eq_true] at hl
      exact opw op_mul I rx ry ⟨i, j, rfl, rfl, hl.imp word_of word_of, fun _ => Post.ok p h _ rfl⟩
    | _ => exact h.elim
  | tup xs =>
    cases b with
    | int j =>
      obtain ⟨hl, h⟩ := Post.guard h
      rw [Bool.and_eq_true, Bool.and_eq_true, Bool.and_eq_true, decide_eq_true_eq, decide_eq_true_eq, decide_eq_true_eq] at hl
      cases rb.int_
      obtain ⟨a1, vs, rfl, h1, r1⟩ := ra.tup
      cases rx
      rw [← hK] at h1
      exact mul_tup_any C I p h1 r1 ry hl.2.1 hl.1 hl.2.2.1 (fun e => by rw [e] at hl; exact absurd hl.2.2.2 (by decide)) h fun e => Post.ok p h _ (by rw [e]; exact ra)
    | _ => exact h.elim
  | _ => exact h.elim
theorem lop_fdiv : LOp S X W (binaryOp .FloorDiv) (semBin .fdiv) := by
  intro pins s σ H m mc G σL a b x y v u Q I p ra rb rx ry h
  cases a with
  | int i =>
    cases b with
    | int j =>
      obtain ⟨hl, h⟩ := Post.guard h
      cases ra.int_
      cases rb.int_
      rw [Bool.and_eq_true, decide_eq_true_eq, decide_eq_true_eq] at hl
      exact opw op_fdiv I rx ry ⟨i, j, rfl, rfl, hl, fun _ => Post.ok p h _ rfl⟩
    | _ => exact h.elim
  | _ => exact h.elim
theorem lop_mod : LOp S X W (binaryOp .Mod) (semBin .mod) := by
  intro pins s σ H m mc G σL a b x y v u Q I p ra rb rx ry h
  cases a with
  | int i =>
    cases b with
    | int j =>
      have h : Post S X W m mc H σL σ (if 0 < j then .ok (.int (i % j)) G else .stuck) (kE S Q) := h
      by_cases hj : 0 < j
      · rw [if_pos hj] at h
        cases ra.int_
        cases rb.int_
        exact opw op_mod I rx ry ⟨i, j, rfl, rfl, hj, fun _ => Post.ok p h _ rfl⟩
      · rw [if_neg hj] at h
        exact h.elim
    | _ => exact h.elim
  | _ => exact h.elim
theorem lop_pow : LOp S X W (binaryOp .Pow) (semBin .pow) := by
  intro pins s σ H m mc G σL a b x y v u Q I p ra rb rx ry h
  cases a with
  | int i =>
    cases b with
    | int j =>
      obtain ⟨hl, h⟩ := Post.guard h
      cases ra.int_
      cases rb.int_
      rw [Bool.and_eq_true, Bool.and_eq_true, decide_eq_true_eq, decide_eq_true_eq] at hl
      have := word_of hl.2.2
      exact opw op_pow I rx ry ⟨i, j, rfl, rfl, ⟨hl.1, hl.2.1, by omega⟩, fun _ => Post.ok p h _ rfl⟩
    | _ => exact h.elim
  | _ => exact h.elim
/-! comparisons -/
theorem Post.lb {g : LV → LV → GH → Option Bool} {a b : LV} (p : Pre S X m mc G H σL σ) (h : Post S X W m mc H σL σ (MP.lb g a b G) (kE S Q)) : ∃ k, g a b G = some k ∧ Q (.bl k) H := by
  unfold MP.lb at h
  cases e : g a b G with
  | none => rw [e] at h; exact h.elim
  | some k =>
    rw [e] at h
    exact ⟨k, rfl, Post.ok p h _ rfl⟩
theorem lop_int {op : CmpOp} {f : Int → Int → Bool} {g : LV → LV → GH → Option Bool} (ho : OpR X (compareOp op) (rI0 fun i j => .bl (f i j))) (hg : ∀ a b G k, g a b G = some k → ∃ i j, a = .int i ∧ b = .int j ∧ k = f i j) : LOp S X W (compareOp op) (lb g) := by
  intro pins s σ H m mc G σL a b x y v u Q I p ra rb rx ry h
  obtain ⟨k, e, q⟩ := Post.lb p h
  obtain ⟨i, j, rfl, rfl, rfl⟩ := hg _ _ _ _ e
  cases ra.int_
  cases rb.int_
  exact opw ho I rx ry ⟨i, j, rfl, rfl, fun _ => q⟩
theorem int_of {f : Int → Int → Bool} : ∀ (a b : LV) (k : Bool), (match a, b with | .int i, .int j => some (f i j) | _, _ => none) = some k → ∃ i j, a = .int i ∧ b = .int j ∧ k = f i j := fun a b k h => by
  cases a <;> cases b <;> simp at h
  exact ⟨_, _, rfl, rfl, h.symm⟩
theorem lop_lt : LOp S X W (compareOp .Lt) (lb (semCmp .lt)) := lop_int op_lt fun a b G k h => int_of (f := fun i j => decide (i < j)) a b k h
theorem lop_le : LOp S X W (compareOp .LtE) (lb (semCmp .le)) := lop_int op_le fun a b G k h => int_of (f := fun i j => decide (i ≤ j)) a b k h
theorem lop_gt : LOp S X W (compareOp .Gt) (lb (semCmp .gt)) := lop_int op_gt fun a b G k h => int_of (f := fun i j => decide (j < i)) a b k h
theorem lop_ge : LOp S X W (compareOp .GtE) (lb (semCmp .ge)) := lop_int op_ge fun a b G k h => int_of (f := fun i j => decide (j ≤ i)) a b k h
mutual
theorem PD.same_eq : ∀ a b : PD, PD.same a b = true → a = b
  | .non, b, h => by cases b <;> first | rfl | cases h
  | .bl i, b, h => by
    cases b with
    | bl j => rw [show i = j by simpa [PD.same] using h]
    | _ => cases h
  | .int i, b, h => by
    cases b with
    | int j => rw [show i = j by simpa [PD.same] using h]
    | _ => cases h
  | .str i, b, h => by
    cases b with
    | str j => rw [show i = j by simpa [PD.same] using h]
    | _ => cases h
  | .tup i, b, h => by
    cases b with
    | tup j => rw [PD.sameAll_eq i j h]
    | _ => cases h
  | .lst i, b, h => by
    cases b with
    | lst j => rw [PD.sameAll_eq i j h]
    | _ => cases h
theorem PD.sameAll_eq : ∀ a b : List PD, PD.sameAll a b = true → a = b
  | [], [], _ => rfl
  | [], _ :: _, h => by cases h
  | _ :: _, [], h => by cases h
  | x :: xs, y :: ys, h => by
    have h : (PD.same x y && PD.sameAll xs ys) = true := h
    rw [Bool.and_eq_true] at h
    rw [PD.same_eq x y h.1, PD.sameAll_eq xs ys h.2]
end
/-- == -/
theorem eqL_cases {a b : LV} {k : Bool} (h : eqL G a b = some k) : (∃ d, a = .rep d ∧ b = .rep d ∧ k = true) ∨ ∃ d e, rei dep G a = some d ∧ rei dep G b = some e ∧ k = PD.eqv d e := by
  have gen : (match rei dep G a with
    | some d => (match rei dep G b with
      | some e => some (PD.eqv d e)
      | none => none)
    | none => none) = some k → ∃ d e, rei dep G a = some d ∧ rei dep G b = some e ∧ k = PD.eqv d e := fun h => by
    cases e1 : rei dep G a with
    | none => rw [e1] at h; cases h
    | some d =>
      rw [e1] at h
      cases e2 : rei dep G b with
      | none => simp only [e2] at h; cases h
      | some e =>
        simp only [e2] at h
        cases h
        exact ⟨d, e, rfl, rfl, rfl⟩
  unfold eqL at h
  split at h
  · rename_i d e
    by_cases q : PD.same d e = true
    · rw [if_pos q] at h
      cases h
      rw [PD.same_eq _ _ q]
      exact .inl ⟨_, rfl, rfl, rfl⟩
    · rw [if_neg q] at h
      cases h
  · exact .inr (gen h)
theorem dec_eqv {d e : PD} : PyData.eqv (toPy d) (toPy e) = PD.eqv d e := toPy_eqv d e
theorem lop_eq (C : CtxE S X) : LOp S X W (compareOp .Eq) (lb (semCmp .eq)) := by
  intro pins s σ H m mc G σL a b x y v u Q I p ra rb rx ry h
  obtain ⟨k, e, q⟩ := Post.lb p h
  have e : eqL G a b = some k := e
  rcases eqL_cases e with ⟨d, rfl, rfl, rfl⟩ | ⟨d, e', h1, h2, rfl⟩
  · have ra : x = .str (toPy d).shown := ra
    have rb : y = .str (toPy d).shown := rb
    subst ra rb
    refine opw op_eq I rx ry ⟨rfl, fun _ => ?_⟩
    have : decide (V.str (toPy d).shown = V.str (toPy d).shown) = true := decide_eq_true rfl
    rw [this]
    exact q
  · have d1 := rei_isD p.r dep a x d h1 ra
    have d2 := rei_isD p.r dep b y e' h2 rb
    rw [← C.ok.k] at d1 d2
    exact opw (op_eqD C.room.units) I rx ry ⟨_, _, d1.1, d2.1, d1.shaped (by decide), d2.shaped (by decide), fun _ => by rw [dec_eqv]; exact q⟩
theorem notO_some {o : Option Bool} {k : Bool} (h : notO o = some k) : o = some (!k) := by
  cases o with
  | none => cases h
  | some b => cases h; simp
theorem lop_ne (C : CtxE S X) : LOp S X W (compareOp .NotEq) (lb (semCmp .ne)) := by
  intro pins s σ H m mc G σL a b x y v u Q I p ra rb rx ry h
  obtain ⟨k, e, q⟩ := Post.lb p h
  have e : notO (eqL G a b) = some k := e
  rcases eqL_cases (notO_some e) with ⟨d, rfl, rfl, hk⟩ | ⟨d, e', h1, h2, hk⟩
  · have ra : x = .str (toPy d).shown := ra
    have rb : y = .str (toPy d).shown := rb
    subst ra rb
    refine opw op_ne I rx ry ⟨rfl, fun _ => ?_⟩
    have : (!decide (V.str (toPy d).shown = V.str (toPy d).shown)) = k := by
      rw [decide_eq_true rfl]
      simpa using hk
    rw [this]
    exact q
  · have d1 := rei_isD p.r dep a x d h1 ra
    have d2 := rei_isD p.r dep b y e' h2 rb
    rw [← C.ok.k] at d1 d2
    refine opw (op_neD C.room.units) I rx ry ⟨_, _, d1.1, d2.1, d1.shaped (by decide), d2.shaped (by decide), fun _ => ?_⟩
    rw [dec_eqv, ← hk, Bool.not_not]
    exact q
end
end MP
namespace MP
open PySem PySem.Spec L2
open PyProof.Rows hiding St

section
variable {S : Stat} {X : Cx} {W : WX} {m mc : Mp} {G : GH} {H : Hp} {σL : SL} {σ : St} {pins : List (Addr × Obj)} {s : Shared} {Q : VK} {v : Addr → Prop}
/-! in -/
theorem seqD_isD (R : Rel S v m mc G H) {a : LV} {xs : List LV} {ds : List PD} {d : PD} {x : V} {vs : List V} (h : seqD G a xs = some (ds, d)) (ra : RV S m H a x) (rs : RVs S m H xs vs) : IsD S.K H dep x d ∧ IsDs S.K H dep vs ds := by
  unfold seqD at h
  cases e1 : mapO (rei dep G) xs with
  | none => rw [e1] at h; cases h
  | some ds' =>
    rw [e1] at h
    cases e2 : rei dep G a with
    | none => simp only [e2] at h; cases h
    | some d' =>
      simp only [e2] at h
      cases h
      exact ⟨rei_isD R dep a x d e2 ra, mapO_isD (rei_isD R dep) e1 rs⟩
theorem any_eqv {d : PD} : ∀ ds : List PD, ((toPys ds).any fun z => PyData.eqv z (toPy d)) = ds.any fun z => PD.eqv z d
  | [] => rfl
  | z :: ds => by
    show (PyData.eqv (toPy z) (toPy d) || (toPys ds).any fun z => PyData.eqv z (toPy d)) = (PD.eqv z d || ds.any fun z => PD.eqv z d)
    rw [toPy_eqv, any_eqv ds]
theorem depth_room (C : CtxE S X) {n : Nat} {xs : List PyData} {d : PyData} (h : d.depth ≤ 64) : X.A.units + 1 + min (PyData.depthAll xs) d.depth < cLine := by
  have h1 := C.room.un
  have h2 := Nat.min_le_right (PyData.depthAll xs) d.depth
  omega
theorem IsDs.list {K : PySem.W.Frag} {n : Nat} {vs : List V} {ds : List PD} {a : Addr} (h : IsDs K H n vs ds) (hs : SqL K H a vs) : IsD K H (n + 1) (.ref a) (.lst ds) := by
  refine ⟨.lst hs h.1, ?_, ?_⟩
  · show (PyData.list (toPys ds)).canLay0 = true
    rw [PyData.canLay0]; exact h.2.1
  · show (PyData.list (toPys ds)).depth ≤ n + 1
    rw [PyData.depth]; exact Nat.succ_le_succ h.2.2
theorem IsDs.tuple {K : PySem.W.Frag} {n : Nat} {vs : List V} {ds : List PD} {a : Addr} (h : IsDs K H n vs ds) (hs : SqT K H a vs) : IsD K H (n + 1) (.ref a) (.tup ds) := by
  refine ⟨.tup hs h.1, ?_, ?_⟩
  · show (PyData.tuple (toPys ds)).canLay0 = true
    rw [PyData.canLay0]; exact h.2.1
  · show (PyData.tuple (toPys ds)).depth ≤ n + 1
    rw [PyData.depth]; exact Nat.succ_le_succ h.2.2
/-- in or not in -/
abbrev inOp (neg : Bool) : CmpOp := if neg then .NotIn else .In
theorem in_list (C : CtxE S X) (neg : Bool) (I : Inv X pins σ H s) (p : Pre S X m mc G H σL σ) {a : LV} {x : V} {w u : Value} {b : Addr} {xs : List LV} {vs : List V} {ds : List PD} {d : PD} (e : seqD G a xs = some (ds, d)) (ra : RV S m H a x) (rx : RelV x w) (hs : SqL X.K H b vs) (rs : RVs S m H xs vs)
    (q : Q (.bl (neg ^^ ds.any fun z => PD.eqv z d)) H) (ru : RelV (.ref b) u) : wpAny (model X.prog X.w) X.A (compareOp (inOp neg) w u) (EP X pins σ Q) X.xe s := by
  obtain ⟨h1, h2⟩ := seqD_isD p.r e ra rs
  rw [← C.ok.k] at h1 h2
  have h3 := h2.list hs
  have hu : X.A.units + 65 < cLine := by have := C.room.un; omega
  cases neg with
  | false => exact opw (op_inD hu) I rx ru ⟨toPy d, toPys ds, h1.1, h3.1, h1.shaped (by decide), h3.shaped (by decide), fun _ => by rw [any_eqv]; simpa using q⟩
  | true => exact opw (op_notInD hu) I rx ru ⟨toPy d, toPys ds, h1.1, h3.1, h1.shaped (by decide), h3.shaped (by decide), fun _ => by rw [any_eqv]; simpa using q⟩
theorem in_tuple (C : CtxE S X) (neg : Bool) (I : Inv X pins σ H s) (p : Pre S X m mc G H σL σ) {a : LV} {x : V} {w u : Value} {b : Addr} {xs : List LV} {vs : List V} {ds : List PD} {d : PD} (e : seqD G a xs = some (ds, d)) (ra : RV S m H a x) (rx : RelV x w) (hs : SqT X.K H b vs) (rs : RVs S m H xs vs)
    (q : Q (.bl (neg ^^ ds.any fun z => PD.eqv z d)) H) (ru : RelV (.ref b) u) : wpAny (model X.prog X.w) X.A (compareOp (inOp neg) w u) (EP X pins σ Q) X.xe s := by
  obtain ⟨h1, h2⟩ := seqD_isD p.r e ra rs
  rw [← C.ok.k] at h1 h2
  have h3 := h2.tuple hs
  obtain ⟨as, r1⟩ := Dp.reads I _ x w h1.1 rx
  obtain ⟨bs, r2⟩ := Dp.reads I _ (.ref b) u h3.1 ru
  have r2 : Reads s.heap u (.tuple (toPys ds)) bs := r2
  cases neg with
  | false => exact SeqAt.in_tuple_reads r2 r1 h2.2.1 h1.2.1 (depth_room (n := 0) C (Nat.le_trans h1.2.2 (by decide))) ⟨.bl _, H, I, rfl, by rw [any_eqv]; simpa using q⟩
  | true => exact SeqAt.notIn_tuple_reads r2 r1 h2.2.1 h1.2.1 (depth_room (n := 0) C (Nat.le_trans h1.2.2 (by decide))) ⟨.bl _, H, I, rfl, by rw [any_eqv]; simpa using q⟩
/-! dicts -/
theorem isKey_of {k : LV} {x : V} (h : isKey k = true) (r : RV S m H k x) : ∃ k', x = kV k' ∧ keyR k k' := by
  cases k with
  | int i => exact ⟨.inl i, r, rfl⟩
  | str i => exact ⟨.inr ⟨i.toArray⟩, r, rfl⟩
  | _ => cases h
theorem keyR_inj {k : LV} {a b : Key} (h1 : keyR k a) (h2 : keyR k b) : a = b := by
  cases k with
  | int i => exact h1.trans h2.symm
  | str i => exact h1.trans h2.symm
  | _ => exact h1.elim
theorem keyR_eq {k k2 : LV} {a b : Key} (h1 : keyR k a) (h2 : keyR k2 b) : decide (a = b) = kEq k k2 := by
  cases k with
  | int i =>
    have h1 : a = .inl i := h1
    subst h1
    cases k2 with
    | int j =>
      have h2 : b = .inl j := h2
      subst h2
      by_cases e : i = j
      · subst e; simp [kEq]
      · simp [kEq, e]
    | str j =>
      have h2 : b = .inr _ := h2
      subst h2
      simp [kEq]
    | _ => exact h2.elim
  | str i =>
    have h1 : a = .inr ⟨i.toArray⟩ := h1
    subst h1
    cases k2 with
    | int j =>
      have h2 : b = .inl j := h2
      subst h2
      simp [kEq]
    | str j =>
      have h2 : b = .inr ⟨j.toArray⟩ := h2
      subst h2
      by_cases e : i = j
      · subst e; simp [kEq]
      · have : (Str.mk i.toArray) ≠ Str.mk j.toArray := fun z => e (by simpa using z)
        simp [kEq, e]
    | _ => exact h2.elim
  | _ => exact h1.elim
theorem dLook_cons {k a v : LV} {r : List (LV × LV)} : dLook k ((a, v) :: r) = if kEq a k then some v else dLook k r := rfl
theorem RKs.look {k : LV} {k' : Key} (hk : keyR k k') : ∀ {kvs : List (LV × LV)} {ks : List (Key × V)}, RKs S m H kvs ks → match dLook k kvs with
    | some v => ∃ u, valV ks k' = some u ∧ RV S m H v u
    | none => valV ks k' = none
  | [], ks, h => by
    have h : ks = [] := h
    subst h
    rfl
  | (a, w) :: r, ks, h => by
    obtain ⟨a', w', r', rfl, h1, h2, h3⟩ := h
    rw [dLook_cons]
    have q := keyR_eq h1 hk
    cases e : kEq a k with
    | true =>
      rw [e] at q
      rw [if_pos rfl]
      exact ⟨w', valV_pos (of_decide_eq_true q), h2⟩
    | false =>
      rw [e] at q
      rw [if_neg Bool.false_ne_true]
      have := RKs.look hk h3
      rw [valV_neg (p := (a', w')) (of_decide_eq_false q)]
      exact this
theorem lop_in (C : CtxE S X) (neg : Bool) : LOp S X W (compareOp (inOp neg)) (lb fun a b G => match inL G a b with | some k => some (neg ^^ k) | none => none) := by
  intro pins s σ H m mc G σL a b x y v u Q I p ra rb rx ry h
  obtain ⟨k, e, q⟩ := Post.lb p h
  have hK := C.ok.k
  cases e1 : inL G a b with
  | none => simp only [e1] at e; cases e
  | some k' =>
    simp only [e1] at e
    cases e
    have sq : ∀ {xs : List LV}, anyEq G a xs = some k' → ∃ ds d, seqD G a xs = some (ds, d) ∧ k' = ds.any fun z => PD.eqv z d := fun {xs} h => by
      unfold anyEq at h
      cases e2 : seqD G a xs with
      | none => rw [e2] at h; cases h
      | some w =>
        obtain ⟨ds, d⟩ := w
        rw [e2] at h
        cases h
        exact ⟨ds, d, rfl, rfl⟩
    cases b with
    | tup xs =>
      obtain ⟨ds, d, hd, rfl⟩ := sq (xs := xs) e1
      obtain ⟨a1, vs, rfl, h1, r1⟩ := rb.tup
      rw [← hK] at h1
      exact in_tuple C neg I p hd ra rx h1 r1 q ry
    | loc n =>
      have lst : ∀ {xs : List LV}, listAt G n = some xs → anyEq G a xs = some k' → wpAny (model X.prog X.w) X.A (compareOp (inOp neg) v u) (EP X pins σ Q) X.xe s := fun {xs} hl ha => by
        obtain ⟨ds, d, hd, rfl⟩ := sq ha
        obtain ⟨a1, vs, rfl, h1, r1⟩ := p.r.seq hl rb
        rw [← hK] at h1
        exact in_list C neg I p hd ra rx h1 r1 q ry
      have e1 : (match G.t.get n with
        | some (.lst xs) => anyEq G a xs
        | some (.fro xs) => anyEq G a xs
        | some (.dic kvs) => if isKey a = true then some (dLook a kvs).isSome else none
        | _ => none) = some k' := e1
      cases eg : G.t.get n with
      | none => rw [eg] at e1; cases e1
      | some o =>
        rw [eg] at e1
        cases o with
        | lst xs => exact lst (by unfold listAt; rw [eg]) e1
        | fro xs => exact lst (by unfold listAt; rw [eg]) e1
        | dic kvs =>
          have e1 : (if isKey a = true then some (dLook a kvs).isSome else none) = some k' := e1
          by_cases hk : isKey a = true
          · rw [if_pos hk] at e1
            cases e1
            obtain ⟨c, rfl, hm⟩ := rb
            obtain ⟨c', hm', ks, h1, h2⟩ := p.r.o.obj n _ eg
            rw [hm] at hm'
            cases hm'
            cases ry
            obtain ⟨k', rfl, hkr⟩ := isKey_of hk ra
            have look := h2.look hkr
            have hs : (valV ks k').isSome = (dLook a kvs).isSome := by
              cases z : dLook a kvs with
              | none => rw [z] at look; rw [look]; rfl
              | some w => rw [z] at look; obtain ⟨u, e, _⟩ := look; rw [e]; rfl
            have hu : X.A.units + 1 < cLine := by have := C.room.un; omega
            cases neg with
            | false => exact d_in hu I (DGet.k h1) rx fun s' I' => ⟨.bl _, H, I', rfl, by rw [hs]; simpa using q⟩
            | true => exact d_notIn hu I (DGet.k h1) rx fun s' I' => ⟨.bl _, H, I', rfl, by rw [hs]; simpa using q⟩
          · rw [if_neg hk] at e1
            cases e1
        | _ => cases e1
    | _ => cases e1
/-! is -/
theorem is_any {w u : Value} {k : Bool} (neg : Bool) (I : Inv X pins σ H s) (hw : ∀ id, w ≠ .builtin id) (h : (w == u) = k) (hu : u = .none ∨ ∃ c, u = .bool c) (q : Q (.bl (neg ^^ k)) H) : wpAny (model X.prog X.w) X.A (compareOp (if neg then .IsNot else .Is) w u) (EP X pins σ Q) X.xe s := by
  have fin : EP X pins σ Q (.bool (neg ^^ k)) s := ⟨.bl _, H, I, rfl, q⟩
  subst h
  cases neg with
  | false =>
    rw [Bool.false_xor] at fin
    rcases hu with rfl | ⟨c, rfl⟩ <;> cases w <;> first | exact wpAny_pure fin | exact absurd rfl (hw _)
  | true =>
    rw [Bool.true_xor] at fin
    rcases hu with rfl | ⟨c, rfl⟩ <;> cases w <;> first | exact wpAny_pure fin | exact absurd rfl (hw _)
theorem lop_is (neg : Bool) : LOp S X W (compareOp (if neg then .IsNot else .Is)) (lb fun a b G => match isL a b with | some k => some (neg ^^ k) | none => none) := by
  intro pins s σ H m mc G σL a b x y v u Q I p ra rb rx ry h
  obtain ⟨k, e, q⟩ := Post.lb p h
  cases e1 : isL a b with
  | none => simp only [e1] at e; cases e
  | some k' =>
    simp only [e1] at e
    cases e
    have key : (v == u) = k' ∧ (u = .none ∨ ∃ c, u = .bool c) := by
      cases b with
      | non =>
        cases rb.non_
        cases ry
        refine ⟨?_, .inl rfl⟩
        cases a with
        | non => cases ra.non_; cases rx; cases e1; rfl
        | bl _ => cases ra.bl_; cases rx; cases e1; rfl
        | int _ => cases ra.int_; obtain ⟨t, rfl⟩ := rx; cases e1; rfl
        | str _ => cases ra.str_; obtain ⟨t, rfl⟩ := rx; cases e1; rfl
        | tup _ => obtain ⟨_, _, _, rfl, _⟩ := ra; cases rx; cases e1; rfl
        | loc _ => obtain ⟨_, rfl, _⟩ := ra; cases rx; cases e1; rfl
        | glo _ => obtain ⟨rfl, _⟩ := ra; cases rx; cases e1; rfl
        | rep _ => have ra : x = .str _ := ra; subst ra; obtain ⟨t, rfl⟩ := rx; cases e1; rfl
      | bl c =>
        cases rb.bl_
        cases ry
        refine ⟨?_, .inr ⟨c, rfl⟩⟩
        cases a with
        | non => cases ra.non_; cases rx; cases e1; rfl
        | bl d => cases ra.bl_; cases rx; cases e1; cases d <;> cases c <;> rfl
        | int _ => cases ra.int_; obtain ⟨t, rfl⟩ := rx; cases e1; rfl
        | str _ => cases ra.str_; obtain ⟨t, rfl⟩ := rx; cases e1; rfl
        | tup _ => obtain ⟨_, _, _, rfl, _⟩ := ra; cases rx; cases e1; rfl
        | loc _ => obtain ⟨_, rfl, _⟩ := ra; cases rx; cases e1; rfl
        | glo _ => cases e1
        | rep _ => cases e1
      | _ => cases a <;> cases e1
    exact is_any neg I (fun id e => by subst e; cases x <;> first | (cases rx; done) | (obtain ⟨t, z⟩ := rx; cases z)) key.1 key.2 q
end
end MP
namespace MP
open PySem PySem.Spec L2
open PyProof.Rows hiding St

section
variable {S : Stat} {X : Cx} {W : WX} {m mc : Mp} {G : GH} {H : Hp} {σL : SL} {σ : St} {pins : List (Addr × Obj)} {s : Shared} {Q : VK} {v : Addr → Prop}
theorem ixN_eq (n : Nat) (i : Int) : MP.ixN n i = L2.ixN n i := rfl
theorem atI_eq {α : Type} (xs : List α) (i : Int) : MP.atI xs i = L2.atI xs i := by
  unfold MP.atI L2.atI
  rw [ixN_eq]
  cases L2.ixN xs.length i <;> rfl
theorem RVs.atI {xs : List LV} {vs : List V} {i : Int} {a : LV} (r : RVs S m H xs vs) (h : MP.atI xs i = some a) : ∃ x, L2.atI vs i = some x ∧ RV S m H a x := by
  rw [← atI_eq]
  unfold MP.atI at h ⊢
  rw [← r.length]
  cases e : MP.ixN xs.length i with
  | none => rw [e] at h; cases h
  | some j =>
    rw [e] at h
    exact r.get h
def LIx (S : Stat) (X : Cx) (W : WX) (g : LV → LV → GH → Res LV) : Prop :=
  ∀ (value slice : Expr) (pins : List (Addr × Obj)) (s : Shared) (σ : St) (H : Hp) (m mc : Mp) (G : GH) (σL : SL) (a b : LV) (x y : V) (v u : Value) (Q : VK), Inv X pins σ H s → Pre S X m mc G H σL σ → RV S m H a x → RV S m H b y → RelV x v → RelV y u →
    Post S X W m mc H σL σ (g a b G) (kE S Q) → subscripted slice false v u = operate [v, u] (getItem v u) → wpAny (model X.prog X.w) X.A (subscriptTail value slice v u) (EP X pins σ Q) X.xe s
theorem lix (C : CtxE S X) : LIx S X W (fun a b G => ofO (semIx a b G) G) := by
  intro value slice pins s σ H m mc G σL a b x y v u Q I p ra rb rx ry h hs
  obtain ⟨w, e, q⟩ := Post.ofO p h
  have hK := C.ok.k
  cases a with
  | tup xs =>
    cases b with
    | int i =>
      have e : MP.atI xs i = some w := e
      obtain ⟨a1, vs, rfl, h1, r1⟩ := ra.tup
      rw [← hK] at h1
      cases rb.int_
      obtain ⟨z, hz, rz⟩ := r1.atI e
      exact ix_tup value slice pins s σ H _ _ v u Q I rx ry ⟨a1, vs, i, z, rfl, rfl, h1, hz, q z rz⟩ hs
    | _ => cases e
  | str xs =>
    cases b with
    | int i =>
      have e : (if lenOk xs = true then (match MP.atI xs i with | some c => some (LV.str [c]) | none => none) else none) = some w := e
      by_cases hl : lenOk xs = true
      · rw [if_pos hl] at e
        cases e1 : MP.atI xs i with
        | none => rw [e1] at e; cases e
        | some c =>
          rw [e1] at e
          cases e
          cases ra.str_
          cases rb.int_
          rw [atI_eq] at e1
          exact ix_str value slice pins s σ H _ _ v u Q I rx ry ⟨_, i, c, rfl, rfl, by simpa [Str.length] using lenOk_iff.mp hl, by simpa using e1, q _ rfl⟩ hs
      · rw [if_neg hl] at e
        cases e
    | _ => cases e
  | loc n =>
    have e : (match G.t.get n with
      | some (.lst xs) => atV xs b
      | some (.fro xs) => atV xs b
      | some (.dic kvs) => if isKey b = true then dLook b kvs else none
      | _ => none) = some w := e
    have lst : ∀ {xs : List LV}, listAt G n = some xs → atV xs b = some w → wpAny (model X.prog X.w) X.A (subscriptTail value slice v u) (EP X pins σ Q) X.xe s := fun {xs} hl e => by
      cases b with
      | int i =>
        have e : MP.atI xs i = some w := e
        obtain ⟨a1, vs, rfl, h1, r1⟩ := p.r.seq hl ra
        rw [← hK] at h1
        cases rb.int_
        obtain ⟨z, hz, rz⟩ := r1.atI e
        exact ix_list value slice pins s σ H _ _ v u Q I rx ry ⟨a1, vs, i, z, rfl, rfl, h1, hz, q z rz⟩ hs
      | _ => cases e
    cases eg : G.t.get n with
    | none => rw [eg] at e; cases e
    | some o =>
      rw [eg] at e
      cases o with
      | lst xs => exact lst (by unfold listAt; rw [eg]) e
      | fro xs => exact lst (by unfold listAt; rw [eg]) e
      | dic kvs =>
        have e : (if isKey b = true then dLook b kvs else none) = some w := e
        have isk : isKey b = true := by
          cases q : isKey b with
          | true => rfl
          | false => rw [q, if_neg Bool.false_ne_true] at e; cases e
        rw [if_pos isk] at e
        obtain ⟨c, rfl, hm⟩ := ra
        obtain ⟨c', hm', ks, h1, h2⟩ := p.r.o.obj n _ eg
        rw [hm] at hm'
        cases hm'
        cases rx
        obtain ⟨k', rfl, hkr⟩ := isKey_of isk rb
        have look := h2.look hkr
        rw [e] at look
        obtain ⟨z, hz, rz⟩ := look
        have hu : X.A.units + 1 < cLine := by have := C.room.un; omega
        have g : DGet H c (kV k') (some z) := by rw [← hz]; exact DGet.k h1
        exact tail_any (dict_typeIs I g) PySem.F.slot_dict_getitem.lookup (d_getItem hu I g ry fun w' s3 I3 rw' => ⟨z, H, I3, rw', q z rz⟩) hs
      | _ => cases e
  | _ => cases e
/-! slices -/
theorem RVs.cut {xs : List LV} {vs : List V} (r : RVs S m H xs vs) (lo hi : Option Int) : RVs S m H (MP.cut xs lo hi) (cutV vs lo hi) := by
  unfold MP.cut cutV
  rw [r.length]
  exact RVs.take _ (RVs.drop _ r)
def LSl (S : Stat) (X : Cx) (W : WX) (g : LV → Option Int → Option Int → GH → Res LV) : Prop :=
  ∀ (pins : List (Addr × Obj)) (s : Shared) (σ : St) (H : Hp) (m mc : Mp) (G : GH) (σL : SL) (a : LV) (x : V) (v vl vu : Value) (lo hi : Option Int) (sl : Addr) (Q : VK), Inv X pins σ H s → Pre S X m mc G H σL σ → RV S m H a x → RelV x v →
    s.heap.IsSliceOf sl vl vu .none → IsPart vl lo → IsPart vu hi → Post S X W m mc H σL σ (g a lo hi G) (kE S Q) →
    ∃ T id, typeLookup (.type T) "__getitem__" = pure (some (.builtin id)) ∧ s.TypeIs v T ∧ wpAny (model X.prog X.w) X.A (getItem v (.ref sl)) (EP X pins σ Q) X.xe s
theorem slw {r : V → Option Int → Option Int → Hp → VK → Prop} (hr : SlR X r) (I : Inv X pins σ H s) {x : V} {v vl vu : Value} {lo hi : Option Int} {sl : Addr} (rx : RelV x v) (hs : s.heap.IsSliceOf sl vl vu .none) (pl : IsPart vl lo) (pu : IsPart vu hi) (h : r x lo hi H fun v H' => OKX X H' → Q v H') :
    ∃ T id, typeLookup (.type T) "__getitem__" = pure (some (.builtin id)) ∧ s.TypeIs v T ∧ wpAny (model X.prog X.w) X.A (getItem v (.ref sl)) (EP X pins σ Q) X.xe s := by
  obtain ⟨T, id, h1, h2, h3⟩ := hr pins s σ H x v vl vu lo hi sl _ I rx hs pl pu h
  exact ⟨T, id, h1, h2, thn h3 fun _ s' ⟨w, H', I', r, k⟩ => ⟨w, H', I', r, k (okx I')⟩⟩
theorem lsl (C : CtxE S X) : LSl S X W semSl := by
  intro pins s σ H m mc G σL a x v vl vu lo hi sl Q I p ra rx hs pl pu h
  have hK := C.ok.k
  cases a with
  | tup xs =>
    obtain ⟨a1, vs, rfl, h1, r1⟩ := ra.tup
    rw [← hK] at h1
    cases rx
    obtain ⟨its, q1, ht, hz⟩ := I.tuple h1
    have hlen : its.toArray.size = vs.length := by rw [List.size_toArray]; exact q1.length.symm
    refine ⟨"tuple", _, PyProof.Rows.slot_tuple_getitem.lookup, ht.typeIs, ?_⟩
    by_cases hw : HT.sIx vs.length 0 lo = 0 ∧ HT.sIx vs.length vs.length hi = vs.length
    · refine getItem_tuple_whole ht hs pl pu (by rw [hlen]; exact hw) ⟨.ref a1, H, I, rfl, ?_⟩
      have : MP.cut xs lo hi = xs := by
        have e1 : sx xs.length 0 lo = 0 := by rw [r1.length]; exact hw.1
        have e2 : sx xs.length xs.length hi = xs.length := by rw [r1.length]; exact hw.2
        unfold MP.cut
        rw [e1, e2]
        simp
      exact Post.ok p h _ (by rw [this]; exact ra)
    · refine HT.getItem_tuple_cut ht hs pl pu (by rw [hlen]; exact hw) ?_ (by rw [hlen]; exact hz)
      rw [hlen]
      exact Post.push (tk := s.toks) I p hK h ((q1.drop (HT.sIx vs.length 0 lo)).take (HT.sIx vs.length vs.length hi - HT.sIx vs.length 0 lo)) (r1.cut lo hi) (Nat.le_trans (cutV_length vs lo hi) hz)
  | str xs =>
    obtain ⟨hl, h⟩ := Post.guard h
    cases ra.str_
    refine slw sl_str I rx hs pl pu ⟨_, rfl, by simpa [Str.length] using lenOk_iff.mp hl, fun _ => Post.ok p h _ ?_⟩
    show V.str _ = V.str _
    unfold cutS MP.cut
    have : (Str.mk xs.toArray).length = xs.length := by simp [Str.length]
    rw [this]
    congr 2
  | loc n =>
    have h : Post S X W m mc H σL σ (match listAt G n with
      | some xs => alloc (.lst (MP.cut xs lo hi)) G
      | none => .stuck) (kE S Q) := h
    cases e : listAt G n with
    | none => rw [e] at h; exact h.elim
    | some xs =>
      rw [e] at h
      obtain ⟨a1, vs, rfl, h1, r1⟩ := p.r.seq e ra
      rw [← hK] at h1
      refine slw sl_list I rx hs pl pu ⟨a1, vs, rfl, h1, fun q hq ok => ?_⟩
      exact Post.new p hK h hq ok fun m' em kt => ⟨_, upd_same, RVs.mono em kt (r1.cut lo hi)⟩
  | _ => exact h.elim
/-! truth -/
theorem RVs.empty {xs : List LV} {vs : List V} (r : RVs S m H xs vs) : xs.isEmpty = vs.isEmpty := by
  cases xs with
  | nil => cases (show vs = [] from r); rfl
  | cons _ _ => obtain ⟨_, _, rfl, _⟩ := r; rfl
theorem truth_ok (C : CtxE S X) (I : Inv X pins σ H s) (p : Pre S X m mc G H σL σ) {a : LV} {x : V} {v : Value} {k : Bool} {Q : Bool → Hp → Prop} (ra : RV S m H a x) (rx : RelV x v) (h : truth G a = some k) (q : Q k H) : wpAny (model X.prog X.w) X.A (truthy v) (TP X pins σ Q) X.xe s := by
  have hK := C.ok.k
  refine tru_ok pins s σ H x v Q I rx ⟨k, ?_, q⟩
  cases a with
  | non => cases ra.non_; cases h; rfl
  | bl b => cases ra.bl_; cases h; rfl
  | int i => cases ra.int_; cases h; rfl
  | str y =>
    cases ra.str_
    have h : (if lenOk y = true then some (!y.isEmpty) else none) = some k := h
    by_cases hl : lenOk y = true
    · rw [if_pos hl] at h
      cases h
      refine ⟨by simpa [Str.length] using lenOk_iff.mp hl, ?_⟩
      cases y with
      | nil => rfl
      | cons a b => simp [Str.length]; omega
    · rw [if_neg hl] at h
      cases h
  | tup xs =>
    cases h
    obtain ⟨a1, vs, rfl, h1, r1⟩ := ra.tup
    rw [← hK] at h1
    exact .inr (.inl ⟨vs, h1, by rw [r1.empty]⟩)
  | loc n =>
    have h : (match G.t.get n with
      | some (.lst xs) => some (!xs.isEmpty)
      | some (.fro xs) => some (!xs.isEmpty)
      | some (.dic xs) => some (!xs.isEmpty)
      | _ => none) = some k := h
    have lst : ∀ {xs : List LV}, listAt G n = some xs → some (!xs.isEmpty) = some k → TruV X.K x H k := fun {xs} hl e => by
      obtain ⟨a1, vs, rfl, h1, r1⟩ := p.r.seq hl ra
      rw [← hK] at h1
      cases e
      exact .inl ⟨vs, h1, by rw [r1.empty]⟩
    cases eg : G.t.get n with
    | none => rw [eg] at h; cases h
    | some o =>
      rw [eg] at h
      cases o with
      | lst xs => exact lst (by unfold listAt; rw [eg]) h
      | fro xs => exact lst (by unfold listAt; rw [eg]) h
      | dic kvs =>
        have h : some (!kvs.isEmpty) = some k := h
        cases h
        obtain ⟨c, rfl, hm⟩ := ra
        obtain ⟨c', hm', ks, h1, h2⟩ := p.r.o.obj n _ eg
        rw [hm] at hm'
        cases hm'
        refine .inr (.inr ⟨ks, h1, ?_⟩)
        cases kvs with
        | nil => cases (show ks = [] from h2); rfl
        | cons kv r => obtain ⟨a', b'⟩ := kv; obtain ⟨_, _, _, rfl, _⟩ := h2; rfl
      | _ => cases h
  | glo _ => cases h
  | rep _ => cases h
end
end MP
namespace MP
open PySem PySem.Spec L2
open PyProof.Rows hiding St

theorem Res.assoc {α β γ : Type} (r : Res α) (f : α → GH → Res β) (g : β → GH → Res γ) : (r.bind f).bind g = r.bind fun a h => (f a h).bind g := by cases r <;> rfl
section
variable {S : Stat} {X : Cx} {W : WX} {m mc : Mp} {G : GH} {H : Hp} {σL : SL} {σ : St} {pins : List (Addr × Obj)} {s : Shared} {Q : VK}
/-- two values in a row -/
theorem two {α : Type} {fa fb : SL → GH → Res LV} {f : LV → LV → GH → Res α} {k : α → Mp → Mp → GH → Hp → Prop} (p : Pre S X m mc G H σL σ) (h : Post S X W m mc H σL σ ((fa σL G).bind fun x g => (fb σL g).bind fun y g => f x y g) k) :
    tE S X W fa σ H fun x H1 => tE S X W fb σ H1 fun y H2 => ∃ a b m' mc' G', Pre S X m' mc' G' H2 σL σ ∧ RV S m' H2 a x ∧ RV S m' H2 b y ∧ Post S X W m' mc' H2 σL σ (f a b G') k :=
  ⟨m, mc, G, σL, p, Post.imp h.bind fun a m1 mc1 G1 H1 _ _ _ _ pre ⟨_, _, _, _, h1⟩ x rv => ⟨m1, mc1, G1, σL, pre, Post.imp h1.bind fun b m2 mc2 G2 H2 _ em2 _ kp2 pre2 ⟨_, _, _, _, h2⟩ y rvb => ⟨a, b, m2, mc2, G2, pre2, RV.mono em2 kp2.t rv, rvb, h2⟩⟩⟩
theorem one {α : Type} {fa : SL → GH → Res LV} {f : LV → GH → Res α} {k : α → Mp → Mp → GH → Hp → Prop} (p : Pre S X m mc G H σL σ) (h : Post S X W m mc H σL σ ((fa σL G).bind fun x g => f x g) k) :
    tE S X W fa σ H fun x H1 => ∃ a m' mc' G', Pre S X m' mc' G' H1 σL σ ∧ RV S m' H1 a x ∧ Post S X W m' mc' H1 σL σ (f a G') k :=
  ⟨m, mc, G, σL, p, Post.imp h.bind fun a m1 mc1 G1 H1 _ _ _ _ pre ⟨_, _, _, _, h1⟩ x rv => ⟨a, m1, mc1, G1, pre, rv, h1⟩⟩
theorem oneB {α : Type} {fa : SL → GH → Res Bool} {f : Bool → GH → Res α} {k : α → Mp → Mp → GH → Hp → Prop} (p : Pre S X m mc G H σL σ) (h : Post S X W m mc H σL σ ((fa σL G).bind fun x g => f x g) k) :
    tB S X W fa σ H fun b H1 => ∃ m' mc' G', Pre S X m' mc' G' H1 σL σ ∧ Post S X W m' mc' H1 σL σ (f b G') k :=
  ⟨m, mc, G, σL, p, Post.imp h.bind fun a m1 mc1 G1 H1 _ _ _ _ pre ⟨_, _, _, _, h1⟩ => ⟨m1, mc1, G1, pre, h1⟩⟩
theorem oneA {α : Type} {fa : SL → GH → Res (List LV)} {f : List LV → GH → Res α} {k : α → Mp → Mp → GH → Hp → Prop} (p : Pre S X m mc G H σL σ) (h : Post S X W m mc H σL σ ((fa σL G).bind fun x g => f x g) k) :
    tA S X W fa σ H fun xs H1 => ∃ as m' mc' G', Pre S X m' mc' G' H1 σL σ ∧ RVs S m' H1 as xs ∧ Post S X W m' mc' H1 σL σ (f as G') k :=
  ⟨m, mc, G, σL, p, Post.imp h.bind fun a m1 mc1 G1 H1 _ _ _ _ pre ⟨_, _, _, _, h1⟩ x rv => ⟨a, m1, mc1, G1, pre, rv, h1⟩⟩
variable {a b c e : Expr} {fa fb fc : SL → GH → Res LV} {pos : Pos} {ga gb gc : SL → GH → Res Bool}
theorem e_bin {op : Operator} {g : LV → LV → GH → Res LV} (ho : LOp S X W (binaryOp op) g) (ha : PE X a (tE S X W fa)) (hb : PE X b (tE S X W fb)) :
    PE X (.BinOp a op b pos) (tE S X W fun σ g0 => (fa σ g0).bind fun x g0 => (fb σ g0).bind fun y g0 => g x y g0) := by
  refine ⟨fun pins s σ H Q I ⟨m, mc, G, σL, p, h⟩ => ?_⟩
  exact wpAny_BinOp (binT ha hb I (two p h) fun v u s2 x y H2 I2 rx ry ⟨a, b, m', mc', G', p', ra, rb, q⟩ => ho pins s2 σ H2 m' mc' G' σL a b x y v u Q I2 p' ra rb rx ry q)
theorem e_ix (C : CtxE S X) (ha : PE X a (tE S X W fa)) (hb : PE X b (tE S X W fb)) (hs : PlainIx b) :
    PE X (.Subscript a b pos) (tE S X W fun σ g0 => (fa σ g0).bind fun x g0 => (fb σ g0).bind fun y g0 => ofO (semIx x y g0) g0) := by
  refine ⟨fun pins s σ H Q I ⟨m, mc, G, σL, p, h⟩ => ?_⟩
  exact Subscript_ (binT ha hb I (two p h) fun v u s2 x y H2 I2 rx ry ⟨a1, b1, m', mc', G', p', ra, rb, q⟩ => lix C a b pins s2 σ H2 m' mc' G' σL a1 b1 x y v u Q I2 p' ra rb rx ry q (hs _ _))
/-- a test of two values, with a bool -/
theorem LOp.test {op : CmpOp} {g : LV → LV → GH → Option Bool} (ho : LOp S X W (compareOp op) (lb g)) {m mc : Mp} {G : GH} {H : Hp} {la lb' : LV} {x y : V} {v u : Value} {Q : Bool → Hp → Prop} (I : Inv X pins σ H s) (p : Pre S X m mc G H σL σ) (ra : RV S m H la x) (rb : RV S m H lb' y)
    (rx : RelV x v) (ry : RelV y u) (h : Post S X W m mc H σL σ (ofO (g la lb' G) G) fun k _ _ _ H' => Q k H') : wpAny (model X.prog X.w) X.A (compareOp op v u) (fun w s' => ∃ k, w = .bool k ∧ TP X pins σ Q k s') X.xe s := by
  refine thn (ho pins s σ H m mc G σL la lb' x y v u (fun x H' => ∃ k, x = .bl k ∧ Q k H') I p ra rb rx ry ?_) fun w s' ⟨z, H', I', r, k, ez, q⟩ => ?_
  · unfold lb
    cases e : g la lb' G with
    | none => rw [e] at h; exact h.elim
    | some k =>
      rw [e] at h
      intro m' mc' H' e1 e2 kp r q x rx
      exact ⟨k, rx, h m' mc' H' e1 e2 kp r q⟩
  · subst ez
    cases r
    exact ⟨k, rfl, H', I', q⟩
theorem bo_e {r : Res Bool} {k : LV → Mp → Mp → GH → Hp → Prop} (h : Post S X W m mc H σL σ (r.bind fun v g => .ok (.bl v) g) k) : Post S X W m mc H σL σ r fun b m' mc' G' H' => k (.bl b) m' mc' G' H' := by
  cases r with
  | ok a G' => exact h
  | exn n G' => exact h
  | stuck => exact h
theorem e_cmp {op : CmpOp} {g : LV → LV → GH → Option Bool} (ho : LOp S X W (compareOp op) (lb g)) (ha : PE X a (tE S X W fa)) (hb : PE X b (tE S X W fb)) (hm : behindInMarks op b = false) :
    PE X (.Compare a [op] [b] pos) (tE S X W fun σ g0 => ((fa σ g0).bind fun x g0 => (fb σ g0).bind fun y g0 => ofO (g x y g0) g0).bind fun v g => .ok (.bl v) g) := by
  refine ⟨fun pins s σ H Q I ⟨m, mc, G, σL, p, h⟩ => ?_⟩
  have h := bo_e h
  exact wpAny_Compare1 (binT ha hb I (two p h) fun v u s2 x y H2 I2 rx ry ⟨a, b, m', mc', G', p', ra, rb, q⟩ =>
    thn (LOp.test (Q := fun k H' => Q (.bl k) H') ho I2 p' ra rb rx ry (Post.imp q fun k m2 mc2 G2 H2 _ _ _ _ _ f => f (.bl k) rfl)) fun w s' ⟨k, ew, H', I', q⟩ => ⟨.bl k, H', I', by subst ew; rfl, q⟩) hm
theorem t_cmp {op : CmpOp} {g : LV → LV → GH → Option Bool} (ho : LOp S X W (compareOp op) (lb g)) (ha : PE X a (tE S X W fa)) (hb : PE X b (tE S X W fb)) (hm : behindInMarks op b = false) :
    PT X (.Compare a [op] [b] pos) (tB S X W fun σ g0 => (fa σ g0).bind fun x g0 => (fb σ g0).bind fun y g0 => ofO (g x y g0) g0) := by
  refine ⟨fun pins s σ H Q I ⟨m, mc, G, σL, p, h⟩ => ?_⟩
  refine wpAny_isTrue_Compare1 (thn (ha.run pins s σ H _ I (two p h)) fun v s1 ⟨x, H1, I1, r1, q1⟩ => thn (hb.run pins s1 σ H1 _ I1 q1) fun u s2 ⟨y, H2, I2, r2, a', b', m', mc', G', p', ra, rb, q2⟩ =>
    thn (LOp.test (Q := Q) ho I2 p' ra rb r1 r2 q2) fun w s' ⟨k, ew, tp⟩ => ?_) hm
  subst ew
  exact wpAny_truthy_bool tp
theorem t_val (C : CtxE S X) (ha : PE X e (tE S X W fa)) (he : ∀ whole, isTrue e X.env whole = (do let v ← whole; standAt e.pos; holding [v] (truthy v))) : PT X e (tB S X W fun σ g => (fa σ g).bind fun v g => ofO (truth g v) g) := by
  refine ⟨fun pins s σ H Q I ⟨m, mc, G, σL, p, h⟩ => ?_⟩
  refine isTrue_plain (thn (ha.run pins s σ H _ I (one p h)) fun v s1 ⟨x, H1, I1, r1, a, m', mc', G', p', ra, q⟩ => ?_) (he _)
  obtain ⟨k, e, q⟩ := Post.ofO p' q
  exact truth_ok C I1 p' ra r1 e q
theorem t_not (ha : PT X a (tB S X W ga)) : PT X (.UnaryOp .Not a pos) (tB S X W fun σ g => (ga σ g).bind fun b g => .ok (!b) g) := by
  refine ⟨fun pins s σ H Q I ⟨m, mc, G, σL, p, h⟩ => ?_⟩
  refine isTrue_not (thn (ha.run pins s σ H _ I (oneB p h)) fun k s1 ⟨H1, I1, m', mc', G', p', q⟩ => ?_)
  exact ⟨H1, I1, Post.ok p' q⟩
theorem e_not (C : CtxE S X) (ha : PE X a (tE S X W fa)) : PE X (.UnaryOp .Not a pos) (tE S X W fun σ g => (fa σ g).bind fun v g => (ofO (truth g v) g).bind fun b g => .ok (.bl (!b)) g) := by
  refine ⟨fun pins s σ H Q I ⟨m, mc, G, σL, p, h⟩ => ?_⟩
  refine UnaryOp_ (thn (ha.run pins s σ H _ I (one p h)) fun v s1 ⟨x, H1, I1, r1, a, m', mc', G', p', ra, q⟩ => ?_)
  obtain ⟨k, e, q⟩ : ∃ k, truth G' a = some k ∧ Q (.bl (!k)) H1 := by
    cases e : truth G' a with
    | none => rw [e] at q; exact q.elim
    | some k => rw [e] at q; exact ⟨k, rfl, Post.ok p' q _ rfl⟩
  exact not_of (thn (truth_ok (Q := fun k H' => Q (.bl (!k)) H') C I1 p' ra r1 e q) fun c s2 ⟨H2, I2, q2⟩ => ⟨.bl (!c), H2, I2, rfl, q2⟩)
/-! and, or -/
theorem e_and {rest : List Expr} (ha : PE X a (tE S X W fa)) (hb : PE X (.BoolOp .And (b :: rest) pos) (tE S X W fb)) :
    PE X (.BoolOp .And (a :: b :: rest) pos) (tE S X W fun σ g => (fa σ g).bind fun x g => match x with | .bl true => fb σ g | .bl false => .ok (.bl false) g | _ => .stuck) := by
  refine ⟨fun pins s σ H Q I ⟨m, mc, G, σL, p, h⟩ => ?_⟩
  refine BoolOp_and (thn (ha.run pins s σ H _ I (one p h)) fun v s1 ⟨x, H1, I1, r1, a, m', mc', G', p', ra, q1⟩ => ?_)
  cases a with
  | bl c =>
    cases ra.bl_
    cases r1
    refine wpAny_truthy_bool ?_
    cases c with
    | true => exact hb.run pins s1 σ H1 Q I1 ⟨m', mc', G', σL, p', q1⟩
    | false => exact ⟨.bl false, H1, I1, rfl, Post.ok p' q1 _ rfl⟩
  | _ => exact q1.elim
theorem e_or {rest : List Expr} (ha : PE X a (tE S X W fa)) (hb : PE X (.BoolOp .Or (b :: rest) pos) (tE S X W fb)) :
    PE X (.BoolOp .Or (a :: b :: rest) pos) (tE S X W fun σ g => (fa σ g).bind fun x g => match x with | .bl true => .ok (.bl true) g | .bl false => fb σ g | _ => .stuck) := by
  refine ⟨fun pins s σ H Q I ⟨m, mc, G, σL, p, h⟩ => ?_⟩
  refine BoolOp_or (thn (ha.run pins s σ H _ I (one p h)) fun v s1 ⟨x, H1, I1, r1, a, m', mc', G', p', ra, q1⟩ => ?_)
  cases a with
  | bl c =>
    cases ra.bl_
    cases r1
    refine wpAny_truthy_bool ?_
    cases c with
    | false => exact hb.run pins s1 σ H1 Q I1 ⟨m', mc', G', σL, p', q1⟩
    | true => exact ⟨.bl true, H1, I1, rfl, Post.ok p' q1 _ rfl⟩
  | _ => exact q1.elim
theorem w_and {rest : List Expr} (ha : PT X a (tB S X W ga)) (hb : PW X (.BoolOp .And (b :: rest) pos) (tB S X W gb)) :
    PW X (.BoolOp .And (a :: b :: rest) pos) (tB S X W fun σ g => (ga σ g).bind fun x g => match x with | true => gb σ g | false => .ok false g) := by
  refine ⟨fun wh pins s σ H Q I ⟨m, mc, G, σL, p, h⟩ => ?_⟩
  refine isTrue_and (thn (ha.run pins s σ H _ I (oneB p h)) fun k s1 ⟨H1, I1, m', mc', G', p', q1⟩ => ?_)
  cases k with
  | true => exact hb.run wh pins s1 σ H1 Q I1 ⟨m', mc', G', σL, p', q1⟩
  | false => exact ⟨H1, I1, Post.ok p' q1⟩
theorem w_or {rest : List Expr} (ha : PT X a (tB S X W ga)) (hb : PW X (.BoolOp .Or (b :: rest) pos) (tB S X W gb)) :
    PW X (.BoolOp .Or (a :: b :: rest) pos) (tB S X W fun σ g => (ga σ g).bind fun x g => match x with | true => .ok true g | false => gb σ g) := by
  refine ⟨fun wh pins s σ H Q I ⟨m, mc, G, σL, p, h⟩ => ?_⟩
  refine isTrue_or (thn (ha.run pins s σ H _ I (oneB p h)) fun k s1 ⟨H1, I1, m', mc', G', p', q1⟩ => ?_)
  cases k with
  | false => exact hb.run wh pins s1 σ H1 Q I1 ⟨m', mc', G', σL, p', q1⟩
  | true => exact ⟨H1, I1, Post.ok p' q1⟩
theorem e_ife (hc : PT X c (tB S X W gc)) (ha : PE X a (tE S X W fa)) (hb : PE X b (tE S X W fb)) :
    PE X (.IfExp c a b pos) (tE S X W fun σ g => (gc σ g).bind fun x g => match x with | true => fa σ g | false => fb σ g) := by
  refine ⟨fun pins s σ H Q I ⟨m, mc, G, σL, p, h⟩ => ?_⟩
  refine wpAny_IfExp (thn (hc.run pins s σ H _ I (oneB p h)) fun k s1 ⟨H1, I1, m', mc', G', p', q1⟩ => ?_)
  cases k with
  | true => exact ha.run pins s1 σ H1 Q I1 ⟨m', mc', G', σL, p', q1⟩
  | false => exact hb.run pins s1 σ H1 Q I1 ⟨m', mc', G', σL, p', q1⟩
end
end MP
namespace MP
open PySem PySem.Spec L2
open PyProof.Rows hiding St

section
variable {S : Stat} {X : Cx} {W : WX} {m mc : Mp} {G : GH} {H : Hp} {σL : SL} {σ : St} {pins : List (Addr × Obj)} {s : Shared} {Q : VK}
variable {a b c e : Expr} {fa fb fc : SL → GH → Res LV} {pos : Pos} {ga gb gc : SL → GH → Res Bool}
theorem t_ife (hc : PT X c (tB S X W gc)) (ha : PT X a (tB S X W ga)) (hb : PT X b (tB S X W gb)) :
    PT X (.IfExp c a b pos) (tB S X W fun σ g => (gc σ g).bind fun x g => match x with | true => ga σ g | false => gb σ g) := by
  refine ⟨fun pins s σ H Q I ⟨m, mc, G, σL, p, h⟩ => ?_⟩
  refine isTrue_IfExp (thn (hc.run pins s σ H _ I (oneB p h)) fun k s1 ⟨H1, I1, m', mc', G', p', q1⟩ => ?_)
  cases k with
  | true => exact ha.run pins s1 σ H1 Q I1 ⟨m', mc', G', σL, p', q1⟩
  | false => exact hb.run pins s1 σ H1 Q I1 ⟨m', mc', G', σL, p', q1⟩
theorem w_of {op : BoolOp} {vs : List Expr} {t : TT} (h : PT X (.BoolOp op vs pos) t) : PW X (.BoolOp op vs pos) t :=
  ⟨fun wh pins s σ H Q I q => h.run pins s σ H Q I q⟩
/-! names, constants -/
theorem slot_ofO {i : Nat} {k : LV → Mp → Mp → GH → Hp → Prop} (p : Pre S X m mc G H σL σ) (h : Post S X W m mc H σL σ (ofO (slot σL i) G) k) : ∃ v, σL[i]? = some (some v) ∧ k v m mc G H := by
  obtain ⟨v, e, q⟩ := Post.ofO p h
  exact ⟨v, slot_get.mp e, q⟩
theorem e_var {i : Nat} {x : Str} (hN : X.N[i]? = some x) (hk : X.env.scope.names.lookup x = some .local) (hd : (x == ("__debug__" : Str)) = false) (hcd : (x == ("__classdict__" : Str)) = false) : PE X (.Name x pos) (tE S X W fun σ g => ofO (slot σ i) g) := by
  refine ⟨fun pins s σ H Q I ⟨m, mc, G, σL, p, h⟩ => ?_⟩
  obtain ⟨v, e, q⟩ := slot_ofO p h
  obtain ⟨u, hu, r⟩ := (SR.loc hk).mp (p.q.2 i x hN) v e
  exact (pe_var hN (.inl hk) hd hcd).run pins s σ H Q I ⟨u, hu, q u r⟩
theorem e_cvar {i : Nat} {x : Str} (hN : X.N[i]? = some x) (hk : X.env.scope.names.lookup x = some .cell ∨ X.env.scope.names.lookup x = some .free) (hd : (x == ("__debug__" : Str)) = false) (hcd : (x == ("__classdict__" : Str)) = false) : PE X (.Name x pos) (tE S X W fun σ g => ofO (cellRd g (slot σ i)) g) := by
  refine ⟨fun pins s σ H Q I ⟨m, mc, G, σL, p, h⟩ => ?_⟩
  obtain ⟨v, e, q⟩ := Post.ofO p h
  obtain ⟨n, h1, _, ov, h3, h4⟩ := (SR.cel hk).mp (p.q.2 i x hN)
  rw [slot_get.mpr h1] at e
  have e : (match cLook n G.cs with | some (some v) => some v | _ => none) = some v := e
  rw [h3] at e
  cases ov with
  | none => cases e
  | some w =>
    cases e
    obtain ⟨u, hu, r⟩ := h4 _ rfl
    exact (pe_var hN (.inr hk) hd hcd).run pins s σ H Q I ⟨u, hu, q u r⟩
theorem e_glo {k : Nat} {x : Str} (hg : Gl X x) (hm : X.mg x = some (.ref (S.ga k))) (hgf : S.gf k = true) (hd : (x == ("__debug__" : Str)) = false) : PE X (.Name x pos) (tE S X W fun _ g => .ok (.glo k) g) := by
  refine ⟨fun pins s σ H Q I ⟨m, mc, G, σL, p, h⟩ => ?_⟩
  exact (pe_glob (v := .ref (S.ga k)) hg hm rfl hd).run pins s σ H Q I (Post.ok p h _ ⟨rfl, hgf⟩)
theorem e_lit {v : LV} {x : V} {e : Expr} (he : PE X e (tC x)) (r : ∀ m H, RV S m H v x) : PE X e (tE S X W fun _ g => .ok v g) := by
  refine ⟨fun pins s σ H Q I ⟨m, mc, G, σL, p, h⟩ => ?_⟩
  exact he.run pins s σ H Q I (Post.ok p h _ (r m H))
/-! argument lists -/
theorem a_nil : PA X [] (tA S X W fun _ g => .ok [] g) := by
  refine ⟨fun pos pins s σ H Q I ⟨m, mc, G, σL, p, h⟩ => ?_⟩
  exact pa_nil.run pos pins s σ H Q I (Post.ok p h [] rfl)
theorem a_cons {es : List Expr} {fr : SL → GH → Res (List LV)} (ha : PE X e (tE S X W fa)) (hr : PA X es (tA S X W fr)) (hs : starEach (e :: es) X.env = (false, eval e X.env) :: starEach es X.env) :
    PA X (e :: es) (tA S X W fun σ g => (fa σ g).bind fun v g => (fr σ g).bind fun vs g => .ok (v :: vs) g) := by
  refine ⟨fun pos pins s σ H Q I ⟨m, mc, G, σL, p, h⟩ => ?_⟩
  refine (pa_cons ha hr hs).run pos pins s σ H Q I ?_
  refine ⟨m, mc, G, σL, p, Post.imp h.bind fun v m1 mc1 G1 H1 _ _ _ _ pre ⟨_, _, _, _, h1⟩ x rv => ⟨m1, mc1, G1, σL, pre, Post.imp h1.bind fun vs m2 mc2 G2 H2 _ em2 _ kp2 pre2 ⟨_, _, _, _, h2⟩ xs rvs => ?_⟩⟩
  exact Post.ok pre2 h2 _ (RVs.cons (RV.mono em2 kp2.t rv) rvs)
theorem e_tup {es : List Expr} {k1 : Nat} {fr : SL → GH → Res (List LV)} (C : CtxE S X) (ha : PA X es (tA S X W fr)) : PE X (.Tuple es k1 pos) (tE S X W fun σ g => (fr σ g).bind fun vs g => if lenOk vs then .ok (.tup vs) g else .stuck) := by
  refine ⟨fun pins s σ H Q I ⟨m, mc, G, σL, p, h⟩ => ?_⟩
  refine wpAny_Tuple_spliced (thn (ha.run pos pins s σ H _ I (oneA p h)) fun us s1 ⟨xs, H1, I1, r, as, m2, mc2, G2, p2, r2, q⟩ => ?_)
  obtain ⟨hl, q⟩ := Post.guard q
  have hz : xs.length ≤ sizeLine := by rw [← r2.length]; exact lenOk_iff.mp hl
  exact ⟨by rw [← r.length]; exact hz, Post.push (tk := s1.toks) I1 p2 C.ok.k q r r2 hz⟩
theorem e_lst {es : List Expr} {fr : SL → GH → Res (List LV)} (C : CtxE S X) (ha : PA X es (tA S X W fr)) : PE X (.List es pos) (tE S X W fun σ g => (fr σ g).bind fun vs g => if lenOk vs then alloc (.lst vs) g else .stuck) := by
  refine PE.w (pe_lst ha) fun σ H Q ⟨m, mc, G, σL, p, h⟩ => ?_
  obtain ⟨m0, mc0, G0, σ0, p0, h0⟩ := oneA p h
  refine ⟨m0, mc0, G0, σ0, p0, Post.imp h0 fun vs m' mc' G' H' _ _ _ _ _ f xs r => ?_⟩
  obtain ⟨as, m2, mc2, G2, p2, r2, q⟩ := f xs r
  obtain ⟨hl, q⟩ := Post.guard q
  exact ⟨by rw [← r2.length]; exact lenOk_iff.mp hl, fun pp hp ok => Post.new p2 C.ok.k q hp ok fun m' em kt => ⟨_, upd_same, RVs.mono em kt r2⟩⟩
/-! chains -/
theorem LOp.mid {op : CmpOp} {g : LV → LV → GH → Option Bool} (ho : LOp S X W (compareOp op) (lb g)) {la lb' : LV} {x y : V} {v u : Value} {r : Bool → GH → Res Bool} {k : Bool → Mp → Mp → GH → Hp → Prop} (I : Inv X pins σ H s) (p : Pre S X m mc G H σL σ) (ra : RV S m H la x) (rb : RV S m H lb' y)
    (rx : RelV x v) (ry : RelV y u) (h : Post S X W m mc H σL σ ((ofO (g la lb' G) G).bind r) k) :
    wpAny (model X.prog X.w) X.A (compareOp op v u) (fun w s' => ∃ c H' m' mc' G', w = .bool c ∧ Inv X pins σ H' s' ∧ Pre S X m' mc' G' H' σL σ ∧ RV S m' H' lb' y ∧ Post S X W m' mc' H' σL σ (r c G') k) X.xe s := by
  refine thn (LOp.test (Q := fun c H' => ∃ m' mc' G', Pre S X m' mc' G' H' σL σ ∧ RV S m' H' lb' y ∧ Post S X W m' mc' H' σL σ (r c G') k) ho I p ra rb rx ry (Post.imp h.bind fun c m' mc' G' H' _ em _ kp pre ⟨_, _, _, _, q⟩ => ⟨m', mc', G', pre, RV.mono em kp.t rb, q⟩)) fun w s' ⟨c, ew, H', I', m', mc', G', p', r', q⟩ => ⟨c, H', m', mc', G', ew, I', p', r', q⟩
theorem t_chn {op op' : CmpOp} {g g' : LV → LV → GH → Option Bool} (ho : LOp S X W (compareOp op) (lb g)) (ho' : LOp S X W (compareOp op') (lb g')) (ha : PE X a (tE S X W fa)) (hb : PE X b (tE S X W fb)) (hc : PE X c (tE S X W fc)) (hm : lastMarks [op, op'] [b, c] = false) :
    PT X (.Compare a [op, op'] [b, c] pos) (tB S X W fun σ gg => (fa σ gg).bind fun x gg => (fb σ gg).bind fun y gg => (ofO (g x y gg) gg).bind fun t gg => match t with | true => (fc σ gg).bind fun z gg => ofO (g' y z gg) gg | false => .ok false gg) := by
  refine ⟨fun pins s σ H Q I ⟨m, mc, G, σL, p, h⟩ => ?_⟩
  refine isTrue_chain (thn (ha.run pins s σ H _ I (two p h)) fun v s1 ⟨x, H1, I1, r1, q1⟩ => test_link (thn (hb.run pins s1 σ H1 _ I1 q1) fun u s2 ⟨y, H2, I2, r2, la, lb', m', mc', G', p', ra, rb, q2⟩ =>
    thn (LOp.mid ho I2 p' ra rb r1 r2 q2) fun d s3 ⟨k, H3, m3, mc3, G3, ed, I3, p3, rb3, q3⟩ => ?_)) hm
  subst ed
  refine wpAny_truthy_bool ?_
  cases k with
  | false => exact ite_ff ⟨H3, I3, Post.ok p3 q3⟩
  | true =>
    refine ite_tt (test_last (thn (hc.run pins s3 σ H3 (fun x H4 => ∃ z m4 mc4 G4, Pre S X m4 mc4 G4 H4 σL σ ∧ RV S m4 H4 z x ∧ RV S m4 H4 lb' y ∧ Post S X W m4 mc4 H4 σL σ (ofO (g' lb' z G4) G4) fun b _ _ _ H' => Q b H') I3 ⟨m3, mc3, G3, σL, p3, Post.imp q3.bind fun z m4 mc4 G4 H4 _ em4 _ kp4 p4 ⟨_, _, _, _, q4⟩ x rx => ⟨z, m4, mc4, G4, p4, rx, RV.mono em4 kp4.t rb3, q4⟩⟩) fun w' s4 ⟨z', H4, I4, r4, z, m4, mc4, G4, p4, rz, ry, q4⟩ =>
      thn (LOp.test (Q := Q) ho' I4 p4 ry rz r2 r4 q4) fun d' s5 ⟨k2, e2, tp⟩ => ?_))
    subst e2
    exact wpAny_truthy_bool tp
theorem e_chn {op op' : CmpOp} {g g' : LV → LV → GH → Option Bool} (ho : LOp S X W (compareOp op) (lb g)) (ho' : LOp S X W (compareOp op') (lb g')) (ha : PE X a (tE S X W fa)) (hb : PE X b (tE S X W fb)) (hc : PE X c (tE S X W fc)) (hm : lastMarks [op, op'] [b, c] = false) :
    PE X (.Compare a [op, op'] [b, c] pos) (tE S X W fun σ gg => ((fa σ gg).bind fun x gg => (fb σ gg).bind fun y gg => (ofO (g x y gg) gg).bind fun t gg => match t with | true => (fc σ gg).bind fun z gg => ofO (g' y z gg) gg | false => .ok false gg).bind fun v g => .ok (.bl v) g) := by
  refine ⟨fun pins s σ H Q I ⟨m, mc, G, σL, p, h⟩ => ?_⟩
  have h := bo_e h
  refine Compare_chain (thn (ha.run pins s σ H _ I (two p h)) fun v s1 ⟨x, H1, I1, r1, q1⟩ => chain_link (thn (hb.run pins s1 σ H1 _ I1 q1) fun u s2 ⟨y, H2, I2, r2, la, lb', m', mc', G', p', ra, rb, q2⟩ =>
    thn (LOp.mid ho I2 p' ra rb r1 r2 q2) fun d s3 ⟨k, H3, m3, mc3, G3, ed, I3, p3, rb3, q3⟩ => ?_)) hm
  subst ed
  refine wpAny_truthy_bool ?_
  cases k with
  | false => exact ite_ff ⟨.bl false, H3, I3, rfl, Post.ok p3 q3 _ rfl⟩
  | true =>
    refine ite_tt (chain_last (thn (hc.run pins s3 σ H3 (fun x H4 => ∃ z m4 mc4 G4, Pre S X m4 mc4 G4 H4 σL σ ∧ RV S m4 H4 z x ∧ RV S m4 H4 lb' y ∧ Post S X W m4 mc4 H4 σL σ (ofO (g' lb' z G4) G4) fun b m' mc' G' H' => kE S Q (.bl b) m' mc' G' H') I3 ⟨m3, mc3, G3, σL, p3, Post.imp q3.bind fun z m4 mc4 G4 H4 _ em4 _ kp4 p4 ⟨_, _, _, _, q4⟩ x rx => ⟨z, m4, mc4, G4, p4, rx, RV.mono em4 kp4.t rb3, q4⟩⟩) fun w' s4 ⟨z', H4, I4, r4, z, m4, mc4, G4, p4, rz, ry, q4⟩ => ?_))
    refine thn (LOp.test (Q := fun b H' => Q (.bl b) H') ho' I4 p4 ry rz r2 r4 (Post.imp q4 fun b m' mc' G' H' _ _ _ _ _ f => f (.bl b) rfl)) fun d' s5 ⟨k2, e2, H5, I5, q5⟩ => ?_
    subst e2
    exact ⟨.bl k2, H5, I5, rfl, q5⟩
/-! slices -/
def tO (S : Stat) (X : Cx) (W : WX) (f : SL → GH → Res (Option Int)) : TO := fun σ H Q => ∃ m mc G σL, Pre S X m mc G H σL σ ∧ Post S X W m mc H σL σ (f σL G) fun o _ _ _ H' => Q o H'
theorem o_none : PO X none (tO S X W fun _ g => .ok none g) := ⟨fun pins s σ H Q I ⟨m, mc, G, σL, p, h⟩ => po_none.run pins s σ H Q I (Post.ok p h)⟩
theorem o_some (ha : PE X e (tE S X W fa)) : PO X (some e) (tO S X W fun σ g => (fa σ g).bind fun y g => ofO (part y) g) := by
  refine ⟨fun pins s σ H Q I ⟨m, mc, G, σL, p, h⟩ => ?_⟩
  rw [evalPart_some]
  refine thn (ha.run pins s σ H _ I (one p h)) fun u s1 ⟨x, H1, I1, r1, a, m', mc', G', p', ra, q⟩ => ?_
  obtain ⟨o, eo, q⟩ := Post.ofO p' q
  cases a with
  | non =>
    cases ra.non_
    cases r1
    cases eo
    exact ⟨none, H1, I1, .none, q⟩
  | int i =>
    cases ra.int_
    obtain ⟨t, rfl⟩ := r1
    cases eo
    exact ⟨some i, H1, I1, .int i t, q⟩
  | _ => cases eo
theorem e_sl {lo hi : Option Expr} {p2 : Pos} {fl fh : SL → GH → Res (Option Int)} (C : CtxE S X) (ha : PE X a (tE S X W fa)) (hl : PO X lo (tO S X W fl)) (hh : PO X hi (tO S X W fh)) :
    PE X (.Subscript a (.Slice lo hi none p2) pos) (tE S X W fun σ g => (fa σ g).bind fun x g => (fl σ g).bind fun l g => (fh σ g).bind fun h g => semSl x l h g) := by
  refine ⟨fun pins s σ H Q I ⟨m, mc, G, σL, p, h⟩ => ?_⟩
  refine Subscript_ (thn (ha.run pins s σ H _ I (one p h)) fun v s1 ⟨x, H1, I1, r1, la, m1, mc1, G1, p1, ra, q1⟩ => ?_)
  refine wpAny_Slice (thn (hl.run pins s1 σ H1 (fun l H2 => ∃ m2 mc2 G2, Pre S X m2 mc2 G2 H2 σL σ ∧ RV S m2 H2 la x ∧ Post S X W m2 mc2 H2 σL σ ((fh σL G2).bind fun h g => semSl la l h g) (kE S Q)) I1 ⟨m1, mc1, G1, σL, p1, Post.imp q1.bind fun l m2 mc2 G2 H2 _ em _ kp pre ⟨_, _, _, _, q2⟩ => ⟨m2, mc2, G2, pre, RV.mono em kp.t ra, q2⟩⟩) fun vl s2 ⟨l, H2, I2, pl, m2, mc2, G2, p2', ra2, q2⟩ => ?_)
  refine thn (hh.run pins s2 σ H2 (fun h H3 => ∃ m3 mc3 G3, Pre S X m3 mc3 G3 H3 σL σ ∧ RV S m3 H3 la x ∧ Post S X W m3 mc3 H3 σL σ (semSl la l h G3) (kE S Q)) I2 ⟨m2, mc2, G2, σL, p2', Post.imp q2.bind fun h m3 mc3 G3 H3 _ em _ kp pre ⟨_, _, _, _, q3⟩ => ⟨m3, mc3, G3, pre, RV.mono em kp.t ra2, q3⟩⟩) fun vu s3 ⟨u, H3, I3, pu, m3, mc3, G3, p3, ra3, q3⟩ => ?_
  rw [evalPart_none]
  refine wpAny_pure ?_
  have I4 : Inv X pins σ H3 { s3 with heap := s3.heap.push { cls := .type "slice", data := .fields #[vl, vu, .none] } } := I3.kept (t' := s3.toks) fun b ob q => Heap.get?_push_of_some _ q
  obtain ⟨T, id, hT, ht, hg⟩ := lsl C pins _ σ H3 m3 mc3 G3 σL la x v vl vu l u s3.heap.objs.size Q I4 p3 ra3 r1 (Heap.IsSliceOf.new ..) pl pu q3
  show wpAny (model X.prog X.w) X.A (subscriptTail a (.Slice lo hi none p2) v (.ref s3.heap.objs.size)) (EP X pins σ Q) X.xe { s3 with heap := s3.heap.push { cls := .type "slice", data := .fields #[vl, vu, .none] } }
  exact tail_any (ops := [.ref s3.heap.objs.size, v]) ht hT hg (by with_unfolding_all rfl)
end
end MP
namespace MP
open PySem PySem.Spec L2
open PyProof.Rows hiding St

/-! ### the text's shapes -/
def notStar : Expr → Bool
  | .Starred _ _ => false
  | _ => true
def notAttr : Expr → Bool
  | .Attribute _ _ _ => false
  | _ => true
theorem star_cons {e : Expr} {es : List Expr} {env : Env} (h : notStar e = true) : starEach (e :: es) env = (false, eval e env) :: starEach es env := by
  cases e <;> first | rfl | cases h
theorem star_plain {env : Env} {pos : Pos} : ∀ {es : List Expr}, es.all notStar = true → (backTo pos (starEach es env)).any (·.1) = false
  | [], _ => rfl
  | e :: es, h => by
    rw [List.all_cons, Bool.and_eq_true] at h
    rw [star_cons h.1]
    show (false || (backTo pos (starEach es env)).any (·.1)) = false
    rw [star_plain h.2]
    rfl
theorem call_arm {func : Expr} {args : List Expr} {pos : Pos} {env : Env} (h : notAttr func = true) : eval (.Call func args [] pos) env = (do callWith pos (← eval func env) [] (backTo pos (starEach args env)) (backToKw pos (keywordEach [] env))) := by
  cases func <;> first | rfl | cases h

section
variable {S : Stat} {X : Cx} {W : WX} {d : Nat} {C : CallT} {m mc : Mp} {G : GH} {H : Hp} {σL : SL} {σ : St} {pins : List (Addr × Obj)} {s : Shared} {Q : VK}
theorem Ctx.e (T : Ctx S X W d C) : CtxE S X := ⟨T.ok, T.room.mono (Nat.le_add_left 1 d), T.calm⟩
theorem call_with {f : Addr} {es : List Expr} {pos : Pos} {Q : Value → Shared → Prop} {E : Value → Shared → Prop} (hf : PySem.W.FnAt f s.heap) (hs : es.all notStar = true)
    (hn : es = [] → wpAny (model X.prog X.w) X.A (call (.ref f) []) Q E s)
    (h : wpAny (model X.prog X.w) X.A (spliced (backTo pos (starEach es X.env))) (fun us s' => PySem.W.FnAt f s'.heap ∧ wpAny (model X.prog X.w) X.A (call (.ref f) us) Q E s') E s) : wpAny (model X.prog X.w) X.A (callWith pos (.ref f) [] (backTo pos (starEach es X.env)) (backToKw pos (keywordEach [] X.env))) Q E s := by
  cases es with
  | nil => exact PySem.W.callWith_F0 (first := []) hf (hn rfl)
  | cons e r =>
    rw [List.all_cons, Bool.and_eq_true] at hs
    exact PySem.W.callWith_F (first := []) hf h (star_cons hs.1) (star_plain hs.2)
/-- what a function value is -/
theorem isFn_at (T : Ctx S X W d C) (I : Inv X pins σ H s) (p : Pre S X m mc G H σL σ) {fv : LV} {x : V} (r : RV S m H fv x) (h : isFn G fv = true) : ∃ f, x = .ref f ∧ PySem.W.FnAt f s.heap := by
  cases fv with
  | glo k =>
    obtain ⟨rfl, hg⟩ := r
    obtain ⟨od, fd, slo, c, h1, _⟩ := T.glo k hg
    rw [← T.ok.k] at h1
    exact ⟨_, rfl, _, _, _, _, I.kIn _ _ h1⟩
  | loc n =>
    obtain ⟨a, rfl, hm⟩ := r
    have h : (match G.t.get n with | some (.clo _ _) => true | _ => false) = true := h
    cases e : G.t.get n with
    | none => rw [e] at h; cases h
    | some o =>
      rw [e] at h
      cases o with
      | clo k ns =>
        obtain ⟨b, hb, od, sl, fd, cl, c, e1, _⟩ := p.r.o.obj n _ e
        rw [hm] at hb
        cases hb
        exact ⟨a, rfl, _, _, _, _, objHO_at I.hok e1⟩
      | _ => cases h
  | _ => cases h
theorem run_lv (T : Ctx S X W d C) (I : Inv X pins σ H s) (p : Pre S X m mc G H σL σ) {fv : LV} {args : List LV} {f : Addr} {vs : List V} {us : List Value} (rf : RV S m H fv (.ref f)) (ra : RVs S m H args vs) (r : Vals vs us) (h : Post S X W m mc H σL σ (appF C fv args G) (kE S Q)) :
    wpAny (model X.prog X.w) X.A (call (.ref f) us) (EP X pins σ Q) X.xe s := by
  have bt : ∀ {k : Nat} {ns : List Nat} {fd : FuncData} {cl : List (Str × Addr)} {c : Addr}, IsCode S k cl c fd → C k ns args G ≠ .stuck → BindsTo s fd ⟨us, []⟩ ((S.cs k).ps.zip us) := fun {k ns fd cl c} ic hs => by
    obtain ⟨K, hl⟩ := T.snd.ok k ns args G hs
    have hl2 : us.length = (S.cs k).ps.length := by rw [← r.length, ← ra.length, hl]
    have ndp : (S.cs k).ps.Nodup := by
      have q : ((S.cs k).ps ++ (S.cs k).fr).Nodup := by rw [← K.pre]; exact K.nd.sublist (List.take_sublist _ _)
      exact (List.nodup_append.mp q).1
    exact BindsTo.of_eq (bindArgs_plain (by rw [ic.params]; exact K.p1) (by rw [ic.params]; exact K.p2) (by rw [ic.params]; exact K.p3) (by rw [ic.params]; exact K.p4) (by rw [ic.params]; exact K.p5) ic.dfl ndp hl2)
  have ns : ∀ {k ns}, Post S X W m mc H σL σ (C k ns args G) (kE S Q) → C k ns args G ≠ .stuck := fun {k ns} h e => by rw [e] at h; exact h.elim
  cases fv with
  | glo k =>
    obtain ⟨er, hg⟩ := rf
    cases er
    obtain ⟨od, fd, slo, c, h1, ic, hc, hfr⟩ := T.glo k hg
    have h : Post S X W m mc H σL σ (C k [] args G) (kE S Q) := h
    rw [← T.ok.k] at h1 hc
    exact call_fn T I p (I.kIn _ _ h1) ic (PySem.W.codeRec_of I.kIn hc) ⟨⟨by rw [hfr]; rfl, fun i y n h2 => by rw [hfr] at h2; simp at h2, fun y c h2 => (nomatch h2), fun x y c h2 => (nomatch h2), fun y b h2 => absurd h2 (by simp)⟩, fun j hj => absurd hj (by simp)⟩ (bt ic (ns h)) r ra h
  | loc n =>
    obtain ⟨a, ea, hm⟩ := rf
    cases ea
    have h : Post S X W m mc H σL σ (match G.t.get n with | some (.clo k cs) => if cs.all (fun j => (cLook j G.cs).isSome) then C k cs args G else .stuck | _ => .stuck) (kE S Q) := h
    cases e : G.t.get n with
    | none => rw [e] at h; exact h.elim
    | some o =>
      rw [e] at h
      cases o with
      | clo k cs =>
        obtain ⟨hal, h⟩ := Post.guard h
        obtain ⟨b, hb, od, sl, fd, cl, c, e1, ic, ec, cp⟩ := p.r.o.obj n _ e
        rw [hm] at hb
        cases hb
        refine call_fn T I p (objHO_at I.hok e1) ic ?_ ⟨cp, fun j hj => ?_⟩ (bt ic (ns h)) r ra h
        · obtain ⟨oc, vs', t, z1, z2, z3⟩ := codeO_at' I.hok ec
          exact ⟨c, oc, vs', t, rfl, z1, z2, z3⟩
        · have := List.all_eq_true.mp hal j hj
          exact Option.isSome_iff_exists.mp this
      | _ => exact h.elim
  | _ => exact h.elim
theorem e_cav {func : Expr} {es : List Expr} {pos : Pos} {ff : SL → GH → Res LV} {fr : SL → GH → Res (List LV)} (T : Ctx S X W d C) (hf : PE X func (tE S X W ff)) (ha : PA X es (tA S X W fr)) (hna : notAttr func = true) (hs : es.all notStar = true) (hn : es = [] → ∀ σ g, fr σ g = .ok [] g) :
    PE X (.Call func es [] pos) (tE S X W fun σ g => (ff σ g).bind fun fv g => if isFn g fv then (fr σ g).bind fun vs g => appF C fv vs g else .stuck) := by
  refine ⟨fun pins s σ H Q I ⟨m, mc, G, σL, p, h⟩ => ?_⟩
  refine Call_ (thn (hf.run pins s σ H _ I (one p h)) fun u s1 ⟨x, H1, I1, r1, fv, m1, mc1, G1, p1, rf, q⟩ => ?_) (call_arm hna)
  obtain ⟨hi, q⟩ := Post.guard q
  obtain ⟨f, rfl, fa⟩ := isFn_at T I1 p1 rf hi
  cases r1
  refine call_with fa hs (fun e => ?_) (thn (ha.run pos pins s1 σ H1 (fun vs H2 => ∃ as m2 mc2 G2, Pre S X m2 mc2 G2 H2 σL σ ∧ RV S m2 H2 fv (.ref f) ∧ RVs S m2 H2 as vs ∧ Post S X W m2 mc2 H2 σL σ (appF C fv as G2) (kE S Q)) I1
    ⟨m1, mc1, G1, σL, p1, Post.imp q.bind fun as m2 mc2 G2 H2 _ em _ kp p2 ⟨_, _, _, _, q2⟩ vs rs => ⟨as, m2, mc2, G2, p2, RV.mono em kp.t rf, rs, q2⟩⟩) fun us s2 ⟨vs, H2, I2, rs, as, m2, mc2, G2, p2, rf2, ra, q2⟩ => ⟨?_, ?_⟩)
  · subst e
    have q : Post S X W m1 mc1 H1 σL σ ((fr σL G1).bind fun vs g => appF C fv vs g) (kE S Q) := q
    rw [hn rfl] at q
    exact run_lv T I1 p1 (args := []) rf rfl .nil q
  · have hfn : isFn G2 fv = true := by
      cases fv with
      | glo k => rfl
      | loc n =>
        have q2 : Post S X W m2 mc2 H2 σL σ (match G2.t.get n with | some (.clo k cs) => if cs.all (fun j => (cLook j G2.cs).isSome) then C k cs as G2 else .stuck | _ => .stuck) (kE S Q) := q2
        show (match G2.t.get n with | some (.clo _ _) => true | _ => false) = true
        cases e : G2.t.get n with
        | none => rw [e] at q2; exact q2.elim
        | some o =>
          rw [e] at q2
          cases o with
          | clo k cs => rfl
          | _ => exact q2.elim
      | _ => exact q2.elim
    obtain ⟨f', ef, fa'⟩ := isFn_at T I2 p2 rf2 hfn
    cases ef
    exact fa'
  · exact run_lv T I2 p2 rf2 ra rs q2
/-- a function of the module, by its name -/
theorem e_cal {x : Str} {k : Nat} {es : List Expr} {p0 pos : Pos} {fr : SL → GH → Res (List LV)} (T : Ctx S X W d C) (hg : Gl X x) (hm : X.mg x = some (.ref (S.ga k))) (hgf : S.gf k = true) (hd : (x == ("__debug__" : Str)) = false) (ha : PA X es (tA S X W fr)) (hs : es.all notStar = true) (hn : es = [] → ∀ σ g, fr σ g = .ok [] g) :
    PE X (.Call (.Name x p0) es [] pos) (tE S X W fun σ g => (fr σ g).bind fun vs g => C k [] vs g) :=
  e_cav T (ff := fun _ g => .ok (.glo k) g) (e_glo hg hm hgf hd) ha rfl hs hn
end
end MP
namespace MP
open PySem PySem.Spec L2
open PyProof.Rows hiding St

/-- a call of a builtin, by values of both kinds -/
def LCall (S : Stat) (X : Cx) (W : WX) (f : Value) (g : List LV → GH → Res LV) : Prop :=
  ∀ (pins : List (Addr × Obj)) (s : Shared) (σ : St) (H : Hp) (m mc : Mp) (G : GH) (σL : SL) (as : List LV) (xs : List V) (us : List Value) (Q : VK), Inv X pins σ H s → Pre S X m mc G H σL σ → RVs S m H as xs → Vals xs us →
    Post S X W m mc H σL σ (g as G) (kE S Q) → wpAny (model X.prog X.w) X.A (call f us) (EP X pins σ Q) X.xe s
section
variable {S : Stat} {X : Cx} {W : WX} {m mc : Mp} {G : GH} {H : Hp} {σL : SL} {σ : St} {pins : List (Addr × Obj)} {s : Shared} {Q : VK}
theorem callw {f : Value} {r : List V → Hp → VK → Prop} (ho : CallR X f r) (I : Inv X pins σ H s) {xs : List V} {us : List Value} (rs : Vals xs us) (h : r xs H fun v H' => OKX X H' → Q v H') : wpAny (model X.prog X.w) X.A (call f us) (EP X pins σ Q) X.xe s :=
  thn (ho pins s σ H xs us _ I rs h) fun _ s' ⟨w, H', I', r, k⟩ => ⟨w, H', I', r, k (okx I')⟩
theorem RVs.one {a : LV} {xs : List V} (r : RVs S m H [a] xs) : ∃ x, xs = [x] ∧ RV S m H a x := by
  obtain ⟨x, r', rfl, h, h2⟩ := r
  cases h2
  exact ⟨x, rfl, h⟩
/-- exactly one argument -/
theorem one_only {b : Bi} {as : List LV} {k : LV → Mp → Mp → GH → Hp → Prop} (h : Post S X W m mc H σL σ (semBi b as G) k) : ∃ a, as = [a] := by
  cases as with
  | nil => cases b <;> exact h.elim
  | cons a r =>
    cases r with
    | nil => exact ⟨a, rfl⟩
    | cons a2 r2 => cases b <;> first | exact h.elim | (cases a <;> exact h.elim)
/-- a list or a tuple -/
theorem seqOf_at (p : Pre S X m mc G H σL σ) {a : LV} {x : V} {xs : List LV} (e : seqOf G a = some xs) (r : RV S m H a x) : ∃ q vs, x = .ref q ∧ RVs S m H xs vs ∧ ((SqL S.K H q vs ∧ ∃ n, a = .loc n) ∨ (SqT S.K H q vs ∧ a = .tup xs)) := by
  cases a with
  | tup ys =>
    cases e
    obtain ⟨q, vs, rfl, h, rs⟩ := r.tup
    exact ⟨q, vs, rfl, rs, .inr ⟨h, rfl⟩⟩
  | loc n =>
    obtain ⟨q, vs, rfl, h, rs⟩ := p.r.seq e r
    exact ⟨q, vs, rfl, rs, .inl ⟨h, n, rfl⟩⟩
  | _ => cases e
theorem lc_len (C : CtxE S X) : LCall S X W (.builtin "len") (semBi .len) := by
  intro pins s σ H m mc G σL as xs us Q I p ra rs h
  obtain ⟨a, rfl⟩ := one_only h
  obtain ⟨x, rfl, r⟩ := ra.one
  have hK := C.ok.k
  have lst : ∀ {n : Nat} {ys : List LV}, a = .loc n → listAt G n = some ys → Post S X W m mc H σL σ (.ok (.int ys.length) G) (kE S Q) → wpAny (model X.prog X.w) X.A (call (.builtin "len") us) (EP X pins σ Q) X.xe s := fun {n ys} ea hl h0 => by
    subst ea
    obtain ⟨q, vs, rfl, h1, r1⟩ := p.r.seq hl r
    rw [← hK] at h1
    exact callw call_len I rs ⟨_, vs.length, rfl, .inl ⟨vs, h1, rfl⟩, fun _ => Post.ok p h0 _ (by rw [r1.length]; rfl)⟩
  cases a with
  | tup ys =>
    obtain ⟨q, vs, rfl, h1, r1⟩ := r.tup
    rw [← hK] at h1
    exact callw call_len I rs ⟨_, vs.length, rfl, .inr ⟨vs, h1, rfl⟩, fun _ => Post.ok p h _ (by rw [r1.length]; rfl)⟩
  | str y =>
    obtain ⟨hl, h⟩ := Post.guard h
    cases r.str_
    exact callw call_len I rs ⟨_, y.length, rfl, ⟨by simpa [Str.length] using lenOk_iff.mp hl, by simp [Str.length]⟩, fun _ => Post.ok p h _ rfl⟩
  | loc n =>
    have h : Post S X W m mc H σL σ (match G.t.get n with
      | some (.lst xs) => .ok (.int xs.length) G
      | some (.fro xs) => .ok (.int xs.length) G
      | some (.dic xs) => .ok (.int xs.length) G
      | some (.set xs) => .ok (.int xs.length) G
      | _ => .stuck) (kE S Q) := h
    cases e : G.t.get n with
    | none => rw [e] at h; exact h.elim
    | some o =>
      rw [e] at h
      cases o with
      | lst ys => exact lst rfl (by unfold listAt; rw [e]) h
      | fro ys => exact lst rfl (by unfold listAt; rw [e]) h
      | dic kvs =>
        obtain ⟨c, rfl, hm⟩ := r
        obtain ⟨c', hm', ks, h1, h2⟩ := p.r.o.obj n _ e
        rw [hm] at hm'
        cases hm'
        obtain ⟨u, rfl, ru⟩ := vals1 rs
        cases ru
        have hl : ∀ {kvs : List (LV × LV)} {ks : List (Key × V)}, RKs S m H kvs ks → kvs.length = ks.length := fun {kvs} => by
          induction kvs with
          | nil => intro ks h; cases (show ks = [] from h); rfl
          | cons kv r ih =>
            obtain ⟨a', b'⟩ := kv
            intro ks h
            obtain ⟨_, _, r', rfl, _, _, h3⟩ := h
            simp [ih h3]
        exact d_len I (.inl h1) fun t s' I' => ⟨.int ks.length, H, I', ⟨t, rfl⟩, Post.ok p h _ (by rw [hl h2]; rfl)⟩
      | set ys =>
        obtain ⟨c, rfl, hm⟩ := r
        obtain ⟨c', hm', h1⟩ := p.r.o.obj n _ e
        exact h1.elim
      | _ => exact h.elim
  | _ => exact h.elim
theorem lc_tuple (C : CtxE S X) : LCall S X W (.type "tuple") (semBi .tuple) := by
  intro pins s σ H m mc G σL as xs us Q I p ra rs h
  obtain ⟨a, rfl⟩ := one_only h
  obtain ⟨x, rfl, r⟩ := ra.one
  have hK := C.ok.k
  have h : Post S X W m mc H σL σ (match seqOf G a with | some xs => .ok (.tup xs) G | none => .stuck) (kE S Q) := h
  cases e : seqOf G a with
  | none => rw [e] at h; exact h.elim
  | some ys =>
    rw [e] at h
    obtain ⟨q, vs, rfl, r1, hs⟩ := seqOf_at p e r
    rw [← hK] at hs
    rcases hs with ⟨h1, _⟩ | ⟨h1, ea⟩
    · obtain ⟨u, rfl, ru⟩ := vals1 rs
      cases ru
      obtain ⟨its, q1, pl, hz⟩ := I.list h1
      refine call_tuple_list pl.isList (fun h' kp => ?_) (by rw [List.size_toArray, ← q1.length]; exact hz)
      exact Post.push (tk := s.toks) (I.kept (t' := s.toks) kp) p hK h q1 r1 hz
    · subst ea
      exact callw call_tuple_of I rs ⟨q, vs, rfl, .inr ⟨h1, fun _ => Post.ok p h _ r⟩⟩
theorem lc_list (C : CtxE S X) : LCall S X W (.type "list") (semBi .list) := by
  intro pins s σ H m mc G σL as xs us Q I p ra rs h
  obtain ⟨a, rfl⟩ := one_only h
  obtain ⟨x, rfl, r⟩ := ra.one
  have hK := C.ok.k
  have h : Post S X W m mc H σL σ (match seqOf G a with | some xs => alloc (.lst xs) G | none => .stuck) (kE S Q) := h
  cases e : seqOf G a with
  | none => rw [e] at h; exact h.elim
  | some ys =>
    rw [e] at h
    obtain ⟨q, vs, rfl, r1, hs⟩ := seqOf_at p e r
    rw [← hK] at hs
    exact callw call_list_of I rs ⟨q, vs, rfl, hs.imp (·.1) (·.1), fun b hb ok => Post.new p hK h hb ok fun m' em kt => ⟨_, upd_same, RVs.mono em kt r1⟩⟩
theorem lc_int : LCall S X W (.type "int") (semBi .int) := by
  intro pins s σ H m mc G σL as xs us Q I p ra rs h
  obtain ⟨a, rfl⟩ := one_only h
  obtain ⟨x, rfl, r⟩ := ra.one
  cases a with
  | int i =>
    cases r.int_
    exact callw call_int1 I rs (.inl ⟨i, rfl, fun _ => Post.ok p h _ rfl⟩)
  | _ => exact h.elim
theorem lc_abs : LCall S X W (.builtin "abs") (semBi .abs) := by
  intro pins s σ H m mc G σL as xs us Q I p ra rs h
  obtain ⟨a, rfl⟩ := one_only h
  obtain ⟨x, rfl, r⟩ := ra.one
  cases a with
  | int i =>
    cases r.int_
    exact callw call_abs I rs ⟨i, rfl, fun _ => Post.ok p h _ rfl⟩
  | _ => exact h.elim
theorem bools_at : ∀ {xs : List LV} {vs : List V} {bs : List Bool}, bools xs = some bs → RVs S m H xs vs → vs = bs.map V.bl
  | [], vs, bs, e, r => by
    cases e
    exact r
  | a :: xs, vs, bs, e, r => by
    obtain ⟨v, vr, rfl, r1, r2⟩ := r
    cases a with
    | bl b =>
      have e : (match bools xs with | some s => some (b :: s) | none => none) = some bs := e
      cases e2 : bools xs with
      | none => rw [e2] at e; cases e
      | some bs' =>
        rw [e2] at e
        cases e
        cases r1.bl_
        rw [bools_at e2 r2]
        rfl
    | _ => cases e
theorem cr_allT (hc : X.calm = true) : CallR X (.builtin "all") (fun vs H Q => ∃ (a : Addr) (bs : List Bool), vs = [V.ref a] ∧ SqT X.K H a (bs.map V.bl) ∧ Q (.bl (bs.all id)) H) := by
  intro pins s σ H vs us Q I r h
  obtain ⟨a, bs, rfl, hs, q⟩ := h
  obtain ⟨its, rv, hl, _⟩ := I.tuple hs
  rw [Vals.ref1 r]
  have hb := rv.bls
  have hlt : a < s.heap.objs.size := by obtain ⟨_, e, _⟩ := hl; exact Heap.lt_size e
  have hl' : s.heap.IsTuple a its.toArray := hl
  refine call_all_walk (wpAny_pyIter_tuple hl' ?_)
  refine ⟨_, _, _, _, _, _, _, rfl, Walks.tuple (A := X.A.in1) (I.ok.hd hc) _ a (Nat.ne_of_lt hlt) its.toArray, ⟨⟨_, Heap.get?_push_size _ rfl, rfl, rfl⟩, hl'.push _⟩, truth_bools hb, fun h' tk hk => ?_⟩
  refine ⟨.bl _, H, I.kept fun b o eo => hk b o (fun hmem => ?_) (Heap.get?_push_of_some _ eo), ?_, q⟩
  · rcases List.mem_cons.mp hmem with e1 | hmem
    · exact absurd (e1 ▸ Heap.lt_size eo) (Nat.lt_irrefl _)
    · cases hmem
  · show Value.bool _ = Value.bool _
    rw [← L2.all_range, hb, List.size_toArray, List.length_map]
theorem lc_all (C : CtxE S X) : LCall S X W (.builtin "all") (semBi .all) := by
  intro pins s σ H m mc G σL as xs us Q I p ra rs h
  obtain ⟨a, rfl⟩ := one_only h
  obtain ⟨x, rfl, r⟩ := ra.one
  have hK := C.ok.k
  have h : Post S X W m mc H σL σ (match seqOf G a with | some xs => (match bools xs with | some bs => .ok (.bl (bs.all id)) G | none => .stuck) | none => .stuck) (kE S Q) := h
  cases e : seqOf G a with
  | none => rw [e] at h; exact h.elim
  | some ys =>
    rw [e] at h
    have h : Post S X W m mc H σL σ (match bools ys with | some bs => .ok (.bl (bs.all id)) G | none => .stuck) (kE S Q) := h
    cases e2 : bools ys with
    | none => rw [e2] at h; exact h.elim
    | some bs =>
      rw [e2] at h
      obtain ⟨q, vs, rfl, r1, hs⟩ := seqOf_at p e r
      rw [← hK] at hs
      have ev := bools_at e2 r1
      subst ev
      rcases hs with ⟨h1, _⟩ | ⟨h1, _⟩
      · exact callw (cr_all C.calm) I rs ⟨q, bs, rfl, h1, fun _ => Post.ok p h _ rfl⟩
      · exact callw (cr_allT C.calm) I rs ⟨q, bs, rfl, h1, fun _ => Post.ok p h _ rfl⟩
end
end MP
namespace MP
open PySem PySem.Spec L2
open PyProof.Rows hiding St

theorem shown_int {i : Int} (h : ((decide (0 ≤ i) && decide (i < 10000000000000)) || decide (i = -1)) = true) : (PyData.shown (.int i)).length ≤ 13 ∧ i.natAbs.log2 < 1920 := by
  rw [Bool.or_eq_true, Bool.and_eq_true, decide_eq_true_eq, decide_eq_true_eq, decide_eq_true_eq] at h
  rcases h with ⟨h0, h1⟩ | rfl
  · refine ⟨toString_length_le h0 (by decide) (by omega), ?_⟩
    by_cases z : i.natAbs = 0
    · rw [z]; decide
    · exact (Nat.log2_lt z).mpr (Nat.lt_of_lt_of_le (show i.natAbs < 2 ^ 44 by omega) (Nat.pow_le_pow_right (by decide) (by decide)))
  · exact ⟨by decide, by decide⟩
mutual
theorem okR_short : ∀ d : PD, PD.okR d = true → (toPy d).intsShort 13 = true ∧ (toPy d).showable = true
  | .non, _ => ⟨rfl, rfl⟩
  | .bl _, _ => ⟨rfl, rfl⟩
  | .int i, h => by
    obtain ⟨h1, h2⟩ := shown_int h
    exact ⟨by show PyData.intsShort 13 (.int i) = true; rw [PyData.intsShort]; exact decide_eq_true h1, by show PyData.showable (.int i) = true; rw [PyData.showable]; exact decide_eq_true h2⟩
  | .str _, _ => ⟨rfl, rfl⟩
  | .tup xs, h => by
    obtain ⟨h1, h2⟩ := okRs_short xs h
    exact ⟨by show PyData.intsShort 13 (.tuple (toPys xs)) = true; rw [PyData.intsShort]; exact h1, by show PyData.showable (.tuple (toPys xs)) = true; rw [PyData.showable]; exact h2⟩
  | .lst xs, h => by
    obtain ⟨h1, h2⟩ := okRs_short xs h
    exact ⟨by show PyData.intsShort 13 (.list (toPys xs)) = true; rw [PyData.intsShort]; exact h1, by show PyData.showable (.list (toPys xs)) = true; rw [PyData.showable]; exact h2⟩
theorem okRs_short : ∀ ds : List PD, PD.okRs ds = true → PyData.intsShortAll 13 (toPys ds) = true ∧ PyData.showableAll (toPys ds) = true
  | [], _ => ⟨rfl, rfl⟩
  | d :: ds, h => by
    have h : (PD.okR d && PD.okRs ds) = true := h
    rw [Bool.and_eq_true] at h
    obtain ⟨h1, h2⟩ := okR_short d h.1
    obtain ⟨k1, k2⟩ := okRs_short ds h.2
    exact ⟨by show PyData.intsShortAll 13 (toPy d :: toPys ds) = true; rw [PyData.intsShortAll, h1, k1]; rfl, by show PyData.showableAll (toPy d :: toPys ds) = true; rw [PyData.showableAll, h2, k2]; rfl⟩
end
mutual
theorem bulk_eq : ∀ d : PD, (toPy d).bulk = PD.bulk d
  | .non => rfl
  | .bl _ => rfl
  | .int _ => rfl
  | .str x => by show PyData.bulk (.str ⟨x.toArray⟩) = x.length; rw [PyData.bulk]; simp
  | .tup xs => by show PyData.bulk (.tuple (toPys xs)) = PD.bulks xs; rw [PyData.bulk]; exact bulks_eq xs
  | .lst xs => by show PyData.bulk (.list (toPys xs)) = PD.bulks xs; rw [PyData.bulk]; exact bulks_eq xs
theorem bulks_eq : ∀ ds : List PD, PyData.bulkAll (toPys ds) = PD.bulks ds
  | [] => rfl
  | d :: ds => by
    show PyData.bulkAll (toPy d :: toPys ds) = PD.bulk d + 1 + PD.bulks ds
    rw [PyData.bulkAll, bulk_eq d, bulks_eq ds]
end
section
variable {S : Stat} {X : Cx} {W : WX} {m mc : Mp} {G : GH} {H : Hp} {σL : SL} {σ : St} {pins : List (Addr × Obj)} {s : Shared} {Q : VK}
theorem lc_repr (C : CtxE S X) (gd : X.A.guards = some []) : LCall S X W (.builtin "repr") (semBi .repr) := by
  intro pins s σ H m mc G σL as xs us Q I p ra rs h
  obtain ⟨a, rfl⟩ := one_only h
  obtain ⟨x, rfl, r⟩ := ra.one
  have h : Post S X W m mc H σL σ (match rei dep G a with | some d => if isRef a && (PD.okR d && decide (PD.bulk d ≤ 1048576)) then .ok (.rep d) G else .stuck | none => .stuck) (kE S Q) := h
  cases e : rei dep G a with
  | none => rw [e] at h; exact h.elim
  | some d =>
    rw [e] at h
    obtain ⟨hc, h⟩ := Post.guard h
    rw [Bool.and_eq_true, Bool.and_eq_true, decide_eq_true_eq] at hc
    obtain ⟨hr, hk, hb⟩ := hc
    have hd := rei_isD p.r dep a x d e r
    rw [← C.ok.k] at hd
    obtain ⟨u, rfl, ru⟩ := vals1 rs
    obtain ⟨q, rfl⟩ : ∃ q, x = .ref q := by
      cases a with
      | tup _ => obtain ⟨q, _, _, rfl, _⟩ := r; exact ⟨q, rfl⟩
      | loc _ => obtain ⟨q, rfl, _⟩ := r; exact ⟨q, rfl⟩
      | _ => cases hr
    obtain ⟨bs, rd⟩ := Dp.reads I _ (.ref q) u hd.1 ru
    cases ru
    obtain ⟨k1, k2⟩ := okR_short d hk
    have hu : X.A.units + ((toPy d).depth + 1) < cLine := by
      have h1 := C.room.un
      have h2 := hd.2.2
      have h3 : (dep : Nat) = 16 := rfl
      omega
    refine PySem.repr_of_reads' (s := s) (h₀ := s.heap) rd k2 (fun z => ?_) gd hu (fun _ _ e => e) (fun h' u tk hk' => ⟨.str (toPy d).shown, H, I.kept (t' := tk) hk', ⟨u, rfl⟩, Post.ok p h _ rfl⟩)
      (PyData.shown_fits_bulk (B := 13) (by decide) (by decide) (PyData.leavesShort_of_canLay0 13 _ hd.2.1 k1) (by rw [bulk_eq]; exact hb))
    rw [PyData.hasDict_of_canLay _ hd.2.1] at z
    cases z
/-! isinstance -/
def tyV : Ty → Value
  | .non => .type "NoneType"
  | .bl => .type "bool"
  | .int => .type "int"
  | .str => .type "str"
  | .tup => .type "tuple"
  | .lst => .type "list"
  | .dic => .type "dict"
  | .exc _ => .none
def icV (S : Stat) : Ic → V × Value
  | .int => (.ty "int", .type "int")
  | .bool => (.ty "bool", .type "bool")
  | .tuple => (.ty "tuple", .type "tuple")
  | .str => (.ty "str", .type "str")
  | .cls k => (.ref (S.xa k), .ref (S.xa k))
theorem icV_cls (S : Stat) (c : Ic) : ClsV (icV S c).1 (icV S c).2 := by
  cases c with
  | cls k => exact .own _
  | _ => exact .ty _
/-- a class of the module's -/
structure XOk (S : Stat) (k : Nat) : Prop where
  c : ExcC S.K (S.xa k)
  me : PySem.W.kitOne S.K (.ref (S.xa k)) (.ref (S.xa k)) = some true
  no : ∀ t, (∀ j, t ≠ Ty.exc j) → PySem.W.kitOne S.K (tyV t) (.ref (S.xa k)) = some false
theorem tyOf_at (p : Pre S X m mc G H σL σ) {a : LV} {x : V} {t : Ty} (h : tyOf G a = some t) (r : RV S m H a x) : (∃ k q, t = .exc k ∧ x = .ref q ∧ H q = some (excHO q (.ref (S.xa k)))) ∨ ((∀ k, t ≠ .exc k) ∧ TyX S.K H x (tyV t)) := by
  cases a with
  | non => cases h; cases r.non_; exact .inr ⟨fun k e => (nomatch e), .base .non⟩
  | bl b => cases h; cases r.bl_; exact .inr ⟨fun k e => (nomatch e), .base (.bl b)⟩
  | int b => cases h; cases r.int_; exact .inr ⟨fun k e => (nomatch e), .base (.int b)⟩
  | str b => cases h; cases r.str_; exact .inr ⟨fun k e => (nomatch e), .base (.str _)⟩
  | rep d =>
    cases h
    have r : x = .str _ := r
    subst r
    exact .inr ⟨fun k e => (nomatch e), .base (.str _)⟩
  | tup xs =>
    cases h
    obtain ⟨q, vs, o, rfl, h1, _⟩ := r
    exact .inr ⟨fun k e => (nomatch e), .fTuple h1.1⟩
  | loc n =>
    have h : (match G.t.get n with
      | some (.lst _) => some Ty.lst
      | some (.fro _) => some Ty.lst
      | some (.dic _) => some Ty.dic
      | some (.exc k) => some (Ty.exc k)
      | _ => none) = some t := h
    have lst : ∀ {xs : List LV}, listAt G n = some xs → TyX S.K H x (tyV .lst) := fun {xs} hl => by
      obtain ⟨q, vs, rfl, h1, _⟩ := p.r.seq hl r
      rcases h1 with (h1 | ⟨o, h1⟩) | ⟨o, its, n, h1, h2, _⟩
      · exact .base (.lst h1)
      · exact .base (.frz h1)
      · exact .kList h1 h2
    cases e : G.t.get n with
    | none => rw [e] at h; cases h
    | some o =>
      rw [e] at h
      cases o with
      | lst xs => cases h; exact .inr ⟨fun k e => (nomatch e), lst (by unfold listAt; rw [e])⟩
      | fro xs => cases h; exact .inr ⟨fun k e => (nomatch e), lst (by unfold listAt; rw [e])⟩
      | dic kvs =>
        cases h
        obtain ⟨c, rfl, hm⟩ := r
        obtain ⟨c', hm', ks, h1, h2⟩ := p.r.o.obj n _ e
        rw [hm] at hm'
        cases hm'
        exact .inr ⟨fun k e => (nomatch e), .base (.dK h1)⟩
      | exc k =>
        cases h
        obtain ⟨c, rfl, hm⟩ := r
        obtain ⟨c', hm', h1⟩ := p.r.o.obj n _ e
        rw [hm] at hm'
        cases hm'
        exact .inl ⟨k, c, rfl, rfl, h1⟩
      | _ => cases h
  | glo _ => cases h
theorem kit_base {K : PySem.W.Frag} {c : Ic} {t : Ty} {b : Bool} {u : Value} (hc : ∀ k, c ≠ .cls k) (ht : ∀ k, t ≠ .exc k) (h : isC c t = some b) (S : Stat) (hu : u = (icV S c).2) : PySem.W.kitOne K (tyV t) u = some b := by
  subst hu
  cases c with
  | cls k => exact absurd rfl (hc k)
  | int => cases t <;> first | exact absurd rfl (ht _) | (cases h; exact kit_ty (by decide +kernel))
  | bool => cases t <;> first | exact absurd rfl (ht _) | (cases h; exact kit_ty (by decide +kernel))
  | tuple => cases t <;> first | exact absurd rfl (ht _) | (cases h; exact kit_ty (by decide +kernel))
  | str => cases t <;> first | exact absurd rfl (ht _) | (cases h; exact kit_ty (by decide +kernel))
/-- isinstance(v, c) -/
theorem isi_ok (C : CtxE S X) (I : Inv X pins σ H s) (p : Pre S X m mc G H σL σ) {a : LV} {x : V} {c : Ic} {b : Bool} {v u : Value} {Q : VK} (hX : ∀ k, c = .cls k → XOk S k) (h : semIs c a G = some b) (r : RV S m H a x) (rx : RelV x v) (hu : u = (icV S c).2) (q : Q (.bl b) H) :
    wpAny (model X.prog X.w) X.A (call (.builtin "isinstance") [v, u]) (EP X pins σ Q) X.xe s := by
  unfold semIs at h
  cases e : tyOf G a with
  | none => rw [e] at h; cases h
  | some t =>
    rw [e] at h
    have h : isC c t = some b := h
    have hK := C.ok.k
    have ru : RelV (icV S c).1 u := by
      subst hu
      cases c <;> rfl
    rcases tyOf_at p e r with ⟨k, a1, rfl, rfl, hH⟩ | ⟨nt, ty⟩
    · cases c with
      | cls j =>
        have h : (if (k == j) = true then some true else none) = some b := h
        by_cases hj : (k == j) = true
        · rw [if_pos hj] at h
          cases h
          have ej : k = j := by simpa using hj
          subst ej
          cases rx
          subst hu
          have X0 := hX k rfl
          obtain ⟨oe, vs, e1, hz, e2⟩ := excHO_at I.hok hH
          have J : PySem.W.InstAt s.heap a1 oe (S.xa k) none := by
            obtain ⟨oc, od, oda, osl⟩ := oe
            obtain ⟨h1, h2⟩ := hz
            dsimp only at h1 h2 e2
            subst h1 h2 e2
            exact ⟨e1, rfl, rfl, trivial⟩
          have c0 := X0.c
          have me := X0.me
          rw [← hK] at c0 me
          exact PySem.W.kia_one (PySem.W.handS_kitx_exc c0.hg c0.hk c0.hs c0.hd c0.ha c0.hn c0.ht c0.hm) I.kIn J me (fun z => nomatch z) fun tk => ⟨.bl true, H, I.kept (t' := tk) fun _ _ z => z, rfl, q⟩
        · rw [if_neg hj] at h
          cases h
      | _ => cases h
    · rw [← hK] at ty
      have kit : PySem.W.kitOne X.K (tyV t) (icV S c).2 = some b := by
        cases c with
        | cls k =>
          have : b = false := by cases t <;> first | exact absurd rfl (nt _) | (cases h; rfl)
          subst this
          rw [hK]
          exact (hX k rfl).no t nt
        | _ => exact kit_base (by intro k e; cases e) nt h S rfl
      refine thn (call_isi pins s σ H [x, (icV S c).1] [v, u] Q I (.cons rx (.cons ru .nil)) ⟨x, (icV S c).1, tyV t, (icV S c).2, b, rfl, icV_cls S c, ty, kit, q⟩) fun _ _ z => z
end
end MP
namespace MP
open PySem PySem.Spec L2
open PyProof.Rows hiding St

section
variable {S : Stat} {X : Cx} {W : WX} {m mc : Mp} {G : GH} {H : Hp} {σL : SL} {σ : St} {pins : List (Addr × Obj)} {s : Shared} {Q : VK}
theorem findD_at {d : PD} : ∀ {ds : List PD} {i j : Nat}, findD d i ds = some j → ∃ k z, j = i + k ∧ ds[k]? = some z ∧ PD.eqv z d = true ∧ ∀ (m : Nat) z', m < k → ds[m]? = some z' → PD.eqv z' d = false
  | [], _, _, h => by cases h
  | x :: xs, i, j, h => by
    unfold findD at h
    cases e : PD.eqv x d with
    | true =>
      rw [e] at h
      cases h
      exact ⟨0, x, rfl, rfl, e, fun m _ hm => absurd hm (Nat.not_lt_zero m)⟩
    | false =>
      rw [e] at h
      obtain ⟨k, z, rfl, h1, h2, h3⟩ := findD_at h
      refine ⟨k + 1, z, by omega, by simpa using h1, h2, fun m z' hm hz => ?_⟩
      cases m with
      | zero =>
        simp at hz
        subst hz
        exact e
      | succ m => exact h3 m z' (by omega) (by simpa using hz)
theorem toPys_get : ∀ {ds : List PD} {k : Nat} {z : PD}, ds[k]? = some z → (toPys ds)[k]? = some (toPy z)
  | [], _, _, h => by simp at h
  | x :: xs, 0, z, h => by
    simp at h
    subst h
    rfl
  | x :: xs, k + 1, z, h => by
    show (toPys xs)[k]? = _
    exact toPys_get (by simpa using h)
theorem toPys_get' : ∀ {ds : List PD} {k : Nat} {z : PyData}, (toPys ds)[k]? = some z → ∃ z', ds[k]? = some z' ∧ z = toPy z'
  | [], _, _, h => by simp [toPys] at h
  | x :: xs, 0, z, h => by
    have h : some (toPy x) = some z := h
    cases h
    exact ⟨x, rfl, rfl⟩
  | x :: xs, k + 1, z, h => by
    obtain ⟨z', h1, h2⟩ := toPys_get' (ds := xs) (k := k) h
    exact ⟨z', by simpa using h1, h2⟩
/-- t.index(x), data -/
theorem tup_index (C : CtxE S X) (I : Inv X pins σ H s) {a : Addr} {vs : List V} {ds : List PD} {d : PD} {y : V} {u : Value} {j : Nat} (hs : SqT X.K H a vs) (h1 : IsDs X.K H dep vs ds) (h2 : IsD X.K H dep y d) (ry : RelV y u) (hf : findD d 0 ds = some j) (q : Q (.int (j : Nat)) H) :
    wpAny (model X.prog X.w) X.A (call (.builtin "tuple.index") [.ref a, u]) (EP X pins σ Q) X.xe s := by
  obtain ⟨k, z, ej, hz, hzj, hno⟩ := findD_at hf
  have ej : j = k := by omega
  subst ej
  obtain ⟨bs, r1⟩ := Dp.reads I _ y u h2.1 ry
  have hroom : X.A.units + 1 + min (PyData.depthAll (toPys ds)) (toPy d).depth < cLine := depth_room (n := 0) (xs := toPys ds) C (Nat.le_trans h2.2.2 (by decide))
  obtain ⟨its, rv, ⟨⟨cls, dd, data, sls⟩, ho, hc, n, hdt⟩, hlen⟩ := I.tuple hs
  simp only at hc hdt
  subst hc hdt
  obtain ⟨as, h4⟩ := Dp.readsAll I _ _ its h1.1 rv
  have hn : its.length = (toPys ds).length := SeqAt.ReadsAll.length _ its as h4
  have hmap : its.map (SeqAt.readOf s.heap) = toPys ds := SeqAt.readsAll_map _ its as h1.2.1 h4
  obtain ⟨hjd, _⟩ := List.getElem?_eq_some_iff.mp (toPys_get hz)
  have hjl : j < its.length := by omega
  have hj : j < its.toArray.size := by simpa using hjl
  have at_ : ∀ (m : Nat) (hm : m < its.toArray.size) (z' : PyData), (toPys ds)[m]? = some z' → SeqAt.readOf s.heap its.toArray[m] = z' := by
    intro m hm z' hz'
    have hml : m < its.length := by simpa using hm
    rw [← hmap, List.getElem?_map, List.getElem?_eq_getElem hml] at hz'
    have e1 : SeqAt.readOf s.heap its[m] = z' := Option.some.inj hz'
    simpa using e1
  refine call_meets PySem.F.slot_tuple_index ⟨_, ho, rfl⟩ PySem.F.entry_tuple_index (PySem.F.args_tuple_index_2 _ _)
    (TI.tuple_indexAt a its.toArray n dd sls u (fun w => PyData.eqv (SeqAt.readOf s.heap w) (toPy d)) j hj ?_ ?_) ⟨ho, SeqAt.items_eqAt (vs := its.toArray) (show ReadsAll s.heap its.toArray.toList _ as from h4) r1 h1.2.1 h2.2.1 hroom, ?_⟩
  · show PyData.eqv (SeqAt.readOf s.heap its.toArray[j]) (toPy d) = true
    rw [at_ j hj _ (toPys_get hz), toPy_eqv]
    exact hzj
  · intro m hm hmj
    have hmd : m < (toPys ds).length := by omega
    obtain ⟨z', e1, e2⟩ := toPys_get' (List.getElem?_eq_getElem hmd)
    show PyData.eqv (SeqAt.readOf s.heap its.toArray[m]) (toPy d) = false
    rw [at_ m hm _ (List.getElem?_eq_getElem hmd), e2, toPy_eqv]
    exact hno m z' hmj e1
  · exact ⟨.int (j : Nat), H, I.tok _, ⟨_, rfl⟩, q⟩
def isTu : LV → Bool
  | .tup _ => true
  | _ => false
def mtId : Mt → Bool → String
  | .append, _ => "list.append"
  | .pop, _ => "list.pop"
  | .index, true => "tuple.index"
  | .index, false => "list.index"
def mtName : Mt → Str
  | .append => "append"
  | .pop => "pop"
  | .index => "index"
/-- behind a store: done -/
theorem Post.fin {α : Type} {n : Nat} {go : GO} {o : HO} {b : Addr} {k : α → Mp → Mp → GH → Hp → Prop} {v : α} (p : Pre S X m mc G H σL σ) (h : Post S X W m mc H σL σ ((store n go G).bind fun _ g => .ok v g) k) (hm : m n = some b) (hv : ¬ vis X b) (sf : Soft (H b)) (ro : KeepT H (upd H b o) → RO S m mc (upd H b o) b go) :
    ∃ G', k v m mc G' (upd H b o) ∧ KeepT H (upd H b o) := by
  obtain ⟨G', p', kp, _, _, _, _, h'⟩ := Post.wr (o := o) p h.bind hm hv sf ro
  exact ⟨G', Post.ok p' h', kp.t⟩
theorem lm_run (C : CtxE S X) (mt : Mt) (I : Inv X pins σ H s) (p : Pre S X m mc G H σL σ) {o : LV} {as : List LV} {x : V} {xs : List V} {v : Value} {us : List Value} (ro : RV S m H o x) (ra : RVs S m H as xs) (rx : RelV x v) (rs : Vals xs us)
    (h : Post S X W m mc H σL σ (semMt mt o as G) (kE S Q)) :
    wpAny (model X.prog X.w) X.A (call (.builtin (mtId mt (isTu o))) (v :: us)) (EP X pins σ Q) X.xe s := by
  have hK := C.ok.k
  have one : ∃ a, as = [a] := by
    cases as with
    | nil => cases mt <;> cases o <;> exact h.elim
    | cons a r =>
      cases r with
      | nil => exact ⟨a, rfl⟩
      | cons a2 r2 => cases mt <;> cases o <;> first | exact h.elim | (cases a <;> exact h.elim)
  obtain ⟨a, rfl⟩ := one
  obtain ⟨y, rfl, ry⟩ := ra.one
  obtain ⟨u, rfl, ru⟩ := vals1 rs
  cases mt with
  | append =>
    cases o with
    | loc n =>
      have h : Post S X W m mc H σL σ (match G.t.get n with
        | some (.lst xs) => if lenOk (a :: xs) then (store n (.lst (xs ++ [a])) G).bind fun _ g => .ok .non g else .stuck
        | _ => .stuck) (kE S Q) := h
      cases e : G.t.get n with
      | none => rw [e] at h; exact h.elim
      | some ob =>
        rw [e] at h
        cases ob with
        | lst ls =>
          obtain ⟨hl, h⟩ := Post.guard h
          obtain ⟨q, vs, rfl, hm, h1, r1⟩ := p.r.lst e ro
          have hv : ¬ vis X q := fun z => by rw [vis_none I z] at h1; cases h1
          have hz := lenOk_iff.mp hl
          rw [List.length_cons] at hz
          refine mt_append pins s σ H (.ref q) [y] v [u] Q I rx rs ⟨q, vs, y, rfl, rfl, h1, by rw [← r1.length]; omega, ?_⟩
          obtain ⟨G', k', _⟩ := Post.fin (o := .lst (vs ++ [y])) p h hm hv (by rw [h1]; trivial) fun kt => ⟨_, upd_same, RVs.mono (Ext.refl m) kt (RVs.append r1 ⟨y, [], rfl, ry, rfl⟩)⟩
          exact k' _ rfl
        | _ => exact h.elim
    | _ => exact h.elim
  | pop =>
    cases o with
    | loc n =>
      cases a with
      | int i =>
        have h : Post S X W m mc H σL σ (match G.t.get n with
          | some (.lst xs) => (match MP.ixN xs.length i with
            | some j => (match xs[j]? with
              | some v => (store n (.lst (xs.eraseIdx j)) G).bind fun _ g => .ok v g
              | none => .stuck)
            | none => .stuck)
          | _ => .stuck) (kE S Q) := h
        cases e : G.t.get n with
        | none => rw [e] at h; exact h.elim
        | some ob =>
          rw [e] at h
          cases ob with
          | lst ls =>
            obtain ⟨q, vs, rfl, hm, h1, r1⟩ := p.r.lst e ro
            have hv : ¬ vis X q := fun z => by rw [vis_none I z] at h1; cases h1
            have h : Post S X W m mc H σL σ (match MP.ixN ls.length i with
              | some j => (match ls[j]? with
                | some v => (store n (.lst (ls.eraseIdx j)) G).bind fun _ g => .ok v g
                | none => .stuck)
              | none => .stuck) (kE S Q) := h
            cases e2 : MP.ixN ls.length i with
            | none => rw [e2] at h; exact h.elim
            | some j =>
              rw [e2] at h
              have h : Post S X W m mc H σL σ (match ls[j]? with
                | some v => (store n (.lst (ls.eraseIdx j)) G).bind fun _ g => .ok v g
                | none => .stuck) (kE S Q) := h
              cases e3 : ls[j]? with
              | none => rw [e3] at h; exact h.elim
              | some w =>
                rw [e3] at h
                cases ry.int_
                rw [ixN_eq, r1.length] at e2
                obtain ⟨k1, k2, k3, k4⟩ := ixN_seq e2
                obtain ⟨z, hz, rz⟩ := r1.get e3
                have hle : vs.length ≤ sizeLine := (I.hok q _ h1).1
                rw [sizeLine_eq] at hle
                refine mt_popAt pins s σ H (.ref q) [.int i] v [u] Q I rx rs ⟨q, vs, i, j, z, rfl, rfl, h1, by omega, by omega, k1, hz, ?_⟩
                obtain ⟨G', k', kt⟩ := Post.fin (o := .lst (vs.eraseIdx j)) p h hm hv (by rw [h1]; trivial) fun kt => ⟨_, upd_same, RVs.mono (Ext.refl m) kt (RVs.eraseIdx j r1)⟩
                exact k' _ (RV.mono (Ext.refl m) kt rz)
          | _ => exact h.elim
      | _ => exact h.elim
    | _ => exact h.elim
  | index =>
    have h : Post S X W m mc H σL σ (match seqOf G o with
      | some xs => (match seqD G a xs with
        | some (ds, d) => (match findD d 0 ds with | some i => .ok (.int i) G | none => .stuck)
        | none => .stuck)
      | none => .stuck) (kE S Q) := h
    cases e : seqOf G o with
    | none => rw [e] at h; exact h.elim
    | some ls =>
      rw [e] at h
      have h : Post S X W m mc H σL σ (match seqD G a ls with
        | some (ds, d) => (match findD d 0 ds with | some i => .ok (.int i) G | none => .stuck)
        | none => .stuck) (kE S Q) := h
      cases e2 : seqD G a ls with
      | none => rw [e2] at h; exact h.elim
      | some w =>
        obtain ⟨ds, d⟩ := w
        rw [e2] at h
        have h : Post S X W m mc H σL σ (match findD d 0 ds with | some i => .ok (.int i) G | none => .stuck) (kE S Q) := h
        cases e3 : findD d 0 ds with
        | none => rw [e3] at h; exact h.elim
        | some j =>
          rw [e3] at h
          have q0 : Q (.int (j : Nat)) H := Post.ok p h _ rfl
          obtain ⟨q, vs, rfl, r1, hs⟩ := seqOf_at p e ro
          obtain ⟨d1, d2⟩ := seqD_isD p.r e2 ry r1
          rw [← hK] at hs d1 d2
          rcases hs with ⟨h1, n, rfl⟩ | ⟨h1, rfl⟩
          · obtain ⟨k, z, ej, hz, hzj, hno⟩ := findD_at e3
            have ej : j = k := by omega
            subst ej
            have hu : X.A.units + 65 < cLine := by have := C.room.un; omega
            have d3 := d2.list h1
            exact mt_indexD hu pins s σ H (.ref q) [y] v [u] Q I rx rs ⟨q, y, toPy d, toPys ds, j, toPy z, rfl, rfl, d3.1, d1.1, d3.shaped (by decide), d1.shaped (by decide), toPys_get hz, by rw [toPy_eqv]; exact hzj, fun m' z' hm hz' => by
              obtain ⟨w', e1, rfl⟩ := toPys_get' hz'
              rw [toPy_eqv]
              exact hno m' w' hm e1, q0⟩
          · cases rx
            exact tup_index C I h1 d2 d1 ru e3 q0
end
end MP
namespace MP
open PySem PySem.Spec L2
open PyProof.Rows hiding St

def notCall : Expr → Bool
  | .Call _ _ _ _ => false
  | _ => true
theorem base_eq {o : Expr} {attr : Str} {env : Env} {w : Sem Value} (h : notCall o = true) : attributeBase o attr env w = w := by
  cases o <;> first | rfl | cases h
section
variable {S : Stat} {X : Cx} {W : WX} {m mc : Mp} {G : GH} {H : Hp} {σL : SL} {σ : St} {pins : List (Addr × Obj)} {s : Shared} {Q : VK}
variable {a b c e o : Expr} {fa fb fc fo : SL → GH → Res LV} {pos : Pos} {fr : SL → GH → Res (List LV)}
theorem mt_pa (mt : Mt) (t : Bool) (ht : t = true → mt = .index) : ∃ T : String, PlainAttrs T ∧ Slot T (mtName mt) (mtId mt t) ∧ typeOf (.builtin (mtId mt t)) = pure (.type "method_descriptor") ∧ T = (if t then "tuple" else "list") := by
  cases mt with
  | append =>
    cases t with
    | true => cases ht rfl
    | false => exact ⟨_, PySem.F.plainAttrs_list, PySem.F.slot_list_append, PySem.F.type_list_append, rfl⟩
  | pop =>
    cases t with
    | true => cases ht rfl
    | false => exact ⟨_, PySem.F.plainAttrs_list, PySem.F.slot_list_pop, PySem.F.type_list_pop, rfl⟩
  | index =>
    cases t with
    | true => exact ⟨_, PySem.F.plainAttrs_tuple, PySem.F.slot_tuple_index, PySem.F.type_tuple_index, rfl⟩
    | false => exact ⟨_, PySem.F.plainAttrs_list, PySem.F.slot_list_index, PySem.F.type_list_index, rfl⟩
theorem recv_at (C : CtxE S X) (I : Inv X pins σ H s) (p : Pre S X m mc G H σL σ) {mt : Mt} {o : LV} {x : V} {v : Value} (h : recv mt G o = true) (r : RV S m H o x) (rx : RelV x v) : (isTu o = true → mt = .index) ∧ s.TypeIs v (if isTu o then "tuple" else "list") ∧ ∀ a, v = .ref a → ∃ ob, s.heap.get? a = some ob ∧ ob.dict = none := by
  have hK := C.ok.k
  cases o with
  | tup xs =>
    obtain ⟨a, vs, o, rfl, ⟨h1, hd⟩, _⟩ := r
    cases rx
    refine ⟨fun _ => ?_, ?_, fun a e => ?_⟩
    · cases mt with
      | index => rfl
      | _ => cases h
    · obtain ⟨its, _, pl, _⟩ := I.tuple (X := X) (a := a) (xs := vs) (.inl (.inr ⟨o, h1⟩))
      exact pl.typeIs
    · cases e
      obtain ⟨e1, _⟩ := (show s.heap.get? a = some o ∧ _ from I.hok a _ h1)
      exact ⟨o, e1, hd⟩
  | loc n =>
    have h : (listAt G n).isSome = true := h
    obtain ⟨xs, e⟩ := Option.isSome_iff_exists.mp h
    obtain ⟨a, vs, rfl, h1, _⟩ := p.r.seq e r
    rw [← hK] at h1
    obtain ⟨t1, t2⟩ := tyV_is (T := "list") I rx (.inl ⟨rfl, vs, h1⟩)
    exact ⟨fun z => (nomatch z), t1, t2⟩
  | _ => cases h
theorem few_one {env : Env} {cpos : Pos} (hs : notStar e = true) : ((backTo cpos (starEach [e] env)).all (fun x => !x.1) && (backToKw cpos (keywordEach [] env)).all (fun x => x.1.isSome)
      && decide (([e] : List Expr).length + ([] : List Keyword).length + (if ([] : List Keyword).isEmpty then 0 else 1) < 30)) = true := by
  rw [star_cons hs]
  rfl
theorem e_mt (C : CtxE S X) {mt : Mt} {apos cpos : Pos} (ho : PE X o (tE S X W fo)) (ha : PA X [e] (tA S X W fr)) (hs : notStar e = true) (hb : notCall o = true) (hl : (apos.endLine == cpos.line) = true) :
    PE X (.Call (.Attribute o (mtName mt) apos) [e] [] cpos) (tE S X W fun σ g => (fo σ g).bind fun x g => if recv mt g x then (fr σ g).bind fun vs g => semMt mt x vs g else .stuck) := by
  refine ⟨fun pins s σ H Q I ⟨m, mc, G, σL, p, h⟩ => ?_⟩
  refine wpAny_Call_method_late (base_eq hb) (few_one hs) hl rfl (thn (ho.run pins s σ H _ I (one p h)) fun v s1 ⟨x, H1, I1, r1, lo, m1, mc1, G1, p1, ro, q⟩ => ?_)
  obtain ⟨hi, q⟩ := Post.guard q
  obtain ⟨t0, t1, t2⟩ := recv_at C I1 p1 hi ro r1
  obtain ⟨T, pa, sl, ty, eT⟩ := mt_pa mt (isTu lo) t0
  rw [← eT] at t1
  refine ⟨T, _, pa, sl, ty, t1, t2, ?_⟩
  have hA := ha.run cpos pins s1 σ H1 (fun vs H2 => ∃ as m2 mc2 G2, Pre S X m2 mc2 G2 H2 σL σ ∧ RV S m2 H2 lo x ∧ RVs S m2 H2 as vs ∧ Post S X W m2 mc2 H2 σL σ (semMt mt lo as G2) (kE S Q)) I1
    ⟨m1, mc1, G1, σL, p1, Post.imp q.bind fun as m2 mc2 G2 H2 _ em _ kp p2 ⟨_, _, _, _, q2⟩ vs rs => ⟨as, m2, mc2, G2, p2, RV.mono em kp.t ro, rs, q2⟩⟩
  rw [star_cons hs] at hA ⊢
  refine Calls.callWith_builtin rfl (Calls.evalArgs_plain ?_)
  exact thn hA fun us s2 ⟨vs, H2, I2, r2, as, m2, mc2, G2, p2, ro2, ra2, q2⟩ => lm_run C mt I2 p2 ro2 ra2 r1 r2 q2
/-! builtins -/
theorem e_biB (C : CtxE S X) {x : Str} {id : String} {es : List Expr} {p0 : Pos} {g : List LV → GH → Res LV} (hc : LCall S X W (.builtin id) g) (hg : Gl X x) (hm : X.mg x = none) (hv : bootBuiltins x = some (.builtin id)) (ha : PA X (e :: es) (tA S X W fr)) (hs : (e :: es).all notStar = true) (hn : x ≠ "__name__") (hdb : (x == ("__debug__" : Str)) = false) :
    PE X (.Call (.Name x p0) (e :: es) [] pos) (tE S X W fun σ gg => (fr σ gg).bind fun vs gg => g vs gg) := by
  refine ⟨fun pins s σ H Q I ⟨m, mc, G, σL, p, h⟩ => ?_⟩
  rw [List.all_cons, Bool.and_eq_true] at hs
  refine wpAny_Call_Name_kw (ld_blt I hg hm hv ?_ hn hdb)
  exact PyProof.Rows.callWith_builtin1 (thn (ha.run pos pins s σ H _ I (oneA p h)) fun us s1 ⟨vs, H1, I1, r1, as, m1, mc1, G1, p1, ra, q⟩ => hc pins s1 σ H1 m1 mc1 G1 σL as vs us Q I1 p1 ra r1 q) (star_cons hs.1) (star_plain hs.2)
theorem e_biT (C : CtxE S X) {x : Str} {id : String} {es : List Expr} {p0 : Pos} {g : List LV → GH → Res LV} (hc : LCall S X W (.type id) g) (hg : Gl X x) (hm : X.mg x = none) (hv : bootBuiltins x = some (.type id)) (ha : PA X (e :: es) (tA S X W fr)) (hs : (e :: es).all notStar = true) (hn : x ≠ "__name__") (hdb : (x == ("__debug__" : Str)) = false) :
    PE X (.Call (.Name x p0) (e :: es) [] pos) (tE S X W fun σ gg => (fr σ gg).bind fun vs gg => g vs gg) := by
  refine ⟨fun pins s σ H Q I ⟨m, mc, G, σL, p, h⟩ => ?_⟩
  rw [List.all_cons, Bool.and_eq_true] at hs
  refine wpAny_Call_Name_kw (ld_blt I hg hm hv ?_ hn hdb)
  exact PyProof.Rows.callWith_type1 (thn (ha.run pos pins s σ H _ I (oneA p h)) fun us s1 ⟨vs, H1, I1, r1, as, m1, mc1, G1, p1, ra, q⟩ => hc pins s1 σ H1 m1 mc1 G1 σL as vs us Q I1 p1 ra r1 q) (star_cons hs.1) (star_plain hs.2)
/-- isinstance(a, C) -/
theorem e_isi (C : CtxE S X) {c : Ic} {ec : Expr} {p0 : Pos} (hX : ∀ k, c = .cls k → XOk S k) (hg : Gl X "isinstance") (hm : X.mg "isinstance" = none) (ha : PE X a (tE S X W fa)) (hs : notStar a = true) (hs2 : notStar ec = true) (hec : PE X ec (tC (icV S c).1)) :
    PE X (.Call (.Name "isinstance" p0) [a, ec] [] pos) (tE S X W fun σ g => (fa σ g).bind fun v g => (ofO (semIs c v g) g).bind fun b g => .ok (.bl b) g) := by
  refine ⟨fun pins s σ H Q I ⟨m, mc, G, σL, p, h⟩ => ?_⟩
  refine wpAny_Call_Name_kw (ld_blt I hg hm (by first | rfl | kernel_rfl) ?_ (by decide) (by decide))
  refine PyProof.Rows.callWith_builtin1 (args_cons (thn (ha.run pins s σ H _ I (one p h)) fun v s1 ⟨x, H1, I1, r1, la, m1, mc1, G1, p1, ra, q⟩ => args_cons (thn (hec.run pins s1 σ H1 (fun y H2 => y = (icV S c).1 ∧ H2 = H1) I1 ⟨rfl, rfl⟩) fun u s2 ⟨y, H2, I2, r2, ey, eH⟩ => args_nil ?_) (star_cons hs2)) (star_cons hs)) (star_cons hs) (star_plain (by simp [hs2]))
  subst ey eH
  have hu : u = (icV S c).2 := by cases c <;> exact r2
  obtain ⟨k, e, q⟩ : ∃ k, semIs c la G1 = some k ∧ Q (.bl k) H2 := by
    cases e : semIs c la G1 with
    | none => rw [e] at q; exact q.elim
    | some k => rw [e] at q; exact ⟨k, rfl, Post.ok p1 q _ rfl⟩
  exact isi_ok C I2 p1 hX e ra r1 hu q
/-! ranges -/
theorem rgI_eq : ∀ (n : Nat) (lo : Int), RVs S m H (rgI lo n) ((List.range n).map fun i => V.int (lo + (i : Nat)))
  | 0, _ => rfl
  | n + 1, lo => by
    rw [List.range_succ_eq_map, List.map_cons, List.map_map]
    refine ⟨V.int (lo + ((0 : Nat) : Int)), _, rfl, by simp [RV], ?_⟩
    have := rgI_eq n (lo + 1)
    have e : ((fun i => V.int (lo + 1 + (i : Nat))) : Nat → V) = (fun i => V.int (lo + (i : Nat))) ∘ Nat.succ := by
      funext i
      simp only [Function.comp]
      congr 1
      push_cast
      omega
    rw [e] at this
    exact this
theorem semRg_at (C : CtxE S X) {l : Bool} {lo hi : Int} {G : GH} {k : LV → Mp → Mp → GH → Hp → Prop} (h : Post S X W m mc H σL σ (semRg l lo hi G) k) : RgOk lo hi ∧ Post S X W m mc H σL σ (if l then alloc (.lst (rgI lo (hi - lo).toNat)) G else .ok (.tup (rgI lo (hi - lo).toNat)) G) k := by
  obtain ⟨hc, h⟩ := Post.guard h
  rw [Bool.and_eq_true, Bool.and_eq_true, Bool.and_eq_true, decide_eq_true_eq, decide_eq_true_eq, decide_eq_true_eq, decide_eq_true_eq] at hc
  exact ⟨RgOk.of_le hc.1 hc.2.2.2 hc.2.1 hc.2.2.1, h⟩
/-- list(range ..), tuple(range ..) -/
theorem e_rg (C : CtxE S X) {l : Bool} {p0 : Pos} {f : SL → GH → Res (Int × Int)} (hg : Gl X (if l then "list" else "tuple")) (hm : X.mg (if l then "list" else "tuple") = none) (hs : notStar e = true)
    (he : PRg X e (fun σ H Q => ∃ m mc G σL, Pre S X m mc G H σL σ ∧ Post S X W m mc H σL σ (f σL G) fun ab m' mc' G' H' => Pre S X m' mc' G' H' σL σ → Q ab.1 ab.2 H')) :
    PE X (.Call (.Name (if l then "list" else "tuple") p0) [e] [] pos) (tE S X W fun σ g => (f σ g).bind fun ab g => semRg l ab.1 ab.2 g) := by
  have key : ∀ {m mc G H σL σ Q}, Pre S X m mc G H σL σ → Post S X W m mc H σL σ ((f σL G).bind fun ab g => semRg l ab.1 ab.2 g) (kE S Q) → (fun σ H Q => ∃ m mc G σL, Pre S X m mc G H σL σ ∧ Post S X W m mc H σL σ (f σL G) fun ab m' mc' G' H' => Pre S X m' mc' G' H' σL σ → Q ab.1 ab.2 H') σ H fun a b H' => ∃ m' mc' G', Pre S X m' mc' G' H' σL σ ∧ Post S X W m' mc' H' σL σ (semRg l a b G') (kE S Q) :=
    fun {m mc G H σL σ Q} p h => ⟨m, mc, G, σL, p, Post.imp h.bind fun ab m' mc' G' H' _ _ _ _ p' ⟨_, _, _, _, q⟩ _ => ⟨m', mc', G', p', q⟩⟩
  cases l with
  | true =>
    refine PE.w (pe_listRg C.calm hg hm he (star_cons hs)) fun σ H Q ⟨m, mc, G, σL, p, h⟩ => ?_
    obtain ⟨m0, mc0, G0, σ0, p0, h0⟩ := key p h
    refine ⟨m0, mc0, G0, σ0, p0, Post.imp h0 fun ab m1 mc1 G1 H1 _ _ _ _ p1 f p1' => ?_⟩
    obtain ⟨m2, mc2, G2, p2, q⟩ := f p1'
    obtain ⟨ok, q⟩ := semRg_at C q
    refine ⟨ok, fun b hb okx => Post.new p2 C.ok.k q hb okx fun m' em kt => ⟨_, upd_same, ?_⟩⟩
    exact rgI_eq _ _
  | false =>
    refine ⟨fun pins s σ H Q I ⟨m, mc, G, σL, p, h⟩ => ?_⟩
    refine Call_ (ld_blt I hg hm boot_tuple (PyProof.Rows.callWith_type1 (args_cons (thn (he pins s σ H (fun a b H' => ∃ m' mc' G', Pre S X m' mc' G' H' σL σ ∧ Post S X W m' mc' H' σL σ (semRg false a b G') (kE S Q)) I (key p h)) fun x s1 ⟨r, a, b, t, u, v, H1, ex, hr, I1, m2, mc2, G2, p2, q⟩ => args_nil ?_) (star_cons hs)) (star_cons hs)))
    subst ex
    obtain ⟨ok, q⟩ := semRg_at C q
    obtain ⟨b1, b2, b3, b4, b5⟩ := ok
    refine call_tuple_range (n := (b - a).toNat) (I1.ok.hd C.calm) hr (small_one b1 b2 b3 b4) (rangeSize_nat a b) b5 fun h' tk acc hk hi => ?_
    have I2 : Inv X pins σ H1 { s1 with heap := h', toks := tk } := I1.kept hk
    have := Post.push (tk := tk) I2 p2 C.ok.k q (vals_rg hi) (rgI_eq _ _) (by rw [rgV_length, sizeLine_eq]; omega)
    rw [tupO, Array.toArray_toList] at this
    exact this
theorem prg1 {p0 : Pos} (hg : Gl X "range") (hm : X.mg "range" = none) (ha : PE X a (tE S X W fa)) (hs : notStar a = true) :
    PRg X (.Call (.Name "range" p0) [a] [] pos) (fun σ H Q => ∃ m mc G σL, Pre S X m mc G H σL σ ∧ Post S X W m mc H σL σ ((fa σL G).bind fun x g => match x with | .int i => Res.ok ((0 : Int), i) g | _ => .stuck) fun ab m' mc' G' H' => Pre S X m' mc' G' H' σL σ → Q ab.1 ab.2 H') := by
  intro pins s σ H Q I ⟨m, mc, G, σL, p, h⟩
  refine prg_1 hg hm ha (star_cons hs) pins s σ H Q I ?_
  obtain ⟨m0, mc0, G0, σ0, p0, h0⟩ := one p h
  refine ⟨m0, mc0, G0, σ0, p0, Post.imp h0 fun v m1 mc1 G1 H1 _ _ _ _ p1 f x rx => ?_⟩
  obtain ⟨la, m2, mc2, G2, p2, ra, q⟩ := f x rx
  cases la with
  | int i => exact ⟨i, ra.int_, Post.ok p2 q p2⟩
  | _ => exact q.elim
theorem prg2 {p0 : Pos} (hg : Gl X "range") (hm : X.mg "range" = none) (ha : PE X a (tE S X W fa)) (hb : PE X b (tE S X W fb)) (hs : notStar a = true) (hs2 : notStar b = true) :
    PRg X (.Call (.Name "range" p0) [a, b] [] pos) (fun σ H Q => ∃ m mc G σL, Pre S X m mc G H σL σ ∧ Post S X W m mc H σL σ ((fa σL G).bind fun x g => (fb σL g).bind fun y g => match x, y with | .int i, .int j => Res.ok (i, j) g | _, _ => .stuck) fun ab m' mc' G' H' => Pre S X m' mc' G' H' σL σ → Q ab.1 ab.2 H') := by
  intro pins s σ H Q I ⟨m, mc, G, σL, p, h⟩
  refine prg_2 hg hm ha hb (star_cons hs) (star_cons hs2) (star_plain (by simp [hs2])) pins s σ H Q I ?_
  obtain ⟨m0, mc0, G0, σ0, p0, h0⟩ := two p h
  refine ⟨m0, mc0, G0, σ0, p0, Post.imp h0 fun v m1 mc1 G1 H1 _ _ _ _ p1 f x rx => ?_⟩
  obtain ⟨m0', mc0', G0', σ0', p0', h0'⟩ := f x rx
  refine ⟨m0', mc0', G0', σ0', p0', Post.imp h0' fun v m1 mc1 G1 H1 _ _ _ _ p1 f y ry => ?_⟩
  obtain ⟨la, lb', m2, mc2, G2, p2, ra, rb, q⟩ := f y ry
  cases la with
  | int i =>
    cases lb' with
    | int j => exact ⟨i, j, ra.int_, rb.int_, Post.ok p2 q p2⟩
    | _ => exact q.elim
  | _ => exact q.elim
end
end MP
namespace MP
open PySem PySem.Spec L2
open PyProof.Rows hiding St

section
variable {S : Stat} {m mc : Mp} {G : GH} {H : Hp}
theorem RKs.has {k : LV} {k' : Key} (hk : keyR k k') : ∀ {kvs : List (LV × LV)} {ks : List (Key × V)}, RKs S m H kvs ks → dHas k kvs = ks.any fun kv => decide (kv.1 = k')
  | [], ks, h => by
    cases (show ks = [] from h)
    rfl
  | (a, w) :: r, ks, h => by
    obtain ⟨a', w', r', rfl, h1, h2, h3⟩ := h
    show (kEq a k || dHas k r) = (decide (a' = k') || r'.any fun kv => decide (kv.1 = k'))
    rw [RKs.has hk h3, keyR_eq h1 hk]
theorem RKs.rep {k v : LV} {k' : Key} {v' : V} (hk : keyR k k') (hv : RV S m H v v') : ∀ {kvs : List (LV × LV)} {ks : List (Key × V)}, RKs S m H kvs ks → RKs S m H (dRep k v kvs) (ks.map fun kv => if kv.1 = k' then (kv.1, v') else kv)
  | [], ks, h => by
    cases (show ks = [] from h)
    rfl
  | (a, w) :: r, ks, h => by
    obtain ⟨a', w', r', rfl, h1, h2, h3⟩ := h
    have q := keyR_eq h1 hk
    refine ⟨a', if a' = k' then v' else w', _, ?_, h1, ?_, RKs.rep hk hv h3⟩
    · rw [List.map_cons]
      by_cases e : a' = k' <;> simp [e]
    · by_cases e : a' = k'
      · rw [if_pos e]
        rw [decide_eq_true e] at q
        rw [if_pos q.symm]
        exact hv
      · rw [if_neg e]
        rw [decide_eq_false e] at q
        rw [if_neg (by rw [← q]; exact Bool.false_ne_true)]
        exact h2
theorem RKs.snoc {k v : LV} {k' : Key} {v' : V} (hk : keyR k k') (hv : RV S m H v v') : ∀ {kvs : List (LV × LV)} {ks : List (Key × V)}, RKs S m H kvs ks → RKs S m H (kvs ++ [(k, v)]) (ks ++ [(k', v')])
  | [], ks, h => by
    cases (show ks = [] from h)
    exact ⟨k', v', [], rfl, hk, hv, rfl⟩
  | (a, w) :: r, ks, h => by
    obtain ⟨a', w', r', rfl, h1, h2, h3⟩ := h
    exact ⟨a', w', _, rfl, h1, h2, RKs.snoc hk hv h3⟩
theorem RKs.put {k v : LV} {k' : Key} {v' : V} (hk : keyR k k') (hv : RV S m H v v') {kvs : List (LV × LV)} {ks : List (Key × V)} (h : RKs S m H kvs ks) : RKs S m H (dPut k v kvs) (putK ks k' v') := by
  unfold dPut putK
  rw [RKs.has hk h]
  split
  · exact RKs.rep hk hv h
  · exact RKs.snoc hk hv h
theorem RKs.merge : ∀ {lps : List (LV × LV)} {kvs : List (Key × V)} {acc : List (LV × LV)} {ks : List (Key × V)}, RKs S m H lps kvs → RKs S m H acc ks → RKs S m H (mkD lps acc) (mergeK ks kvs)
  | [], kvs, acc, ks, h, h' => by
    cases (show kvs = [] from h)
    exact h'
  | (a, w) :: r, kvs, acc, ks, h, h' => by
    obtain ⟨a', w', r', rfl, h1, h2, h3⟩ := h
    show RKs S m H (mkD r (dPut a w acc)) (mergeK (putK ks a' w') r')
    exact RKs.merge h3 (RKs.put h1 h2 h')
theorem RKs.length : ∀ {kvs : List (LV × LV)} {ks : List (Key × V)}, RKs S m H kvs ks → kvs.length = ks.length
  | [], ks, h => by cases (show ks = [] from h); rfl
  | (a, w) :: r, ks, h => by
    obtain ⟨a', w', r', rfl, h1, h2, h3⟩ := h
    simp [RKs.length h3]
def flat : List (V × V) → List V
  | [] => []
  | (x, y) :: r => x :: y :: flat r
theorem pairUp_at : ∀ {ps : List (V × V)} {as : List LV} {lps : List (LV × LV)}, pairUp as = some lps → RVs S m H as (flat ps) → ∃ kvs : List (Key × V), ps = kvs.map (fun kv => (kV kv.1, kv.2)) ∧ RKs S m H lps kvs
  | [], as, lps, e, r => by
    cases as with
    | nil => cases e; exact ⟨[], rfl, rfl⟩
    | cons a as => obtain ⟨_, _, z, _⟩ := r; cases z
  | (x, y) :: ps, as, lps, e, r => by
    cases as with
    | nil => cases (show flat ((x, y) :: ps) = [] from r)
    | cons a as =>
      obtain ⟨x', r', z, h1, h2⟩ := r
      cases z
      cases as with
      | nil => cases (show y :: flat ps = [] from h2)
      | cons b as =>
        obtain ⟨y', r', z, h3, h4⟩ := h2
        cases z
        have e : (if isKey a = true then (match pairUp as with | some s => some ((a, b) :: s) | none => none) else none) = some lps := e
        by_cases hk : isKey a = true
        · rw [if_pos hk] at e
          cases e2 : pairUp as with
          | none => rw [e2] at e; cases e
          | some s =>
            rw [e2] at e
            cases e
            obtain ⟨kvs, rfl, hr⟩ := pairUp_at e2 h4
            obtain ⟨k', rfl, hkr⟩ := isKey_of hk h1
            exact ⟨(k', y) :: kvs, rfl, k', y, kvs, rfl, hkr, h3, hr⟩
        · rw [if_neg hk] at e
          cases e
end
section
variable {S : Stat} {X : Cx} {W : WX} {m mc : Mp} {G : GH} {H : Hp} {σL : SL} {σ : St} {pins : List (Addr × Obj)} {s : Shared} {Q : VK}
variable {fa fr : SL → GH → Res LV} {pos : Pos}
/-- pairs of a display -/
def JD (S : Stat) (X : Cx) (W : WX) (f : SL → GH → Res (List LV)) (keys : List (Option Expr)) (values : List Expr) : Prop := ∀ pos : Pos, ∃ trs, PPs X pos keys values trs ∧ ∀ (m mc : Mp) (G : GH) (σL : SL) (σ : St) (H : Hp) (k : List LV → Mp → Mp → GH → Hp → Prop) (Q : List (V × V) → Hp → Prop), Pre S X m mc G H σL σ → Post S X W m mc H σL σ (f σL G) k →
  (∀ ps H' as m' mc' G', Pre S X m' mc' G' H' σL σ → RVs S m' H' as (flat ps) → k as m' mc' G' H' → Q ps H') → tPairs trs σ H Q
/-- .. a value first -/
def JV (S : Stat) (X : Cx) (W : WX) (f : SL → GH → Res (List LV)) (keys : List (Option Expr)) (v : Expr) (values : List Expr) : Prop := ∀ pos : Pos, ∃ tv trs, PE X v tv ∧ PPs X pos keys values trs ∧ ∀ (m mc : Mp) (G : GH) (σL : SL) (σ : St) (H : Hp) (k : List LV → Mp → Mp → GH → Hp → Prop) (Q : V → List (V × V) → Hp → Prop), Pre S X m mc G H σL σ → Post S X W m mc H σL σ (f σL G) k →
  (∀ y ps H' as m' mc' G', Pre S X m' mc' G' H' σL σ → RVs S m' H' as (y :: flat ps) → k as m' mc' G' H' → Q y ps H') → tv σ H fun y H1 => tPairs trs σ H1 fun ps H' => Q y ps H'
theorem jd_nil : JD S X W (fun _ g => .ok [] g) [] [] := fun pos => ⟨[], pps_nil, fun m mc G σL σ H k Q p h f => f [] H [] m mc G p rfl (Post.ok p h)⟩
theorem jv_cons {v : Expr} {f : SL → GH → Res (List LV)} {keys : List (Option Expr)} {values : List Expr} (hv : PE X v (tE S X W fa)) (hr : JD S X W f keys values) : JV S X W (fun σ g => (fa σ g).bind fun v g => (f σ g).bind fun vs g => .ok (v :: vs) g) keys v values := fun pos => by
  obtain ⟨trs, h1, h2⟩ := hr pos
  refine ⟨_, trs, hv, h1, fun m mc G σL σ H k Q p h g => ⟨m, mc, G, σL, p, Post.imp h.bind fun a m1 mc1 G1 H1 _ _ _ _ p1 ⟨_, _, _, _, q⟩ y ry => ?_⟩⟩
  refine h2 m1 mc1 G1 σL σ H1 (fun vs m' mc' G' H' => RV S m' H' a y ∧ k (a :: vs) m' mc' G' H') _ p1 (Post.imp q.bind fun vs m' mc' G' H' _ em _ kp p' ⟨_, _, _, _, q'⟩ => ⟨RV.mono em kp.t ry, Post.ok p' q'⟩) fun ps H' as m' mc' G' p' rs ⟨ra, kk⟩ => g y ps H' (a :: as) m' mc' G' p' ⟨y, _, rfl, ra, rs⟩ kk
theorem jd_cons {e v : Expr} {f : SL → GH → Res (List LV)} {keys : List (Option Expr)} {values : List Expr} (hk : PE X e (tE S X W fa)) (hr : JV S X W f keys v values) : JD S X W (fun σ g => (fa σ g).bind fun v g => (f σ g).bind fun vs g => .ok (v :: vs) g) (some e :: keys) (v :: values) := fun pos => by
  obtain ⟨tv, trs, h0, h1, h2⟩ := hr pos
  refine ⟨_, pps_cons hk h0 h1, fun m mc G σL σ H k Q p h g => ⟨m, mc, G, σL, p, Post.imp h.bind fun a m1 mc1 G1 H1 _ _ _ _ p1 ⟨_, _, _, _, q⟩ x rx => ?_⟩⟩
  refine h2 m1 mc1 G1 σL σ H1 (fun vs m' mc' G' H' => RV S m' H' a x ∧ k (a :: vs) m' mc' G' H') (fun y ps H' => Q ((x, y) :: ps) H') p1 (Post.imp q.bind fun vs m' mc' G' H' _ em _ kp p' ⟨_, _, _, _, q'⟩ => ⟨RV.mono em kp.t rx, Post.ok p' q'⟩) fun y ps H' as m' mc' G' p' rs ⟨ra, kk⟩ => g ((x, y) :: ps) H' (a :: as) m' mc' G' p' ⟨x, _, rfl, ra, rs⟩ kk
/-- a new object: what it gives -/
theorem Post.newP {go : GO} {o : HO} {α : Type} {b : Addr} {k : α → Mp → Mp → GH → Hp → Prop} {f : LV → GH → Res α} (p : Pre S X m mc G H σL σ) (hK : X.K = S.K) (h : Post S X W m mc H σL σ ((alloc go G).bind f) k) (hn : H b = none) (ok : OKX X (upd H b o)) (ro : ∀ m', Ext m m' → KeepT H (upd H b o) → RO S m' mc (upd H b o) b go) :
    ∃ G', alloc go G = .ok (.loc G.size) G' ∧ Pre S X (m.ins G.size b) mc G' (upd H b o) σL σ ∧ Ext m (m.ins G.size b) ∧ KeepT H (upd H b o) ∧ Post S X W (m.ins G.size b) mc (upd H b o) σL σ (f (.loc G.size) G') k := by
  obtain ⟨hv, hk⟩ := ok.new
  have off : ∀ a, a ≠ b → upd H b o a = H a := fun a ha => upd_ne ha
  have sf : Soft (H b) := by rw [hn]; trivial
  have h0 := h.bind
  cases e : alloc go G with
  | ok v G' =>
    rw [e] at h0
    obtain ⟨R, em, kp, rv⟩ := Rel.new p.r e hn off (ro _ (Mp.ins_ext p.r.o.free) (keep_off off sf).t)
    obtain ⟨hvv, _, _, _, hcs⟩ := alloc_ok e
    subst hvv
    obtain ⟨p', _, _, _, q⟩ := h0 _ mc _ em (Ext.refl mc) kp R (p.q.mono em (Ext.refl mc) kp.t hcs)
    exact ⟨G', rfl, p', em, kp.t, q⟩
  | exn k G' => exact (alloc_exn e).elim
  | stuck => rw [e] at h0; exact h0.elim
theorem e_dct (C : CtxE S X) {f : SL → GH → Res (List LV)} {keys : List (Option Expr)} {values : List Expr} (hj : JD S X W f keys values) (hall : keys.all (·.isSome) = true) (hl : keys.length = values.length) (h0 : keys ≠ []) (h15 : keys.length ≤ 15) :
    PE X (.Dict keys values pos) (tE S X W fun σ g => (alloc (.dic []) g).bind fun d g1 => (f σ g1).bind fun vs g2 => match pairUp vs, g2.t.get g.size with
      | some ps, some (.dic []) => if decide (ps.length ≤ 15) then (store g.size (.dic (mkD ps [])) g2).bind fun _ g3 => .ok d g3 else .stuck
      | _, _ => .stuck) := by
  refine ⟨fun pins s σ H Q I ⟨m, mc, G, σL, p, h⟩ => ?_⟩
  have hn := I.hok.fresh (Nat.le_refl s.heap.objs.size)
  have I1 := I.laid (a := s.heap.objs.size) (o := .dK []) (h' := s.heap.push { cls := .type "dict", data := .dict #[] }) (t' := s.toks) (fun _ _ q => Heap.get?_push_of_some _ q) (Nat.le_refl _) (dk_empty s.heap I.big)
  obtain ⟨G1, ea, p1, em1, kt1, h1⟩ := Post.newP p C.ok.k h hn (okx I1) fun m' em kt => ⟨[], upd_same, rfl⟩
  obtain ⟨trs, hp, hq⟩ := hj pos
  obtain ⟨hvis, _⟩ := (okx I1).new
  refine wpAny_Dict_walk (knd := mixKind X.prog X.w) hall hl h0 h15 ?_
  have := hq _ mc G1 σL σ _ (fun as m' mc' G' H' => Ext (m.ins G.size s.heap.objs.size) m' ∧ Post S X W m' mc' H' σL σ (match pairUp as, G'.t.get G.size with
      | some ps, some (.dic []) => if decide (ps.length ≤ 15) then (store G.size (.dic (mkD ps [])) G').bind fun _ g3 => .ok (.loc G.size) g3 else .stuck
      | _, _ => .stuck) (kE S Q)) (fun ps H2 => H2 s.heap.objs.size = some (.dK []) ∧ ∃ kvs : List (Key × V), ps = kvs.map (fun kv => (kV kv.1, kv.2)) ∧ kvs.length ≤ 15 ∧ Q (.ref s.heap.objs.size) (upd H2 s.heap.objs.size (.dK (mergeK [] kvs)))) p1 (Post.imp h1.bind fun vs m' mc' G' H' _ em _ _ _ ⟨_, _, _, _, q⟩ => ⟨em, q⟩) ?_
  · refine thn (hp.run pins _ σ _ _ I1 this) fun ws s2 ⟨ps, H2, I2, rel, e, kvs, ep, lk, q2⟩ => ?_
    subst ep
    obtain ⟨rs, c, rk⟩ := carries_of (P := X.prog) (w := X.w) rel
    obtain ⟨z, hd, vs0, r0, dd⟩ := dk_of I2.hok e
    cases r0
    refine ⟨rs, c, dd, fun h' dd' hs => ⟨.ref s.heap.objs.size, _, ?_, rfl, q2⟩⟩
    have hz : (mergeK [] kvs).length ≤ sizeLine := by
      have h1 := length_mergeK kvs []
      rw [List.length_nil] at h1
      rw [sizeLine_eq]; omega
    have he : ∃ q, h'.get? s.heap.objs.size = some q := let ⟨q, _, _, hq, _⟩ := dd'; ⟨q, hq⟩
    exact d_write I2 (by rw [e]; exact True.intro) hs he (dk_new hz hd (rk.merge .nil) dd')
  · intro ps H2 as m2 mc2 G2 p2 rs ⟨em2, q⟩
    cases e1 : pairUp as with
    | none => rw [e1] at q; exact q.elim
    | some lps =>
      rw [e1] at q
      cases e2 : G2.t.get G.size with
      | none => rw [e2] at q; exact q.elim
      | some go =>
        rw [e2] at q
        cases go with
        | dic l =>
          cases l with
          | cons _ _ => exact q.elim
          | nil =>
            obtain ⟨hc, q⟩ := Post.guard q
            have hm2 : m2 G.size = some s.heap.objs.size := em2 _ _ Mp.ins_same
            obtain ⟨b', hb', ks, z1, z2⟩ := p2.r.o.obj _ _ e2
            rw [hm2] at hb'
            cases hb'
            cases (show ks = [] from z2)
            obtain ⟨kvs, rfl, hr⟩ := pairUp_at e1 rs
            refine ⟨z1, kvs, rfl, by rw [← hr.length]; exact of_decide_eq_true hc, ?_⟩
            obtain ⟨G', k', _⟩ := Post.fin (o := .dK (mergeK [] kvs)) p2 q hm2 hvis (by rw [z1]; trivial) fun kt => ⟨_, upd_same, RKs.mono (Ext.refl m2) kt (RKs.merge hr rfl)⟩
            exact k' _ ⟨_, rfl, hm2⟩
        | _ => exact q.elim
end
end MP
namespace MP
open PySem PySem.Spec L2
open PyProof.Rows hiding St

/-! ### a function is made -/
/-- what the new function's data are -/
structure Made (env : Env) (qual : Str) (params : Arguments) (fb : FuncBody) (scope : Scope) (c' : Addr) (fd : FuncData) : Prop where
  q : fd.qualname = qual
  ps : fd.params = params
  b : fd.body = fb
  sc : fd.scope = scope
  g : fd.globals = mainGlobals
  cl : fd.closure = cloFrom env.cells scope.names []
  d : fd.defaults = .none
  c : fd.code = .ref c'
  bl : fd.builtins = builtinsNs
abbrev fnO (fd : FuncData) : Obj := { cls := .type "function", data := .func fd }
section
variable {X : Cx} {pins : List (Addr × Obj)} {σ : St} {H : Hp} {s : Shared} {T : List NdefX.NTab} {nm : Nat → Nat → Str} {P : Addr} {qual : Str} {pos : Pos} {ps : Array Value}
/-- nothing but a table has changed -/
theorem ExtN.push {H H1 : Hp} {f : Addr} {o : HO} (e : LamX.ExtN H H1) (n : H1 f = none) : LamX.ExtN H (upd H1 f o) := fun b u hb hn => by
  have := e b u hb hn
  rw [upd_ne (ne_of_none this n)]
  exact this
theorem fn_new (I : Inv X pins σ H s) (hP : H P = some (.tbl ps)) (ht : TriplesOk ps.toList) (ha : ∀ (p' : Pos) (cv : Value), codeAmong p' ps.toList = some cv → ∃ c, cv = .ref c ∧ H c = some (LamX.CodeO c (nm p'.line p'.col))) (hT : NdefX.TabsN T H) (hn : nm pos.line pos.col = qual) (hu : ∀ p ∈ T, p.1 = P → p.2 = nm)
    {c' : Addr} {h' : Heap} {tk : Nat} {o : Obj} (hx : Heap.ExtBut P s.heap h') (hge : s.heap.objs.size ≤ c') (hlt : c' < h'.objs.size) (hrec : h'.CodeRec (.ref c') qual) (htb : h'.get? P = some { cls := .none, data := .fields (ps ++ #[rawInt pos.line, rawInt pos.col, .ref c']) }) (hof : o.isFreed = false) :
    ∃ H1, Inv X pins σ H1 { s with heap := h'.push o, toks := tk } ∧ LamX.ExtN H H1 ∧ NdefX.TabsN T H1 ∧ H h'.objs.size = none ∧ H1 h'.objs.size = some (objHO h'.objs.size o) ∧ H1 c' = some (LamX.CodeO c' qual) := by
  obtain ⟨c2, oc, vs, t, e2, hoc, hd, hv⟩ := hrec
  cases e2
  have nC : H c' = none := I.hok.fresh hge
  have nPc : P ≠ c' := ne_of_none hP nC
  have J := LamX.inv_table (t' := tk) (more := #[rawInt pos.line, rawInt pos.col, .ref c']) (h' := h') I hP (fun b u hb e => hx b u hb e) htb hge ⟨oc, vs, t, hoc, hd, hv⟩
  have nF := J.hok.fresh (Nat.le_refl _)
  have K := J.laid (a := h'.objs.size) (o := objHO h'.objs.size o) (h' := h'.push o) (t' := tk) (fun b u e => Heap.get?_push_of_some _ e) (Nat.le_refl _) (objHO_ok (Heap.get?_push_size _ hof))
  have ext1 : LamX.ExtN H (upd (upd H P (.tbl (ps ++ #[rawInt pos.line, rawInt pos.col, .ref c']))) c' (LamX.CodeO c' qual)) := fun b u e n => by
    have n1 : b ≠ c' := ne_of_none e nC
    have n2 : b ≠ P := fun z => n ps (by rw [z, hP] at e; exact (Option.some.inj e).symm)
    rw [upd_ne n1, upd_ne n2]
    exact e
  have inC : upd (upd (upd H P (.tbl (ps ++ #[rawInt pos.line, rawInt pos.col, .ref c']))) c' (LamX.CodeO c' qual)) h'.objs.size (objHO h'.objs.size o) c' = some (LamX.CodeO c' qual) := by
    rw [upd_ne (Nat.ne_of_lt hlt), upd_same]
  have ext2 := ExtN.push (o := objHO h'.objs.size o) ext1 nF
  have lst : (ps ++ #[rawInt pos.line, rawInt pos.col, .ref c']).toList = ps.toList ++ [rawInt pos.line, rawInt pos.col, .ref c'] := by simp
  refine ⟨_, K, ext2, fun p hp => ?_, I.hok.fresh (Nat.le_trans hge (Nat.le_of_lt hlt)), upd_same, inC⟩
  by_cases hb : p.1 = P
  · rw [hu p hp hb, hb]
    have inP : upd (upd H P (.tbl (ps ++ #[rawInt pos.line, rawInt pos.col, .ref c']))) c' (LamX.CodeO c' qual) P = some (.tbl (ps ++ #[rawInt pos.line, rawInt pos.col, .ref c'])) := by rw [upd_ne nPc, upd_same]
    refine ⟨_, (upd_ne (ne_of_none inP nF)).trans inP, by rw [lst]; exact PySem.TriplesOk_snoc _ _ _ _ ht, fun p' cv hcv => ?_⟩
    rw [lst] at hcv
    rcases NdefX.among_app2 _ ht hcv with z | ⟨z, z1, z2⟩
    · obtain ⟨c0, e1, e2⟩ := ha p' cv z
      exact ⟨c0, e1, ext2 _ _ e2 LamX.codeO_ne⟩
    · exact ⟨c', z, by rw [← z1, ← z2, hn]; exact inC⟩
  · obtain ⟨qs, a1, a2, a3⟩ := hT p hp
    have inQ : upd (upd H P (.tbl (ps ++ #[rawInt pos.line, rawInt pos.col, .ref c']))) c' (LamX.CodeO c' qual) p.1 = some (.tbl qs) := by rw [upd_ne (ne_of_none a1 nC), upd_ne hb]; exact a1
    refine ⟨qs, (upd_ne (ne_of_none inQ nF)).trans inQ, a2, fun p' cv hcv => ?_⟩
    obtain ⟨c0, e1, e2⟩ := a3 p' cv hcv
    exact ⟨c0, e1, ext2 _ _ e2 LamX.codeO_ne⟩
theorem fn_old (I : Inv X pins σ H s) (hT : NdefX.TabsN T H) {c' : Addr} {h' : Heap} {tk : Nat} {o : Obj} (hx : ∀ b u, s.heap.get? b = some u → h'.get? b = some u) (hco : H c' = some (LamX.CodeO c' qual)) (hof : o.isFreed = false) :
    ∃ H1, Inv X pins σ H1 { s with heap := h'.push o, toks := tk } ∧ LamX.ExtN H H1 ∧ NdefX.TabsN T H1 ∧ H h'.objs.size = none ∧ H1 h'.objs.size = some (objHO h'.objs.size o) ∧ H1 c' = some (LamX.CodeO c' qual) := by
  have J : Inv X pins σ H { s with heap := h', toks := tk } := I.kept hx
  have nF : H h'.objs.size = none := J.hok.fresh (Nat.le_refl _)
  have K := J.laid (a := h'.objs.size) (o := objHO h'.objs.size o) (h' := h'.push o) (t' := tk) (fun b u e => Heap.get?_push_of_some _ e) (Nat.le_refl _) (objHO_ok (Heap.get?_push_size _ hof))
  have inO : ∀ b u, H b = some u → upd H h'.objs.size (objHO h'.objs.size o) b = some u := fun b u e => (upd_ne (ne_of_none e nF)).trans e
  exact ⟨_, K, fun b u e _ => inO b u e, hT.ext inO, nF, upd_same, inO _ _ hco⟩
theorem mk_fun {c : Addr} {name : Str} {params : Arguments} {fb : FuncBody} {scope : Scope} {E : Value → Shared → Prop} {Q : Value → Shared → Prop} (I : Inv X pins σ H s) (TB : LamX.TabB X.base X.mg c P) (hcode : X.env.code = .ref c) (hm : (P, nm) ∈ T) (hn : nm pos.line pos.col = X.env.qual ++ name) (hu : ∀ p ∈ T, p.1 = P → p.2 = nm)
    (hT : NdefX.TabsN T H) (hfree : ∀ y ∈ scope.names, y.2 = .free → ∃ c, X.env.cells.lookup y.1 = some c)
    (h : ∀ (f c' : Addr) (fd : FuncData) (H1 : Hp) (s' : Shared), Inv X pins σ H1 s' → LamX.ExtN H H1 → NdefX.TabsN T H1 → H f = none → H1 f = some (objHO f (fnO fd)) → Made X.env (X.env.qual ++ name) params fb scope c' fd → H1 c' = some (LamX.CodeO c' (X.env.qual ++ name)) → Q (.ref f) s') :
    wpAny (model X.prog X.w) X.A (makeFunction name (X.env.qual ++ name) params fb scope X.env [] [] [] pos pos.line) Q E s := by
  obtain ⟨ps, hP, ht, ha⟩ := (show NdefX.TabN H P nm from hT _ hm)
  have gl : s.heap.Ns mainGlobals X.mg := I.mod.glob.keeps I.bk
  have bt : s.heap.BuiltinsAt X.mg P := TB.bm.keeps I.bk
  have cd := TB.code.keeps I.bk
  have oP : s.heap.get? P = some { cls := .none, data := .fields ps } := I.hok P _ hP
  have nfr : ∀ fd, (fnO fd).isFreed = false := fun fd => rfl
  cases hc : codeAmong pos ps.toList with
  | none =>
    cases fb with
    | stmts body =>
      refine PySem.W.makeFunction_K (c := c) (P := P) (closure_ok hfree) I.ok.glob gl hcode cd oP ht hc TB.gP bt fun c' ctv doc h' tk hx hge hlt hrec htb => ?_
      obtain ⟨H1, k1, k2, k3, k4, k5, k6⟩ := fn_new (tk := tk) I hP ht ha hT hn hu hx hge hlt hrec htb (nfr _)
      exact h _ c' _ H1 _ k1 k2 k3 k4 k5 ⟨rfl, rfl, rfl, rfl, rfl, rfl, rfl, rfl, rfl⟩ k6
    | expr body =>
      refine PySem.W.kla_makeFunction (c := c) (P := P) (closure_ok hfree) I.ok.glob gl hcode cd oP ht hc TB.gP bt fun c' ctv h' tk hx hge hlt hrec htb => ?_
      obtain ⟨H1, k1, k2, k3, k4, k5, k6⟩ := fn_new (tk := tk) I hP ht ha hT hn hu hx hge hlt hrec htb (nfr _)
      exact h _ c' _ H1 _ k1 k2 k3 k4 k5 ⟨rfl, rfl, rfl, rfl, rfl, rfl, rfl, rfl, rfl⟩ k6
  | some cv =>
    obtain ⟨c', e, hco⟩ := ha pos cv hc
    subst e
    rw [hn] at hco
    cases fb with
    | stmts body =>
      refine PySem.W.makeFunction_hit (c := c) (P := P) (closure_ok hfree) I.ok.glob gl hcode cd oP ht hc bt fun ctv doc h' tk hx hsz => ?_
      obtain ⟨H1, k1, k2, k3, k4, k5, k6⟩ := fn_old (tk := tk) I hT hx hco (nfr _)
      exact h _ c' _ H1 _ k1 k2 k3 k4 k5 ⟨rfl, rfl, rfl, rfl, rfl, rfl, rfl, rfl, rfl⟩ k6
    | expr body =>
      refine PySem.W.kla_makeFunctionHit (c := c) (P := P) (closure_ok hfree) I.ok.glob gl hcode cd oP ht hc bt fun ctv h' tk hx hsz => ?_
      obtain ⟨H1, k1, k2, k3, k4, k5, k6⟩ := fn_old (tk := tk) I hT hx hco (nfr _)
      exact h _ c' _ H1 _ k1 k2 k3 k4 k5 ⟨rfl, rfl, rfl, rfl, rfl, rfl, rfl, rfl, rfl⟩ k6
end
end MP
namespace MP
open PySem PySem.Spec L2
open PyProof.Rows hiding St

section
variable {S : Stat} {X : Cx} {W : WX} {m mc m' : Mp} {G G' : GH} {H H1 : Hp} {σL : SL} {σ : St} {pins : List (Addr × Obj)} {s : Shared} {Q : VK}
theorem keep_ext (e : LamX.ExtN H H1) : Keep H H1 := fun a o h f => e a o h fun ps z => by
  subst z
  exact f
theorem RO.ext (e : LamX.ExtN H H1) (em : Ext m m') {a : Addr} : ∀ {o : GO}, RO S m mc H a o → RO S m' mc H1 a o
  | .lst _, h => by
    obtain ⟨vs, h1, r⟩ := h
    exact ⟨vs, e _ _ h1 (fun _ z => by cases z), RVs.mono em (keep_ext e).t r⟩
  | .fro _, h => by
    obtain ⟨vs, h1, r⟩ := h
    refine ⟨vs, ?_, RVs.mono em (keep_ext e).t r⟩
    rcases h1 with h1 | ⟨o, h1⟩
    · exact .inl (e _ _ h1 (fun _ z => by cases z))
    · exact .inr ⟨o, e _ _ h1 (fun _ z => by cases z)⟩
  | .dic _, h => by
    obtain ⟨vs, h1, r⟩ := h
    exact ⟨vs, e _ _ h1 (fun _ z => by cases z), RKs.mono em (keep_ext e).t r⟩
  | .set _, h => h
  | .clo _ _, h => by
    obtain ⟨od, sl, fd, cl, c, h1, i, h2, cp⟩ := h
    exact ⟨od, sl, fd, cl, c, e _ _ h1 (fun _ z => by unfold objHO at z; cases z), i, e _ _ h2 LamX.codeO_ne, cp⟩
  | .exc _, h => e _ _ h (fun _ z => by unfold excHO at z; cases z)
theorem Rel.made {go : GO} {v : LV} {f : Addr} (R : Rel S (vis X) m mc G H) (e : LamX.ExtN H H1) (hT : NdefX.TabsN S.T H1) (ha : alloc go G = .ok v G') (nv : ∀ b, vis X b → H1 b = none) (hf : H f = none) (hkf : S.K.lookup f = none) (ro : RO S (m.ins G.size f) mc H1 f go) :
    Rel S (vis X) (m.ins G.size f) mc G' H1 ∧ Ext m (m.ins G.size f) ∧ Keep H H1 ∧ RV S (m.ins G.size f) H1 v (.ref f) := by
  obtain ⟨rfl, h1, h2, h3, h4⟩ := alloc_ok ha
  have em : Ext m (m.ins G.size f) := Mp.ins_ext R.o.free
  have kp := keep_ext e
  have ne : ∀ k a, m k = some a → a ≠ f := fun k a hk => by
    obtain ⟨u, hu⟩ := R.o.dom k a hk
    obtain ⟨a', e', r⟩ := R.o.obj k u hu
    rw [hk] at e'
    cases e'
    exact RO.ne hf r
  refine ⟨⟨⟨fun n o hn => ?_, fun n n' a z1 z2 => ?_, fun n a hn => ?_, fun n hn => ?_, hT, fun n a hn => by rw [h3]; exact R.o.cdom n a hn, fun a u e0 => ?_, fun n a hn => ?_⟩, ⟨fun n ov hn => ?_, fun n n' ov ov' a z1 z2 => ?_⟩⟩, em, kp, f, rfl, Mp.ins_same⟩
  · rw [h2] at hn
    by_cases hk : n = G.size
    · rw [if_pos hk] at hn
      cases hn
      exact ⟨f, by rw [hk]; exact Mp.ins_same, ro⟩
    · rw [if_neg hk] at hn
      obtain ⟨a, z1, z2⟩ := R.o.obj n o hn
      exact ⟨a, em _ _ z1, RO.ext e em z2⟩
  · by_cases k1 : n = G.size
    · by_cases k2 : n' = G.size
      · rw [k1, k2]
      · rw [k1, Mp.ins_same] at z1
        rw [Mp.ins_ne k2] at z2
        cases z1
        exact absurd rfl (ne _ _ z2)
    · rw [Mp.ins_ne k1] at z1
      by_cases k2 : n' = G.size
      · rw [k2, Mp.ins_same] at z2
        cases z2
        exact absurd rfl (ne _ _ z1)
      · rw [Mp.ins_ne k2] at z2
        exact R.o.inj n n' a z1 z2
  · rw [h2]
    by_cases hk : n = G.size
    · exact ⟨go, if_pos hk⟩
    · rw [if_neg hk]
      rw [Mp.ins_ne hk] at hn
      exact R.o.dom n a hn
  · rw [h1] at hn
    rw [h2, if_neg (by omega)]
    exact R.o.siz n (by omega)
  · obtain ⟨e1, e2⟩ := R.o.frz a u e0
    exact ⟨e _ _ e1 fun ps z => by rw [z] at e2; exact e2, e2⟩
  · by_cases hk : n = G.size
    · rw [hk, Mp.ins_same] at hn
      cases hn
      cases q : S.F f with
      | none => rfl
      | some u =>
        have := (R.o.frz f u q).1
        rw [hf] at this
        cases this
    · rw [Mp.ins_ne hk] at hn
      exact R.o.frm n a hn
  · rw [h4] at hn
    obtain ⟨a, z1, z2, z3⟩ := R.c.cell n ov hn
    exact ⟨a, z1, trivial, fun hv => (z3 hv).mono em kp⟩
  · rw [h4] at z1 z2
    exact R.c.cinj n n' ov ov' a z1 z2
/-! captured cells -/
theorem cellsOf_at : ∀ {js : List Nat} {ns : List Nat}, cellsOf σL js = some ns → ns.length = js.length ∧ ∀ (i j : Nat), js[i]? = some j → ∃ n, ns[i]? = some n ∧ slot σL j = some (.loc n)
  | [], ns, h => by
    cases h
    exact ⟨rfl, fun i j h => by simp at h⟩
  | j :: js, ns, h => by
    unfold cellsOf at h
    split at h
    · rename_i n e
      split at h
      · rename_i s e2
        cases h
        obtain ⟨h1, h2⟩ := cellsOf_at e2
        refine ⟨by simp [h1], fun i j' hi => ?_⟩
        cases i with
        | zero =>
          simp at hi
          subst hi
          exact ⟨n, rfl, e⟩
        | succ i => simpa using h2 i j' (by simpa using hi)
      · cases h
    · cases h
/-- what is checked where a function is made -/
structure MadeOk (S : Stat) (X : Cx) (k : Nat) (js : List Nat) (name : Str) (params : Arguments) (fb : FuncBody) (scope : Scope) : Prop where
  q : (S.cs k).qual = X.env.qual ++ name
  ps : (S.cs k).params = params
  b : (S.cs k).body = fb
  sc : (S.cs k).scope = scope
  at_ : js.map (fun j => X.N[j]?) = (S.cs k).fr.map some
  fre : ∀ y ∈ (S.cs k).fr, (y, NameKind.free) ∈ scope.names
  only : ∀ y ∈ scope.names, y.2 = .free → y.1 ∈ (S.cs k).fr
  kin : ∀ y ∈ scope.names, y.2 = .free → X.env.scope.names.lookup y.1 = some .cell ∨ X.env.scope.names.lookup y.1 = some .free
  cc : S.cc k = none
theorem MadeOk.has {k : Nat} {js : List Nat} {name : Str} {params : Arguments} {fb : FuncBody} {scope : Scope} (M : MadeOk S X k js name params fb scope) (ok : X.Ok) : ∀ y ∈ scope.names, y.2 = .free → ∃ c, X.env.cells.lookup y.1 = some c := fun y hy e =>
  (M.kin y hy e).elim (fun z => ok.has _ (.inl z)) fun z => ok.has _ (.inr z)
theorem made_caps {k : Nat} {js ns : List Nat} {name : Str} {params : Arguments} {fb : FuncBody} {scope : Scope} (M : MadeOk S X k js name params fb scope) (I : Inv X pins σ H s) (p : Pre S X m mc G H σL σ) (hc : cellsOf σL js = some ns) : Caps mc (cloFrom X.env.cells scope.names []) (S.cs k).fr ns := by
  have hf := M.has I.ok
  obtain ⟨h1, h2⟩ := cellsOf_at hc
  have hl : js.length = (S.cs k).fr.length := by
    have := congrArg List.length M.at_
    simpa using this
  refine ⟨h1.trans hl, fun i y n hy hn => ?_, fun y c e => ?_, fun x y c e1 e2 => I.ok.inj x y c (NdefX.clo_cm hf e1) (NdefX.clo_cm hf e2), fun y b hm => ?_⟩
  · have q : (js.map fun j => X.N[j]?)[i]? = some (some y) := by rw [M.at_, List.getElem?_map, hy]; rfl
    rw [List.getElem?_map] at q
    cases ej : js[i]? with
    | none => rw [ej] at q; cases q
    | some j =>
      rw [ej] at q
      have hj : X.N[j]? = some y := Option.some.inj q
      obtain ⟨n', e1, e2⟩ := h2 i j ej
      rw [hn] at e1
      cases e1
      have my := M.fre y (List.mem_of_getElem? hy)
      obtain ⟨n2, z1, ⟨c, z2, z3⟩, _⟩ := (SR.cel (M.kin _ my rfl)).mp (p.q.2 j y hj)
      rw [slot_get.mp e2] at z1
      cases z1
      exact ⟨c, NdefX.clo_has hf my z3, z2⟩
  · rcases cloFrom_mem (PySem.mem_of_lookup e) with z | ⟨z, _⟩
    · cases z
    · exact M.only _ z rfl
  · obtain ⟨b', hb'⟩ := mem_lookup hm
    have e1 := NdefX.clo_cm hf hb'
    rcases cloFrom_mem hm with z | ⟨z, z2⟩
    · cases z
    · rw [e1] at z2
      have : b = b' := z2
      rw [this]
      exact hb'
/-- the new function's value -/
theorem made_post {k : Nat} {js : List Nat} {name : Str} {params : Arguments} {fb : FuncBody} {scope : Scope} {f c' : Addr} {fd : FuncData} {s' : Shared} (hK : X.K = S.K) (M : MadeOk S X k js name params fb scope) (I : Inv X pins σ H s) (p : Pre S X m mc G H σL σ) {kk : LV → Mp → Mp → GH → Hp → Prop}
    (h : Post S X W m mc H σL σ (match cellsOf σL js with | some ns => alloc (.clo k ns) G | none => .stuck) kk)
    (I1 : Inv X pins σ H1 s') (e : LamX.ExtN H H1) (hT : NdefX.TabsN S.T H1) (hf : H f = none) (h1 : H1 f = some (objHO f (fnO fd))) (md : Made X.env (X.env.qual ++ name) params fb scope c' fd) (hco : H1 c' = some (LamX.CodeO c' (X.env.qual ++ name))) :
    ∃ v m' G', Pre S X m' mc G' H1 σL σ ∧ Ext m m' ∧ RV S m' H1 v (.ref f) ∧ kk v m' mc G' H1 := by
  cases hc : cellsOf σL js with
  | none => rw [hc] at h; exact h.elim
  | some ns =>
    rw [hc] at h
    have h : Post S X W m mc H σL σ (alloc (.clo k ns) G) kk := h
    have cp := made_caps M I p hc
    have hkf : S.K.lookup f = none := by
      rw [← hK]
      cases z : X.K.lookup f with
      | none => rfl
      | some o => have := (okx I1).2 f o z; rw [h1] at this; cases this
    cases ea : alloc (.clo k ns) G with
    | ok v G' =>
      rw [ea] at h
      obtain ⟨R, em, kp, rv⟩ := Rel.made (go := .clo k ns) p.r e hT ea (fun b hb => vis_none I1 hb) hf hkf
        ⟨none, #[], fd, _, c', h1, ⟨md.q.trans M.q.symm, md.ps.trans M.ps.symm, md.b.trans M.b.symm, md.sc.trans M.sc.symm, md.g, md.cl, md.d, md.c, md.bl, fun c0 z => by rw [M.cc] at z; cases z⟩, by rw [M.q]; exact hco, cp⟩
      obtain ⟨_, _, _, _, hcs⟩ := alloc_ok ea
      have q := p.q.mono em (Ext.refl mc) kp.t hcs
      exact ⟨v, _, G', ⟨R, q⟩, em, rv, h _ mc _ em (Ext.refl mc) kp R q⟩
    | exn n G' => exact (alloc_exn ea).elim
    | stuck => rw [ea] at h; exact h.elim
/-- lambda .. -/
theorem e_lam {c P : Addr} {nm : Nat → Nat → Str} {k : Nat} {js : List Nat} {params : Arguments} {body : Expr} {scope : Scope} {pos : Pos} (C : CtxE S X) (TB : LamX.TabB X.base X.mg c P) (hcode : X.env.code = .ref c) (hm : (P, nm) ∈ S.T) (hn : nm pos.line pos.col = X.env.qual ++ "<lambda>") (hu : ∀ p ∈ S.T, p.1 = P → p.2 = nm)
    (hdef : defaultsOf params X.env = ([], [])) (M : MadeOk S X k js "<lambda>" params (.expr body) scope) :
    PE X (.Lambda params body scope pos) (tE S X W fun σ g => match cellsOf σ js with | some ns => alloc (.clo k ns) g | none => .stuck) := by
  refine ⟨fun pins s σ H Q I ⟨m, mc, G, σL, p, h⟩ => ?_⟩
  refine PySem.W.kla_eval (by exact hdef) (mk_fun I TB hcode hm hn hu p.r.o.tab (M.has I.ok) fun f c' fd H1 s' I1 e hT hf h1 md hco => ?_)
  obtain ⟨v, m', G', p', em, rv, q⟩ := made_post C.ok.k M I p h I1 e hT hf h1 md hco
  exact ⟨.ref f, H1, I1, rfl, q _ rv⟩
end
end MP
namespace MP
open PySem PySem.Spec L2
open PyProof.Rows hiding St

section
variable (S : Stat) (X : Cx) (W : WX)
/-- what is wanted where the slots change -/
def PostS {α : Type} (m mc : Mp) (H : Hp) (r : Res α) (sl : α → SL) (k : α → Mp → Mp → GH → Hp → St → Prop) : Prop := match r with
  | .ok a G' => ∀ m' mc' H' σ', Ext m m' → Ext mc mc' → Keep H H' → Rel S (vis X) m' mc' G' H' → StR S X m' mc' G' H' (sl a) σ' → k a m' mc' G' H' σ'
  | .exn n G' => ∀ m' mc' H' σ', Ext m m' → Ext mc mc' → Keep H H' → Rel S (vis X) m' mc' G' H' → W (.ref (S.xa n)) none σ' H'
  | .stuck => False
def ends (S : Stat) (D : Ends) : Fl × SL → Mp → Mp → GH → Hp → St → Prop := fun a m' _ _ H' σ' => match a.1 with
  | .nx => D.nx σ' H'
  | .rt v => ∀ x, RV S m' H' v x → D.rt x H'
  | .bk => D.bk σ' H'
  | .ct => D.ct σ' H'
def tX (f : SL → GH → Res (Fl × SL)) : TS := fun D σ H => ∃ m mc G σL, Pre S X m mc G H σL σ ∧ PostS S X W m mc H (f σL G) (·.2) (ends S D)
def tG (f : LV → SL → GH → Res SL) : TG := fun v σ H Q => ∃ m mc G σL lv, Pre S X m mc G H σL σ ∧ RV S m H lv v ∧ PostS S X W m mc H (f lv σL G) id fun _ _ _ _ H' σ' => Q σ' H'
end
section
variable {S : Stat} {X : Cx} {W : WX} {m mc m' : Mp} {G G' : GH} {H H1 : Hp} {σL : SL} {σ : St} {pins : List (Addr × Obj)} {s : Shared} {D : Ends}
theorem PostS.imp {α : Type} {r : Res α} {sl : α → SL} {k k' : α → Mp → Mp → GH → Hp → St → Prop} (h : PostS S X W m mc H r sl k) (f : ∀ a m' mc' G' H' σ', r = .ok a G' → Ext m m' → Ext mc mc' → Keep H H' → Pre S X m' mc' G' H' (sl a) σ' → k a m' mc' G' H' σ' → k' a m' mc' G' H' σ') : PostS S X W m mc H r sl k' := by
  cases r with
  | ok a G' => exact fun m' mc' H' σ' e1 e2 kp r q => f a m' mc' G' H' σ' rfl e1 e2 kp ⟨r, q⟩ (h m' mc' H' σ' e1 e2 kp r q)
  | exn n G' => exact h
  | stuck => exact h
theorem PostS.up {α : Type} {r : Res α} {sl : α → SL} {k : α → Mp → Mp → GH → Hp → St → Prop} {m1 mc1 : Mp} (e1 : Ext m m1) (e2 : Ext mc mc1) (kp : Keep H H1) (h : PostS S X W m mc H r sl k) : PostS S X W m1 mc1 H1 r sl k := by
  cases r with
  | ok a G' => exact fun m' mc' H' σ' z1 z2 z3 r q => h m' mc' H' σ' (e1.trans z1) (e2.trans z2) (kp.trans z3) r q
  | exn n G' => exact fun m' mc' H' σ' z1 z2 z3 r => h m' mc' H' σ' (e1.trans z1) (e2.trans z2) (kp.trans z3) r
  | stuck => exact h
/-- an expression first -/
theorem PostS.bindE {α β : Type} {r : Res α} {f : α → GH → Res β} {sl : β → SL} {k : β → Mp → Mp → GH → Hp → St → Prop} (h : PostS S X W m mc H (r.bind f) sl k) :
    Post S X W m mc H σL σ r fun a m' mc' G' H' => Pre S X m' mc' G' H' σL σ ∧ Ext m m' ∧ Ext mc mc' ∧ Keep H H' ∧ PostS S X W m' mc' H' (f a G') sl k := by
  cases r with
  | ok a G' => exact fun m' mc' H' e1 e2 kp r q => ⟨⟨r, q⟩, e1, e2, kp, PostS.up e1 e2 kp h⟩
  | exn n G' => exact fun m' mc' H' e1 e2 kp r q => h m' mc' H' σ e1 e2 kp r
  | stuck => exact h
/-- a statement first -/
theorem PostS.bindS {α β : Type} {r : Res α} {f : α → GH → Res β} {sl : α → SL} {sl2 : β → SL} {k : β → Mp → Mp → GH → Hp → St → Prop} (h : PostS S X W m mc H (r.bind f) sl2 k) :
    PostS S X W m mc H r sl fun a m' mc' G' H' σ' => Pre S X m' mc' G' H' (sl a) σ' ∧ Ext m m' ∧ Ext mc mc' ∧ Keep H H' ∧ PostS S X W m' mc' H' (f a G') sl2 k := by
  cases r with
  | ok a G' => exact fun m' mc' H' σ' e1 e2 kp r q => ⟨⟨r, q⟩, e1, e2, kp, PostS.up e1 e2 kp h⟩
  | exn n G' => exact h
  | stuck => exact h
theorem PostS.ok {α : Type} {a : α} {sl : α → SL} {k : α → Mp → Mp → GH → Hp → St → Prop} (p : Pre S X m mc G H (sl a) σ) (h : PostS S X W m mc H (.ok a G) sl k) : k a m mc G H σ := h m mc H σ (Ext.refl m) (Ext.refl mc) (Keep.refl H) p.r p.q
theorem oneS {α : Type} {fa : SL → GH → Res LV} {f : LV → GH → Res α} {sl : α → SL} {k : α → Mp → Mp → GH → Hp → St → Prop} (p : Pre S X m mc G H σL σ) (h : PostS S X W m mc H ((fa σL G).bind fun x g => f x g) sl k) :
    tE S X W fa σ H fun x H1 => ∃ a m' mc' G', Pre S X m' mc' G' H1 σL σ ∧ RV S m' H1 a x ∧ PostS S X W m' mc' H1 (f a G') sl k :=
  ⟨m, mc, G, σL, p, Post.imp (PostS.bindE h) fun a m1 mc1 G1 H1 _ _ _ _ pre ⟨_, _, _, _, h1⟩ x rv => ⟨a, m1, mc1, G1, pre, rv, h1⟩⟩
theorem oneBS {α : Type} {fa : SL → GH → Res Bool} {f : Bool → GH → Res α} {sl : α → SL} {k : α → Mp → Mp → GH → Hp → St → Prop} (p : Pre S X m mc G H σL σ) (h : PostS S X W m mc H ((fa σL G).bind fun x g => f x g) sl k) :
    tB S X W fa σ H fun b H1 => ∃ m' mc' G', Pre S X m' mc' G' H1 σL σ ∧ PostS S X W m' mc' H1 (f b G') sl k :=
  ⟨m, mc, G, σL, p, Post.imp (PostS.bindE h) fun a m1 mc1 G1 H1 _ _ _ _ pre ⟨_, _, _, _, h1⟩ => ⟨m1, mc1, G1, pre, h1⟩⟩
variable {fe : SL → GH → Res LV} {fb : SL → GH → Res Bool} {f f2 : SL → GH → Res (Fl × SL)} {g g2 : LV → SL → GH → Res SL} {e tg c : Expr} {st : Stmt} {sts : List Stmt} {pos : Pos}
/-! blocks -/
theorem ss_nil : PSs X [] (tX S X W fun σ g => .ok (.nx, σ) g) := ⟨fun pins s σ H D I ⟨m, mc, G, σL, p, h⟩ => pss_nil.run pins s σ H D I (PostS.ok (a := (Fl.nx, σL)) p h)⟩
theorem ss_cons (h1 : PS X st (tX S X W f)) (h2 : PSs X sts (tX S X W f2)) : PSs X (st :: sts) (tX S X W fun σ g => (f σ g).bind fun r g => match r with | (.nx, σ) => f2 σ g | r => .ok r g) := by
  refine ⟨fun pins s σ H D I ⟨m, mc, G, σL, p, h⟩ => ?_⟩
  refine (pss_cons h1 h2).run pins s σ H D I ⟨m, mc, G, σL, p, PostS.imp (PostS.bindS (sl := (·.2)) h) fun a m1 mc1 G1 H1 σ1 _ _ _ _ p1 ⟨_, _, _, _, q⟩ => ?_⟩
  obtain ⟨fl, σL1⟩ := a
  cases fl with
  | nx => exact ⟨m1, mc1, G1, σL1, p1, q⟩
  | rt v =>
    have z : ends S D (Fl.rt v, σL1) m1 mc1 G1 H1 σ1 := PostS.ok (W := W) (a := (Fl.rt v, σL1)) p1 q
    exact z
  | bk =>
    have z : ends S D (Fl.bk, σL1) m1 mc1 G1 H1 σ1 := PostS.ok (W := W) (a := (Fl.bk, σL1)) p1 q
    exact z
  | ct =>
    have z : ends S D (Fl.ct, σL1) m1 mc1 G1 H1 σ1 := PostS.ok (W := W) (a := (Fl.ct, σL1)) p1 q
    exact z
theorem ss_one (h1 : PS X st (tX S X W f)) : PSs X [st] (tX S X W f) := pss_one h1
theorem s_pass : PS X (.Pass pos) (tX S X W fun σ g => .ok (.nx, σ) g) := ⟨fun pins s σ H D I ⟨m, mc, G, σL, p, h⟩ => ps_pass.run pins s σ H D I (PostS.ok (a := (Fl.nx, σL)) p h)⟩
theorem s_ret (he : PE X e (tE S X W fe)) : PS X (.Return (some e) pos) (tX S X W fun σ g => (fe σ g).bind fun v g => .ok (.rt v, σ) g) := by
  refine ⟨fun pins s σ H D I ⟨m, mc, G, σL, p, h⟩ => ?_⟩
  refine wpAny_Return_some (thn (he.run pins s σ H _ I (oneS p h)) fun v s1 ⟨x, H1, I1, r1, a, m1, mc1, G1, p1, ra, q⟩ => ?_)
  exact ⟨x, σ, H1, I1, r1, PostS.ok (a := (Fl.rt a, σL)) p1 q x ra⟩
theorem s_exs (he : PE X e (tE S X W fe)) (hs : swapsWith e none pos.line X.env = pure false) : PS X (.Expr e pos) (tX S X W fun σ g => (fe σ g).bind fun _ g => .ok (.nx, σ) g) := by
  refine ⟨fun pins s σ H D I ⟨m, mc, G, σL, p, h⟩ => ?_⟩
  refine wpAny_Expr_any (thn (he.run pins s σ H _ I (oneS p h)) fun v s1 ⟨x, H1, I1, r1, a, m1, mc1, G1, p1, ra, q⟩ => ?_) I.quiet hs
  exact ⟨σ, H1, I1, PostS.ok (a := (Fl.nx, σL)) p1 q⟩
theorem s_if {a b : List Stmt} (hc : PT X c (tB S X W fb)) (ha : PSs X a (tX S X W f)) (hb : PSs X b (tX S X W f2)) : PS X (.If c a b pos) (tX S X W fun σ g => (fb σ g).bind fun x g => match x with | true => f σ g | false => f2 σ g) := by
  refine ⟨fun pins s σ H D I ⟨m, mc, G, σL, p, h⟩ => ?_⟩
  refine wpAny_If (thn (hc.run pins s σ H _ I (oneBS p h)) fun d s1 ⟨H1, I1, m1, mc1, G1, p1, q⟩ => ?_)
  cases d with
  | true => exact ha.run pins s1 σ H1 D I1 ⟨m1, mc1, G1, σL, p1, q⟩
  | false => exact hb.run pins s1 σ H1 D I1 ⟨m1, mc1, G1, σL, p1, q⟩
/-! targets -/
theorem StR.setL (Q : StR S X m mc G H σL σ) {i : Nat} {x : Str} {v : LV} {u : V} (hN : X.N.Nodup) (hi : X.N[i]? = some x) (hk : X.env.scope.names.lookup x = some .local) (hl : σ.length = X.N.length) (r : RV S m H v u) : StR S X m mc G H (σL.set i (some v)) (σ.set i (some u)) := by
  refine ⟨by rw [List.length_set]; exact Q.1, fun j y hj => ?_⟩
  by_cases h : j = i
  · rw [h] at hj ⊢
    rw [hi] at hj
    cases hj
    have lt : i < X.N.length := (List.getElem?_eq_some_iff.mp hi).1
    refine (SR.loc hk).mpr fun w hw => ?_
    rw [List.getElem?_set_self (by rw [Q.1]; exact lt)] at hw
    cases hw
    exact ⟨u, by rw [List.getElem?_set_self (by rw [hl]; exact lt)], r⟩
  · have q := Q.2 j y hj
    unfold SR at q ⊢
    rw [List.getElem?_set_ne (Ne.symm h), List.getElem?_set_ne (Ne.symm h)]
    exact q
/-- a name is stored -/
def PSto (S : Stat) (X : Cx) (W : WX) (x : Str) (f : LV → SL → GH → Res SL) : Prop := ∀ (pins : List (Addr × Obj)) (s : Shared) (σ : St) (H : Hp) (v : V) (u : Value) (Q : St → Hp → Prop), Inv X pins σ H s → RelV v u → tG S X W f v σ H Q → wpAny (model X.prog X.w) X.A (storeName X.env x u) (fun _ s' => ∃ σ' H', Inv X pins σ' H' s' ∧ Q σ' H') X.xe s
theorem PSto.pg {x : Str} {f : LV → SL → GH → Res SL} (h : PSto S X W x f) : PG X (.Name x pos) (tG S X W f) := ⟨fun pins s σ H v u Q I r q => wpAny_assign_Name (h pins s σ H v u Q I r q)⟩
theorem st_var {i : Nat} {x : Str} (hN : X.N.Nodup) (hi : X.N[i]? = some x) (hk : X.env.scope.names.lookup x = some .local) : PSto S X W x (fun v σ g => .ok (σ.set i (some v)) g) := by
  intro pins s σ H v u Q I r ⟨m, mc, G, σL, lv, p, rv, h⟩
  refine store_ok I hN hi (.inl hk) r (fun s' I' => ⟨_, H, I', ?_⟩) (.inr hk)
  exact h m mc H _ (Ext.refl m) (Ext.refl mc) (Keep.refl H) p.r (StR.setL p.q hN hi hk I.len rv)
theorem g_var {i : Nat} {x : Str} (hN : X.N.Nodup) (hi : X.N[i]? = some x) (hk : X.env.scope.names.lookup x = some .local) : PG X (.Name x pos) (tG S X W fun v σ g => .ok (σ.set i (some v)) g) := PSto.pg (st_var hN hi hk)
theorem cLook_put {n k : Nat} {v : LV} : ∀ {l : List (Nat × Option LV)}, cLook k (cPut n v l) = if k = n then (cLook k l).map (fun _ => some v) else cLook k l
  | [] => by
    show none = _
    by_cases h : k = n
    · rw [if_pos h]; rfl
    · rw [if_neg h]; rfl
  | (a, w) :: r => by
    unfold cPut
    by_cases h1 : n = a
    · rw [if_pos h1, cLook_cons, cLook_cons]
      by_cases h2 : k = a
      · rw [if_pos h2, if_pos h2, if_pos (h2.trans h1.symm)]
        rfl
      · rw [if_neg h2, if_neg h2, if_neg (fun z => h2 (z.trans h1))]
    · rw [if_neg h1, cLook_cons, cLook_cons, cLook_put]
      by_cases h2 : k = a
      · rw [if_pos h2, if_pos h2, if_neg (fun z => h1 (z.symm.trans h2))]
      · rw [if_neg h2, if_neg h2]
theorem st_cell {i : Nat} {x : Str} (O : CtxOk S X) (hi : X.N[i]? = some x) (hk : X.env.scope.names.lookup x = some .cell) (hf : X.fn x = true) : PSto S X W x (fun v σ g => match slot σ i with | some (.loc n) => .ok σ ⟨g.size, g.t, g.cn, cPut n v g.cs⟩ | _ => .stuck) := by
  intro pins s σ H v u Q I r ⟨m, mc, G, σL, lv, p, rv, h⟩
  refine store_ok I O.nd hi (.inr hk) r (fun s' I' => ⟨_, H, I', ?_⟩) (.inl hf)
  obtain ⟨n, h1, ⟨c, h2, h3⟩, ov, h4, _⟩ := (SR.cel (.inl hk)).mp (p.q.2 i x hi)
  dsimp only at h
  rw [slot_get.mpr h1] at h
  have h : PostS S X W m mc H (.ok σL ⟨G.size, G.t, G.cn, cPut n lv G.cs⟩) id (fun _ _ _ _ H' σ' => Q σ' H') := h
  have lt : i < X.N.length := (List.getElem?_eq_some_iff.mp hi).1
  have vc : vis X c := ⟨x, h3⟩
  have old : ∀ k o, cLook k (cPut n lv G.cs) = some o → (k = n ∧ o = some lv) ∨ (k ≠ n ∧ cLook k G.cs = some o) := fun k o e => by
    rw [cLook_put] at e
    by_cases z : k = n
    · rw [if_pos z, z, h4] at e
      cases e
      exact .inl ⟨z, rfl⟩
    · rw [if_neg z] at e
      exact .inr ⟨z, e⟩
  refine h m mc H _ (Ext.refl m) (Ext.refl mc) (Keep.refl H) ⟨⟨p.r.o.obj, p.r.o.inj, p.r.o.dom, p.r.o.siz, p.r.o.tab, p.r.o.cdom, p.r.o.frz, p.r.o.frm⟩, ⟨fun k o e => ?_, fun k k' o o' a e1 e2 => ?_⟩⟩ ⟨p.q.1, fun j y hj => ?_⟩
  · rcases old k o e with ⟨rfl, rfl⟩ | ⟨z, e⟩
    · exact ⟨c, h2, trivial, fun z => absurd vc z⟩
    · exact p.r.c.cell k o e
  · have f : ∀ k o, cLook k (cPut n lv G.cs) = some o → ∃ o', cLook k G.cs = some o' := fun k o e => by
      rcases old k o e with ⟨rfl, _⟩ | ⟨_, e⟩
      · exact ⟨_, h4⟩
      · exact ⟨_, e⟩
    obtain ⟨_, z1⟩ := f k o e1
    obtain ⟨_, z2⟩ := f k' o' e2
    exact p.r.c.cinj k k' _ _ a z1 z2
  · by_cases z : j = i
    · rw [z] at hj ⊢
      rw [hi] at hj
      cases hj
      refine (SR.cel (.inl hk)).mpr ⟨n, h1, ⟨c, h2, h3⟩, some lv, by rw [cLook_put, if_pos rfl, h4]; rfl, fun w hw => ?_⟩
      cases hw
      exact ⟨v, by rw [List.getElem?_set_self (by rw [I.len]; exact lt)], rv⟩
    · have q := p.q.2 j y hj
      have ne : (σ.set i (some v))[j]? = σ[j]? := List.getElem?_set_ne (Ne.symm z)
      have cc : X.env.scope.names.lookup y = some .cell ∨ X.env.scope.names.lookup y = some .free → SR S X m mc ⟨G.size, G.t, G.cn, cPut n lv G.cs⟩ H j y σL (σ.set i (some v)) := fun k => by
        obtain ⟨n', z1, ⟨c', z2, z3⟩, ov', z4, z5⟩ := (SR.cel k).mp q
        have nn : n' ≠ n := fun en => by
          rw [en, h2] at z2
          cases z2
          exact z (nodup_ix O.nd (by rw [hj, I.ok.inj y x _ z3 h3]) hi)
        exact (SR.cel k).mpr ⟨n', z1, ⟨c', z2, z3⟩, ov', by rw [cLook_put, if_neg nn]; exact z4, fun w hw => by rw [ne]; exact z5 w hw⟩
      by_cases k1 : X.env.scope.names.lookup y = some .local
      · exact (SR.loc k1).mpr fun w hw => by rw [ne]; exact (SR.loc k1).mp q w hw
      · by_cases k2 : X.env.scope.names.lookup y = some .cell
        · exact cc (.inl k2)
        · by_cases k3 : X.env.scope.names.lookup y = some .free
          · exact cc (.inr k3)
          · exact SR.other k1 k2 k3
theorem g_cell {i : Nat} {x : Str} (O : CtxOk S X) (hi : X.N[i]? = some x) (hk : X.env.scope.names.lookup x = some .cell) (hf : X.fn x = true) : PG X (.Name x pos) (tG S X W fun v σ g => match slot σ i with | some (.loc n) => .ok σ ⟨g.size, g.t, g.cn, cPut n v g.cs⟩ | _ => .stuck) := PSto.pg (st_cell O hi hk hf)
/-! assignments -/
theorem s_asg (he : PE X e (tE S X W fe)) (hg : PG X tg (tG S X W g)) (hs : swapsWithSole [tg] e pos.line X.env = pure false) (hw : swappedStores [tg] e X.env = pure none) (h1 : (assignEach [tg] X.env).map (·.2) = [assign tg X.env]) :
    PS X (.Assign [tg] e pos) (tX S X W fun σ gg => (fe σ gg).bind fun v gg => (g v σ gg).bind fun σ gg => .ok (.nx, σ) gg) := by
  refine ⟨fun pins s σ H D I ⟨m, mc, G, σL, p, h⟩ => ?_⟩
  refine (ps_asg he hg hs hw h1).run pins s σ H D I ?_
  obtain ⟨m0, mc0, G0, σ0, p0, h0⟩ := oneS p h
  refine ⟨m0, mc0, G0, σ0, p0, Post.imp h0 fun v m1 mc1 G1 H1 _ _ _ _ _ f x rx => ?_⟩
  obtain ⟨a, m2, mc2, G2, p2, ra, q⟩ := f x rx
  exact ⟨m2, mc2, G2, σL, a, p2, ra, PostS.imp (PostS.bindS (sl := id) q) fun σL' m3 mc3 G3 H3 σ3 _ _ _ _ p3 ⟨_, _, _, _, q3⟩ => PostS.ok (a := (Fl.nx, σL')) p3 q3⟩
end
end MP
namespace MP
open PySem PySem.Spec L2
open PyProof.Rows hiding St

section
variable {S : Stat} {X : Cx} {W : WX} {m mc m' mc' : Mp} {G G' : GH} {H H' : Hp} {σL : SL} {σ : St} {pins : List (Addr × Obj)} {s : Shared} {D : Ends}
variable {C : CallT} {cc : CallT → SL → GH → Res Bool} {body : CallT → SL → GH → Res (Fl × SL)} {tg : CallT → LV → SL → GH → Res SL} {c e te : Expr} {b : List Stmt} {pos : Pos}
theorem s_whl {n : Nat} (T : PassesOwn (model X.prog X.w) X.A X.env X.xe) (hc : PT X c (tB S X W (cc C))) (hb : PSs X b (tX S X W (body C))) : PS X (.While c b [] pos) (tX S X W fun σ g => whlL C cc body n σ g) := by
  refine ⟨fun pins s σ H D I ⟨m, mc, G, σL, p, h⟩ => ?_⟩
  refine (ps_while T hc hb).run pins s σ H D I ⟨fun k σ H => ∃ m mc G σL, Pre S X m mc G H σL σ ∧ PostS S X W m mc H (whlL C cc body k σL G) (·.2) (ends S D), ⟨n, m, mc, G, σL, p, h⟩, fun k σ H ⟨m, mc, G, σL, p, h⟩ => ?_⟩
  cases k with
  | zero => exact h.elim
  | succ k =>
    unfold whlL at h
    obtain ⟨m0, mc0, G0, σ0, p0, h0⟩ := oneBS p h
    refine ⟨m0, mc0, G0, σ0, p0, Post.imp h0 fun d m1 mc1 G1 H1 _ _ _ _ _ ⟨m2, mc2, G2, p2, q⟩ => ?_⟩
    cases d with
    | false => exact PostS.ok (a := (Fl.nx, σL)) p2 q
    | true =>
      refine ⟨fun σ' H' => ∃ m mc G σL, Pre S X m mc G H' σL σ' ∧ PostS S X W m mc H' (whlL C cc body k σL G) (·.2) (ends S D), fun σ' H' q => ⟨k, Nat.lt_succ_self k, q⟩, ?_⟩
      refine ⟨m2, mc2, G2, σL, p2, PostS.imp (PostS.bindS (sl := (·.2)) q) fun a m3 mc3 G3 H3 σ3 _ _ _ _ p3 ⟨_, _, _, _, q3⟩ => ?_⟩
      obtain ⟨fl, σL3⟩ := a
      cases fl with
      | nx => exact ⟨m3, mc3, G3, σL3, p3, q3⟩
      | ct => exact ⟨m3, mc3, G3, σL3, p3, q3⟩
      | bk =>
        have z : ends S D (Fl.nx, σL3) m3 mc3 G3 H3 σ3 := PostS.ok (W := W) (a := (Fl.nx, σL3)) p3 q3
        exact z
      | rt v =>
        have z : ends S D (Fl.rt v, σL3) m3 mc3 G3 H3 σ3 := PostS.ok (W := W) (a := (Fl.rt v, σL3)) p3 q3
        exact z
/-! iterators -/
/-- at most a tuple is laid -/
def Lay (H H' : Hp) : Prop := H' = H ∨ ∃ b o, H b = none ∧ H' = upd H b o
theorem Pre.lay (hK : X.K = S.K) (p : Pre S X m mc G H σL σ) (l : Lay H H') : Pre S X m mc G H' σL σ ∧ Keep H H' := by
  rcases l with rfl | ⟨b, o, hn, rfl⟩
  · exact ⟨p, Keep.refl _⟩
  · obtain ⟨R, kp⟩ := Rel.lay (o := o) p.r hK hn
    exact ⟨⟨R, p.q.mono (Ext.refl m) (Ext.refl mc) kp.t rfl⟩, kp⟩
/-- the tuple at a, each item in a new pair -/
def ItP (K : PySem.W.Frag) (a : Addr) : It :=
  ⟨fun i H => ∃ (xs : List V) (x : V), SqT K H a xs ∧ xs[i]? = some x, fun i H v H' => ∃ T x o, v = .ref T ∧ H T = none ∧ o.dict = none ∧ H' = upd H T (.frz o (.tup [.int (i : Nat), x])) ∧ ∀ xs, SqT K H a xs → xs[i]? = some x, fun i H => ∃ xs : List V, SqT K H a xs ∧ xs.length ≤ i⟩
def ItSim (S : Stat) (J : It) (i : Nat) (it : Itr) (m : Mp) (H : Hp) : Prop := match it with
  | .lst n j => j = i ∧ ∃ a, m n = some a ∧ J = Itl S.K a
  | .seq xs => (∃ a xs0, RV S m H (.tup xs0) (.ref a) ∧ xs = xs0.drop i ∧ J = Itt S.K a) ∨ ∃ x0 : List Nat, xs = (x0.drop i).map (fun c => LV.str [c]) ∧ J = Its ⟨x0.toArray⟩
  | .rng lo n => ∃ (lo0 : Int) (n0 : Nat), J = L2.Itr lo0 n0 ∧ i ≤ n0 ∧ lo = lo0 + (i : Nat) ∧ n = n0 - i
  | .enm j xs => j = i ∧ ∃ a xs0, RV S m H (.tup xs0) (.ref a) ∧ xs = xs0.drop i ∧ J = ItP S.K a
theorem ItSim.mono {J : It} {i : Nat} {it : Itr} (h : ItSim S J i it m H) (em : Ext m m') (kt : KeepT H H') : ItSim S J i it m' H' := by
  cases it with
  | lst n j =>
    obtain ⟨e, a, h1, h2⟩ := h
    exact ⟨e, a, em _ _ h1, h2⟩
  | seq xs =>
    rcases h with ⟨a, xs0, h1, h2, h3⟩ | h
    · exact .inl ⟨a, xs0, RV.mono em kt h1, h2, h3⟩
    · exact .inr h
  | rng lo n => exact h
  | enm j xs =>
    obtain ⟨e, a, xs0, h1, h2, h3⟩ := h
    exact ⟨e, a, xs0, RV.mono em kt h1, h2, h3⟩
theorem drop_cons' {α : Type} {l : List α} {i : Nat} {x : α} {r : List α} (h : l.drop i = x :: r) : l[i]? = some x ∧ r = l.drop (i + 1) := by
  have h1 : i < l.length := by
    rcases Nat.lt_or_ge i l.length with z | z
    · exact z
    · rw [List.drop_eq_nil_of_le z] at h
      cases h
  rw [List.drop_eq_getElem_cons h1] at h
  cases h
  exact ⟨List.getElem?_eq_getElem h1, rfl⟩
theorem drop_nil' {α : Type} {l : List α} {i : Nat} (h : l.drop i = []) : l.length ≤ i := by
  rcases Nat.lt_or_ge i l.length with z | z
  · rw [List.drop_eq_getElem_cons z] at h
    cases h
  · exact z
def Stp (S : Stat) (J : It) (i : Nat) (m : Mp) (H : Hp) : Option (LV × Itr) → Prop
  | none => J.stop i H
  | some (x, it') => J.go i H ∧ ∀ y H', J.yld i H y H' → Lay H H' ∧ RV S m H' x y ∧ ItSim S J (i + 1) it' m H'
/-- a turn of both -/
theorem ItSim.step {J : It} {i : Nat} {it : Itr} (p : Rel S (vis X) m mc G H) (h : ItSim S J i it m H) {o : Option (LV × Itr)} (e : stepI G it = some o) : Stp S J i m H o := by
  cases it with
  | lst n j =>
    obtain ⟨rfl, a, h1, rfl⟩ := h
    have e : (match listAt G n with
      | some xs => (match xs[j]? with
        | some x => some (some (x, Itr.lst n (j + 1)))
        | none => some none)
      | none => none) = some o := e
    cases e1 : listAt G n with
    | none => rw [e1] at e; cases e
    | some xs =>
      rw [e1] at e
      obtain ⟨a', vs, z, hs, rs⟩ := p.seq e1 ⟨a, rfl, h1⟩
      cases z
      have e : (match xs[j]? with | some x => some (some (x, Itr.lst n (j + 1))) | none => some none) = some o := e
      cases e2 : xs[j]? with
      | none =>
        rw [e2] at e
        cases e
        refine ⟨vs, hs, ?_⟩
        rw [← rs.length]
        exact List.getElem?_eq_none_iff.mp e2
      | some x =>
        rw [e2] at e
        cases e
        obtain ⟨y, hy, ry⟩ := rs.get e2
        refine ⟨⟨vs, y, hs, hy⟩, fun y' H' ⟨e3, q⟩ => ⟨.inl e3, ?_, rfl, a, h1, rfl⟩⟩
        rw [e3]
        have := q vs hs
        rw [hy] at this
        cases this
        exact ry
  | seq xs =>
    rcases h with ⟨a, xs0, h1, rfl, rfl⟩ | ⟨x0, rfl, rfl⟩
    · obtain ⟨a', vs, z, hs, rs⟩ := h1.tup
      cases z
      cases e2 : xs0.drop i with
      | nil =>
        rw [e2] at e
        cases e
        exact ⟨vs, hs, by rw [← rs.length]; exact drop_nil' e2⟩
      | cons x r =>
        rw [e2] at e
        cases e
        obtain ⟨k1, rfl⟩ := drop_cons' e2
        obtain ⟨y, hy, ry⟩ := rs.get k1
        refine ⟨⟨vs, y, hs, hy⟩, fun y' H' ⟨e3, q⟩ => ⟨.inl e3, ?_, .inl ⟨a, xs0, by rw [e3]; exact h1, rfl, rfl⟩⟩⟩
        rw [e3]
        have := q vs hs
        rw [hy] at this
        cases this
        exact ry
    · cases e2 : x0.drop i with
      | nil =>
        rw [e2] at e
        cases e
        show (Str.mk x0.toArray).cps.size ≤ i
        simpa using drop_nil' e2
      | cons x r =>
        rw [e2] at e
        cases e
        obtain ⟨k1, rfl⟩ := drop_cons' e2
        have lt : i < x0.length := (List.getElem?_eq_some_iff.mp k1).1
        refine ⟨by show i < (Str.mk x0.toArray).cps.size; simpa using lt, fun y' H' ⟨e3, c, q1, q2⟩ => ⟨.inl e3, ?_, .inr ⟨x0, rfl, rfl⟩⟩⟩
        have q1 : x0[i]? = some c := by simpa using q1
        rw [k1] at q1
        cases q1
        rw [q2]
        rfl
  | rng lo n =>
    obtain ⟨lo0, n0, rfl, hi, rfl, rfl⟩ := h
    cases e2 : n0 - i with
    | zero =>
      rw [e2] at e
      cases e
      show n0 ≤ i
      omega
    | succ k =>
      rw [e2] at e
      cases e
      refine ⟨by show i < n0; omega, fun y' H' ⟨e3, q⟩ => ⟨.inl e3, q, lo0, n0, rfl, by omega, ?_, by omega⟩⟩
      push_cast
      omega
  | enm j xs =>
    obtain ⟨rfl, a, xs0, h1, rfl, rfl⟩ := h
    obtain ⟨a', vs, z, hs, rs⟩ := h1.tup
    cases z
    cases e2 : xs0.drop j with
    | nil =>
      rw [e2] at e
      cases e
      exact ⟨vs, hs, by rw [← rs.length]; exact drop_nil' e2⟩
    | cons x r =>
      rw [e2] at e
      cases e
      obtain ⟨k1, rfl⟩ := drop_cons' e2
      obtain ⟨y, hy, ry⟩ := rs.get k1
      refine ⟨⟨vs, y, hs, hy⟩, fun y' H' ⟨T, x', o, e3, hn, hd, e4, q⟩ => ?_⟩
      have e5 := q vs hs
      rw [hy] at e5
      cases e5
      subst e3 e4
      have kt : KeepT H (upd H T (.frz o (.tup [.int (j : Nat), y]))) := fun b o' ws e => by
        have hb : b ≠ T := fun z => by rw [z, hn] at e; cases e
        rw [upd_ne hb]
        exact e
      exact ⟨.inr ⟨T, _, hn, rfl⟩, ⟨T, _, o, rfl, ⟨upd_same, hd⟩, _, _, rfl, rfl, _, _, rfl, RV.mono (Ext.refl m) kt ry, rfl⟩, rfl, a, xs0, RV.mono (Ext.refl m) kt h1, rfl, rfl⟩
def tI (S : Stat) (X : Cx) (W : WX) (f : SL → GH → Res Itr) : TI := fun σ H R => ∃ m mc G σL, Pre S X m mc G H σL σ ∧ Post S X W m mc H σL σ (f σL G) fun it m' mc' G' H' => ∀ J, ItSim S J 0 it m' H' → R J H'
/-- a loop -/
theorem s_for {n : Nat} {fi : SL → GH → Res Itr} (hK : X.K = S.K) (T : PassesOwn (model X.prog X.w) X.A X.env X.xe) (calm : X.calm = true) (hi : PI X te e (tI S X W fi)) (hg : PG X te (tG S X W (tg C))) (hb : PSs X b (tX S X W (body C))) (hs : ∀ x, foldedSetIterable e X.env x = pure x) :
    PS X (.For te e b [] pos) (tX S X W fun σ g => (fi σ g).bind fun it g => forL C tg body n it σ g) := by
  refine ⟨fun pins s σ H D I ⟨m, mc, G, σL, p, h⟩ => ?_⟩
  refine (ps_for T calm hi hg hb hs).run pins s σ H D I ⟨m, mc, G, σL, p, Post.imp (PostS.bindE h) fun it m1 mc1 G1 H1 _ _ _ _ p1 ⟨_, _, _, _, q⟩ J sim => ?_⟩
  refine ⟨fun i k σ H => ∃ m mc G σL it, Pre S X m mc G H σL σ ∧ ItSim S J i it m H ∧ PostS S X W m mc H (forL C tg body k it σL G) (·.2) (ends S D), ⟨n, m1, mc1, G1, σL, it, p1, sim, q⟩, fun i k σ H ⟨m, mc, G, σL, it, p, sim, h⟩ => ?_⟩
  cases k with
  | zero => exact h.elim
  | succ k =>
    unfold forL at h
    cases e1 : stepI G it with
    | none => rw [e1] at h; exact h.elim
    | some o =>
      rw [e1] at h
      have st := ItSim.step p.r sim e1
      cases o with
      | none => exact .inl ⟨st, PostS.ok (a := (Fl.nx, σL)) p h⟩
      | some xi =>
        obtain ⟨x, it'⟩ := xi
        obtain ⟨go, st⟩ := st
        refine .inr ⟨go, fun σ' H' => ∃ m mc G σL it, Pre S X m mc G H' σL σ' ∧ ItSim S J (i + 1) it m H' ∧ PostS S X W m mc H' (forL C tg body k it σL G) (·.2) (ends S D), fun σ' H' z => ⟨k, Nat.lt_succ_self k, z⟩, fun y H' hy => ?_⟩
        obtain ⟨ly, ry, sim'⟩ := st y H' hy
        obtain ⟨p, kp0⟩ := p.lay hK ly
        have h := PostS.up (Ext.refl m) (Ext.refl mc) kp0 h
        have h : PostS S X W m mc H' ((tg C x σL G).bind fun σ g => (body C σ g).bind fun r g => match r with
          | (.nx, σ) => forL C tg body k it' σ g
          | (.ct, σ) => forL C tg body k it' σ g
          | (.bk, σ) => .ok (.nx, σ) g
          | (.rt v, σ) => .ok (.rt v, σ) g) (·.2) (ends S D) := h
        refine ⟨m, mc, G, σL, x, p, ry, PostS.imp (PostS.bindS (sl := id) h) fun σL2 m2 mc2 G2 H2 σ2 _ _ _ _ p2 ⟨_, em2, _, kp2, q2⟩ => ?_⟩
        refine ⟨m2, mc2, G2, σL2, p2, PostS.imp (PostS.bindS (sl := (·.2)) q2) fun a m3 mc3 G3 H3 σ3 _ _ _ _ p3 ⟨_, em3, _, kp3, q3⟩ => ?_⟩
        obtain ⟨fl, σL3⟩ := a
        have sim3 := (sim'.mono em2 kp2.t).mono em3 kp3.t
        cases fl with
        | nx => exact ⟨m3, mc3, G3, σL3, it', p3, sim3, q3⟩
        | ct => exact ⟨m3, mc3, G3, σL3, it', p3, sim3, q3⟩
        | bk =>
          have z : ends S D (Fl.nx, σL3) m3 mc3 G3 H3 σ3 := PostS.ok (W := W) (a := (Fl.nx, σL3)) p3 q3
          exact z
        | rt v =>
          have z : ends S D (Fl.rt v, σL3) m3 mc3 G3 H3 σ3 := PostS.ok (W := W) (a := (Fl.rt v, σL3)) p3 q3
          exact z
/-! what a loop walks -/
theorem str_seq {x : List Nat} : ItSim S (Its ⟨x.toArray⟩) 0 (.seq (x.map fun c => .str [c])) m H := .inr ⟨x, rfl, rfl⟩
end
end MP
namespace MP
open PySem PySem.Spec L2
open PyProof.Rows hiding St

section
variable {S : Stat} {X : Cx} {W : WX} {m mc m' mc' : Mp} {G G' : GH} {H H' : Hp} {σL : SL} {σ : St} {pins : List (Addr × Obj)} {s : Shared} {D : Ends} {R : It → Hp → Prop}
variable {e tg a b : Expr} {fe fa fb : SL → GH → Res LV} {fr : SL → GH → Res (List LV)} {pos : Pos}
theorem it_list {q : Addr} {vs : List V} (I : Inv X pins σ H s) (hq : SqL X.K H q vs) (r : R (Itl X.K q) H) : wpAny (model X.prog X.w) X.A (pyIter (.ref q)) (PIE X pins σ tg R) X.xe s := by
  obtain ⟨its, rv, p, hz⟩ := I.list hq
  refine wpAny_pyIter_list p.isList ⟨s.heap.objs.size, [s.heap.objs.size], _, _, H, rfl, I.kept (t' := s.toks) fun b o e => Heap.get?_push_of_some _ e, turn_list q _, ⟨_, Heap.get?_push_size _ rfl, rfl, rfl⟩, fun b hb => ?_, r⟩
  cases List.mem_singleton.mp hb
  exact I.fpOk (Nat.le_refl _) (I.hok.fresh (Nat.le_refl _))
theorem it_tuple {q : Addr} {vs : List V} (I : Inv X pins σ H s) (hq : SqT X.K H q vs) (r : R (Itt X.K q) H) : wpAny (model X.prog X.w) X.A (pyIter (.ref q)) (PIE X pins σ tg R) X.xe s := by
  obtain ⟨its, rv, p, hz⟩ := I.tuple hq
  refine wpAny_pyIter_tuple p ⟨s.heap.objs.size, [s.heap.objs.size], _, _, H, rfl, I.kept (t' := s.toks) fun b o e => Heap.get?_push_of_some _ e, turn_tuple q _, ⟨_, Heap.get?_push_size _ rfl, rfl, rfl⟩, fun b hb => ?_, r⟩
  cases List.mem_singleton.mp hb
  exact I.fpOk (Nat.le_refl _) (I.hok.fresh (Nat.le_refl _))
theorem it_str {x : Str} {t : Tok} (I : Inv X pins σ H s) (r : R (Its x) H) : wpAny (model X.prog X.w) X.A (pyIter (.str x t)) (PIE X pins σ tg R) X.xe s := by
  cases ha : x.cps.all (· < 128) with
  | false => exact wpAny_pyIter_wide ha (pi_one (tk := s.toks) I _ (turn_str _ x t "str_iterator" (.inr rfl)) ⟨_, Heap.get?_push_size _ rfl, rfl, rfl⟩ r)
  | true => exact wpAny_pyIter_ascii ha (pi_one (tk := s.toks) I _ (turn_str _ x t "str_ascii_iterator" (.inl rfl)) ⟨_, Heap.get?_push_size _ rfl, rfl, rfl⟩ r)
theorem i_val (C : CtxE S X) (he : PE X e (tE S X W fe)) : PI X tg e (tI S X W fun σ g => (fe σ g).bind fun v g => valI v g) := by
  refine ⟨fun pins s σ H R I ⟨m, mc, G, σL, p, h⟩ => ?_⟩
  refine thn (he.run pins s σ H _ I (one p h)) fun v s1 ⟨x, H1, I1, r1, la, m1, mc1, G1, p1, ra, q⟩ => ?_
  have hK := C.ok.k
  cases la with
  | tup xs =>
    obtain ⟨a, vs, rfl, h1, rs⟩ := ra.tup
    rw [← hK] at h1
    cases r1
    refine it_tuple I1 h1 (Post.ok p1 q _ (.inl ⟨a, xs, ra, rfl, by rw [hK]⟩))
  | str y =>
    cases ra.str_
    obtain ⟨t, rfl⟩ := r1
    exact it_str I1 (Post.ok p1 q _ str_seq)
  | loc n =>
    have q : Post S X W m1 mc1 H1 σL σ (match listAt G1 n with | some _ => .ok (.lst n 0) G1 | none => .stuck) (fun it m' mc' G' H' => ∀ J, ItSim S J 0 it m' H' → R J H') := q
    cases e1 : listAt G1 n with
    | none => rw [e1] at q; exact q.elim
    | some xs =>
      rw [e1] at q
      obtain ⟨a, vs, rfl, h1, rs⟩ := p1.r.seq e1 ra
      rw [← hK] at h1
      cases r1
      obtain ⟨a', z, hm⟩ := ra
      cases z
      exact it_list I1 h1 (Post.ok p1 q _ ⟨rfl, a, hm, by rw [hK]⟩)
  | _ => exact q.elim
theorem small_at {j : Int} (h : smallI j = true) : -(2 ^ 62) ≤ j ∧ j < 2 ^ 62 := by
  unfold smallI at h
  rw [Bool.and_eq_true, decide_eq_true_eq, decide_eq_true_eq] at h
  exact ⟨by omega, by omega⟩
theorem i_rng1 {p0 : Pos} (hg : Gl X "range") (hm : X.mg "range" = none) (ha : PE X a (tE S X W fa)) (hs : notStar a = true) : PI X tg (.Call (.Name "range" p0) [a] [] pos) (tI S X W fun σ g => (fa σ g).bind fun v g => rngI1 v g) := by
  refine ⟨fun pins s σ H R I ⟨m, mc, G, σL, p, h⟩ => ?_⟩
  refine (pi_range1 hg hm (pa_cons ha pa_nil (star_cons hs)) (star_cons hs)).run pins s σ H R I ?_
  obtain ⟨m0, mc0, G0, σ0, p0, h0⟩ := one p h
  refine ⟨m0, mc0, G0, σ0, p0, Post.imp h0 fun v m1 mc1 G1 H1 _ _ _ _ _ f x rx => ?_⟩
  obtain ⟨la, m2, mc2, G2, p2, ra, q⟩ := f x rx
  cases la with
  | int j =>
    obtain ⟨hj, q⟩ := Post.guard q
    cases ra.int_
    obtain ⟨h1, h2⟩ := small_at hj
    exact ⟨j, rfl, h1, h2, Post.ok p2 q _ ⟨0, j.toNat, rfl, Nat.zero_le _, by simp, by simp⟩⟩
  | _ => exact q.elim
theorem i_rng2 {p0 : Pos} (hg : Gl X "range") (hm : X.mg "range" = none) (ha : PE X a (tE S X W fa)) (hb : PE X b (tE S X W fb)) (hs : notStar a = true) (hs2 : notStar b = true) : PI X tg (.Call (.Name "range" p0) [a, b] [] pos) (tI S X W fun σ g => (fa σ g).bind fun v g => (fb σ g).bind fun w g => rngI2 v w g) := by
  refine ⟨fun pins s σ H R I ⟨m, mc, G, σL, p, h⟩ => ?_⟩
  refine (pi_range2 hg hm (pa_cons ha (pa_cons hb pa_nil (star_cons hs2)) (star_cons hs)) (by rw [star_cons hs, star_cons hs2]; rfl) (star_cons hs2)).run pins s σ H R I ?_
  obtain ⟨m0, mc0, G0, σ0, p0, h0⟩ := two p h
  refine ⟨m0, mc0, G0, σ0, p0, Post.imp h0 fun v m1 mc1 G1 H1 _ _ _ _ _ f x rx => ?_⟩
  obtain ⟨m0', mc0', G0', σ0', p0', h0'⟩ := f x rx
  refine ⟨m0', mc0', G0', σ0', p0', Post.imp h0' fun v m1 mc1 G1 H1 _ _ _ _ _ f y ry => ?_⟩
  obtain ⟨la, lb', m2, mc2, G2, p2, ra, rb, q⟩ := f y ry
  cases la with
  | int i =>
    cases lb' with
    | int j =>
      obtain ⟨hj, q⟩ := Post.guard q
      rw [Bool.and_eq_true] at hj
      cases ra.int_
      cases rb.int_
      obtain ⟨h1, h2⟩ := small_at hj.1
      obtain ⟨h3, h4⟩ := small_at hj.2
      exact ⟨i, j, rfl, ⟨h1, h2, h3, h4⟩, Post.ok p2 q _ ⟨i, (j - i).toNat, rfl, Nat.zero_le _, by simp, by simp⟩⟩
    | _ => exact q.elim
  | _ => exact q.elim
end
end MP
namespace MP
open PySem PySem.Spec L2
open PyProof.Rows hiding St

/-- the block's context, its cells as they are laid -/
abbrev XBk (X : Cx) (scope : Scope) (t3 : Shared) (K3 : Hp) (fp : List Addr) : Cx :=
  X.blk t3 K3 scope (compEnvC scope (cellsFrom (t3.heap.objs.size + 1) scope.names (cloFrom X.env.cells scope.names [])) t3.heap.objs.size X.env) fp
section
variable {X : Cx} {pins : List (Addr × Obj)} {σ : St} {H : Hp} {s : Shared} {Q : VK}
/-- what a block's turns do -/
def Turns (XB : Cx) (tg : Expr) (ifs : List Expr) (elt : Expr) (J : It) (D : Addr) (σ0 : St) (H0 : Hp) (Q : VK) : Prop :=
  ∃ (g : TG) (tt : TT) (te : TE) (Wv : Nat → Nat → St → Hp → Prop), PG XB tg g ∧ PTs XB ifs tt ∧ PE XB elt te ∧ (∃ n, Wv 0 n σ0 H0) ∧ ∀ i n σ H, Wv i n σ H →
    (J.stop i H ∧ Q (.ref D) H) ∨ (J.go i H ∧ ∃ Nx : St → Hp → Prop, (∀ σ' H', Nx σ' H' → ∃ n', n' < n ∧ Wv (i + 1) n' σ' H') ∧ ∀ x H', J.yld i H x H' → g x σ H' fun σ2 H2 => tt σ2 H2 fun b H3 =>
      if b = true then te σ2 H3 fun y H4 => ∃ acc, H4 D = some (.lst acc) ∧ acc.length < sizeLine ∧ Nx σ2 (upd H4 D (.lst (acc ++ [y]))) else Nx σ2 H3)
theorem lc_run {elt tg iter : Expr} {ifs : List Expr} {scope : Scope} {own : List (Str × Nat)} {pos pos2 : Pos} {wi : TI} {use : Option (Value → Sem Unit)} {Qf : Value → Shared → Prop} (calm : X.calm = true) (nd : X.N.Nodup) (I : Inv X pins σ H s) (hi : PI X tg iter wi) (ok : BlkOk X.N X.env.scope scope own)
    (hs : ∀ x, foldedSetIterable iter X.env x = pure x)
    (h : wi σ H fun J H1 => ∀ (D : Addr) (t3 : Shared) (fp : List Addr), H1 D = none → Inv X pins σ (upd H1 D (.lst [])) t3 → Turns (XBk X scope t3 (upd H1 D (.lst [])) fp) tg ifs elt J D (L2.wipe σ (own.map (·.2))) (upd H1 D (.lst [])) Q)
    (fin : ∀ D C s' m H', Inv X pins σ H' s' → Q (.ref D) H' → s'.heap.Ns C m → FpOk X pins H' C → compPost (model X.prog X.w) X.A X.xe use Qf (.ref D) C (.ok .next) s') :
    wpAny (model X.prog X.w) X.A (comprehension (.ListComp elt [⟨tg, iter, ifs, 0⟩] scope pos) scope X.env pos2 (newList []) false (eval iter X.env) use) Qf X.xe s := by
  have captured : ∀ y ∈ scope.names, y.2 = .free → ∃ c, X.env.cells.lookup y.1 = some c := fun y hy e =>
    (ok.free y hy e).elim (fun k => I.ok.has _ (.inl k)) fun k => I.ok.has _ (.inr k)
  refine wpAny_comprehension_free (use := use) (by rfl) hs (closure_ok captured) ok.kind (fun y hy e => (ok.uniq y hy).trans (by rw [e])) (thn (hi.run pins s σ H _ I h) fun xv t1 hx => thn hx fun itv t2 h2 => ?_)
  obtain ⟨it, fp, tn, J, H2, rfl, I2, T, st2, f2, q⟩ := h2
  refine wpAny_newObj_type (newEnv_comp ?_) (show 0 ≤ sizeLine from Nat.zero_le _)
  -- the new list, at D
  obtain ⟨D, hD⟩ : ∃ D, D = t2.heap.objs.size := ⟨_, rfl⟩
  have freshD : H2 D = none := I2.hok.fresh (by rw [hD]; exact Nat.le_refl _)
  obtain ⟨t3, h3⟩ : ∃ t3 : Shared, t3 = { t2 with heap := t2.heap.push { cls := .type "list", data := .seq ([] : List Value).toArray } } := ⟨_, rfl⟩
  have e3 : t3.heap = t2.heap.push { cls := .type "list", data := .seq ([] : List Value).toArray } := by rw [h3]
  have I3 : Inv X pins σ (upd H2 D (.lst [])) t3 := by
    rw [h3, hD]
    exact I2.laid (t' := t2.toks) (fun b o e => Heap.get?_push_of_some _ e) (Nat.le_refl _) ⟨Nat.zero_le _, [], 0, .nil, Heap.get?_push_size _ rfl⟩
  have below : ∀ b ∈ fp, b < t2.heap.objs.size := fun b hb => by
    obtain ⟨o, e, _⟩ := T.obj _ _ st2 b hb
    exact Heap.lt_size e
  have f3 : ∀ b ∈ fp, FpOk X pins (upd H2 D (.lst [])) b ∧ b < t3.heap.objs.size := fun b hb => by
    have lt := below b hb
    refine ⟨⟨(upd_ne (by rw [hD]; exact Nat.ne_of_lt lt)).trans (f2 b hb).1, (f2 b hb).2⟩, ?_⟩
    rw [e3, Heap.size_push]
    exact Nat.lt_succ_of_lt lt
  have st3 : tn 0 t3.heap := T.keep _ _ _ st2 fun b _ o e => by rw [e3]; exact Heap.get?_push_of_some _ e
  obtain ⟨g, tt, te, Wv, pg, pt, pe, ⟨n0, w0⟩, turn⟩ := q D t3 fp freshD I3
  have I4 := block_start I3 ok nd f3
  unfold XBk at pg pt pe
  rw [← hD]
  show codeAny (model X.prog X.w) X.A (.compStart (.ListComp elt [⟨tg, iter, ifs, 0⟩] scope pos) 0 (.ref it) (.ref D) (compEnvC scope (cellsFrom ((t2.heap.push { cls := .type "list", data := .seq ([] : List Value).toArray }).objs.size + 1) scope.names (cloFrom X.env.cells scope.names [])) (t2.heap.push { cls := .type "list", data := .seq ([] : List Value).toArray }).objs.size X.env))
    (compPost (model X.prog X.w) X.A X.xe use Qf (.ref D) (t2.heap.push { cls := .type "list", data := .seq ([] : List Value).toArray }).objs.size) { t2 with heap := pushCells ((t2.heap.push { cls := .type "list", data := .seq ([] : List Value).toArray }).push { cls := .type "dict", data := .dict #[] }) scope.names }
  rw [← e3, show ({ t2 with heap := pushCells (t3.heap.push { cls := .type "dict", data := .dict #[] }) scope.names } : Shared) = { t3 with heap := pushCells (t3.heap.push { cls := .type "dict", data := .dict #[] }) scope.names } by rw [h3]]
  generalize hce : compEnvC scope (cellsFrom (t3.heap.objs.size + 1) scope.names (cloFrom X.env.cells scope.names [])) t3.heap.objs.size X.env = ce at I4 pg pt pe ⊢
  have cL : ce.locals = t3.heap.objs.size := by rw [← hce]; rfl
  generalize hK : upd H2 D (.lst []) = K3 at I3 I4 pg pt pe w0 f3
  obtain ⟨t4, h4⟩ : ∃ t4 : Shared, t4 = { t3 with heap := pushCells (t3.heap.push { cls := .type "dict", data := .dict #[] }) scope.names } := ⟨_, rfl⟩
  rw [← h4] at I4 ⊢
  have st4 : tn 0 t4.heap := T.keep _ _ _ st3 fun b _ o e => by rw [h4]; exact pushCells_keeps _ _ _ _ (Heap.get?_push_of_some _ e)
  have mine : ∀ {σ' : St} {H' : Hp} {s' : Shared}, Inv (X.blk t3 K3 scope ce fp) [] σ' H' s' → (∀ b ∈ fp, H' b = none) → ∀ b ∈ fp, FpOk (X.blk t3 K3 scope ce fp) [] H' b := fun {σ' H' s'} J' none_ b hb =>
    ⟨none_ b hb, (J'.ok.exf b hb).1, J'.ok.exfs b hb, .inl hb, fun x c e => (J'.ok.exf b hb).2 x c e, fun p hp => nomatch (show p ∈ ([] : List (Addr × Obj)) from hp)⟩
  have loop : codeAny (model X.prog X.w) X.A (.compLoop (.ListComp elt [⟨tg, iter, ifs, 0⟩] scope pos) 0 (.ref it) (.ref D) ce) (compPost (model X.prog X.w) X.A X.xe use Qf (.ref D) t3.heap.objs.size) t4 := by
    refine compLoop_any (fun n s' => ∃ i σ' H', Inv (X.blk t3 K3 scope ce fp) [] σ' H' s' ∧ tn i s'.heap ∧ (∀ b ∈ fp, H' b = none) ∧ Wv i n σ' H') ?_ n0 ⟨0, _, K3, I4, st4, fun b hb => (f3 b hb).1.1, w0⟩
    rintro n t5 ⟨i, σ5, H5, I5, st5, n5, w5⟩
    rcases turn i n σ5 H5 w5 with ⟨stop, qq⟩ | ⟨go, Nx, hNx, step⟩
    · have dn := T.done (X.blk t3 K3 scope ce fp) rfl rfl rfl calm i [] t5 _ H5 (fun _ _ => False) I5 (mine I5 n5) st5 stop
      refine thnF dn fun r t6 ⟨hr, I6⟩ => ?_
      subst hr
      have I7 : Inv X pins σ H5 t6 := I3.call' (ch := fp) I6.os I6.base I6.hok I6.bare fun b hb => ⟨(f3 b hb).1.2.2.2.1, (f3 b hb).1.2.1, (f3 b hb).1.2.2.2.2.1, (f3 b hb).1.2.2.2.2.2⟩
      have noC : H5 t3.heap.objs.size = none := by
        have z : H5 ce.locals = none := I6.free
        rwa [cL] at z
      obtain ⟨mm, hn, _⟩ := I6.loc
      have hn : t6.heap.Ns ce.locals mm := hn
      rw [cL] at hn
      exact fin D t3.heap.objs.size t6 mm H5 I7 qq hn (I3.fpOk (Nat.le_refl _) noC)
    · have im := T.item (X.blk t3 K3 scope ce fp) rfl rfl rfl calm i [] t5 _ H5 (fun _ _ => False) I5 (mine I5 n5) st5 go
      refine thnF im fun r t6 ⟨u, hr, h6⟩ => ?_
      subst hr
      refine thnF h6 fun _ t7 ⟨x, H7, I7, r7, y7, st7, n7⟩ => ?_
      have P7 := I7.pinned (mine I7 n7) (T.obj _ _ st7)
      refine thnF (pg.run _ t7 _ H7 x u _ P7 r7 (step x H7 y7)) fun _ t8 ⟨σ8, H8, I8, q8⟩ => ?_
      refine thnF (pt.run _ t8 σ8 H8 _ I8 q8) fun b t9 ⟨H9, I9, q9⟩ => ?_
      have again : ∀ {s' : Shared} {H' : Hp}, Inv (X.blk t3 K3 scope ce fp) ([] ++ pinsAt fp t7.heap) σ8 H' s' → Nx σ8 H' → ∃ m, m < n ∧ ∃ i σ' H', Inv (X.blk t3 K3 scope ce fp) [] σ' H' s' ∧ tn i s'.heap ∧ (∀ b ∈ fp, H' b = none) ∧ Wv i m σ' H' := fun {s' H'} J' nx => by
        obtain ⟨n', hn, w'⟩ := hNx σ8 H' nx
        have held : ∀ b ∈ fp, ∀ o, t7.heap.get? b = some o → s'.heap.get? b = some o ∧ H' b = none := fun b hb o e =>
          ⟨(J'.pin (b, o) (List.mem_append_right _ (List.mem_append_right _ (mem_pinsAt hb e)))).1, (J'.pin (b, o) (List.mem_append_right _ (List.mem_append_right _ (mem_pinsAt hb e)))).2.1⟩
        refine ⟨n', hn, i + 1, σ8, H', J'.unpinned (pins := []), T.keep _ _ _ st7 fun b hb o e => (held b hb o e).1, fun b hb => ?_, w'⟩
        obtain ⟨o, e, _⟩ := T.obj _ _ st7 b hb
        exact (held b hb o e).2
      cases b with
      | false =>
        simp only [Bool.false_eq_true, if_false] at q9 ⊢
        exact again I9 q9
      | true =>
        simp only [if_true] at q9 ⊢
        refine thnF (pe.run _ t9 σ8 H9 _ I9 q9) fun z t10 ⟨yv, H10, I10, r10, acc, hD10, hz10, nx⟩ => ?_
        exact app_ok (X := X.blk t3 K3 scope ce fp) I10 hD10 hz10 r10 fun t11 I11 => again I11 nx
  exact codeAny_compStart_list loop (T.self X.A 0 _ _ _ st4 loop)
/-- [..] as a value -/
theorem pe_own {elt tg iter : Expr} {ifs : List Expr} {scope : Scope} {own : List (Str × Nat)} {pos : Pos} {wi : TI} {t : TE} (calm : X.calm = true) (nd : X.N.Nodup) (hi : PI X tg iter wi) (ok : BlkOk X.N X.env.scope scope own) (hs : ∀ x, foldedSetIterable iter X.env x = pure x)
    (h : ∀ (pins : List (Addr × Obj)) (s : Shared) (σ : St) (H : Hp) (Q : VK), Inv X pins σ H s → t σ H Q → wi σ H fun J H1 => ∀ (D : Addr) (t3 : Shared) (fp : List Addr), H1 D = none → Inv X pins σ (upd H1 D (.lst [])) t3 → Turns (XBk X scope t3 (upd H1 D (.lst [])) fp) tg ifs elt J D (L2.wipe σ (own.map (·.2))) (upd H1 D (.lst [])) Q) :
    PE X (.ListComp elt [⟨tg, iter, ifs, 0⟩] scope pos) t := by
  refine ⟨fun pins s σ H Q I q => ?_⟩
  rw [eval_ListComp]
  refine lc_run calm nd I hi ok hs (h pins s σ H Q I q) fun D C s' mm H' I' q hn ⟨f0, f1, f2, f3, f4, f5⟩ => ⟨mm, hn, fun h'' sb => ?_⟩
  exact ⟨.ref D, H', I'.turned (t' := s'.toks) (fun b o hb e => (sb.2 b hb).trans e) f0 f1 f3 f4 f5, rfl, q⟩
/-- name = [..], kept in the name at once -/
theorem ps_own {i : Nat} {y : Str} {py : Pos} {elt tg iter : Expr} {ifs : List Expr} {scope : Scope} {own : List (Str × Nat)} {pos spos : Pos} {wi : TI} {t : TS} (calm : X.calm = true) (nd : X.N.Nodup) (hy : X.N[i]? = some y) (hyl : X.env.scope.names.lookup y = some .local)
    (hsw : swapsWith (.ListComp elt [⟨tg, iter, ifs, 0⟩] scope pos) (some (.Name y py)) spos.line X.env = pure true) (hi : PI X tg iter wi) (ok : BlkOk X.N X.env.scope scope own) (hs : ∀ x, foldedSetIterable iter X.env x = pure x)
    (h : ∀ (pins : List (Addr × Obj)) (s : Shared) (σ : St) (H : Hp) (D : Ends), Inv X pins σ H s → t D σ H → wi σ H fun J H1 => ∀ (d : Addr) (t3 : Shared) (fp : List Addr), H1 d = none → Inv X pins σ (upd H1 d (.lst [])) t3 → Turns (XBk X scope t3 (upd H1 d (.lst [])) fp) tg ifs elt J d (L2.wipe σ (own.map (·.2))) (upd H1 d (.lst [])) (fun v H' => D.nx (σ.set i (some v)) H')) :
    PS X (.Assign [.Name y py] (.ListComp elt [⟨tg, iter, ifs, 0⟩] scope pos) spos) t := by
  refine ⟨fun pins s σ H D I q => ?_⟩
  rw [exec_Assign_Name_used _ _ _ _ hsw]
  refine wpAny_bind (wpAny_standAt (wpAny_bind ?_))
  refine wpAny_bind (thn (lc_run (use := some (assign (.Name y py) X.env)) (Qf := fun _ s' => SP X pins D .next s') calm nd I hi ok hs (h pins s σ H D I q) fun d C s' mm H' I' q hn ⟨f0, f1, f2, f3, f4, f5⟩ => ?_) fun _ s' hq => wpAny_pure (wpAny_pure hq))
  show wpAny _ _ (assign (.Name y py) X.env (.ref d)) _ _ _
  refine wpAny_assign_Name (store_ok2 (v := V.ref d) I' nd hy (.inl hyl) rfl (fun t2 I2 ⟨a, sb, ha⟩ => ?_) (.inr hyl))
  have haC : C ≠ a := by
    rcases ha with z | z
    · rw [z]; exact f1
    · exact fun e => f4 y a z e.symm
  exact ⟨mm, hn.sameBut sb haC, fun h3 sb3 => ⟨_, H', I2.turned (t' := t2.toks) (fun b o hb e => (sb3.2 b hb).trans e) f0 f1 f3 f4 f5, q⟩⟩
end
end MP
namespace MP
open PySem PySem.Spec L2
open PyProof.Rows hiding St

/-! ### the block's context -/
/-- what is checked of a comprehension's scope: own names at own, no cell of its own, the frame's other cells at hid -/
structure BlkS (nd : List Str) (sc scope : Scope) (own : List (Str × Nat)) (hid : List Nat) : Prop where
  ok : BlkOk nd sc scope own
  nocell : ∀ y ∈ scope.names, y.2 ≠ .cell
  loc : ∀ p ∈ own, scope.names.lookup p.1 = some .local
  cov : ∀ (i : Nat) (x : Str), nd[i]? = some x → (sc.names.lookup x = some .cell ∨ sc.names.lookup x = some .free) → scope.names.lookup x = some .free ∨ i ∈ hid
  hk : ∀ i ∈ hid, ∃ x, nd[i]? = some x ∧ (sc.names.lookup x = some .cell ∨ sc.names.lookup x = some .free)
  off : ∀ i ∈ hid, ∀ x, nd[i]? = some x → scope.names.lookup x = none
theorem lookup_map_free {f : Str → NameKind → NameKind} : ∀ {names : List (Str × NameKind)} {x : Str}, (names.map fun p => (p.1, f p.1 p.2)).lookup x = (names.lookup x).map (f x)
  | [], _ => rfl
  | (n, k) :: r, x => by
    rw [List.map_cons, List.lookup_cons, List.lookup_cons]
    by_cases h : (x == n) = true
    · have e : x = n := by simpa using h
      subst e
      simp
    · simp only [h]
      exact lookup_map_free
section
variable {X : Cx} {scope : Scope} {own : List (Str × Nat)} {hid : List Nat} {t3 : Shared} {K3 : Hp} {fp : List Addr} {σ : St} {pins : List (Addr × Obj)}
theorem blk_kind (x : Str) : (XBk X scope t3 K3 fp).env.scope.names.lookup x = (scope.names.lookup x).map fun k => if (k == NameKind.free && X.env.scope.kind == .function && X.env.kindOf x == some .cell) = true then NameKind.cell else k := by
  show (relabel scope X.env).names.lookup x = _
  have : (relabel scope X.env).names = scope.names.map fun p => (p.1, if (p.2 == NameKind.free && X.env.scope.kind == .function && X.env.kindOf p.1 == some .cell) = true then NameKind.cell else p.2) := by
    unfold relabel
    refine List.map_congr_left fun p _ => ?_
    obtain ⟨n, k⟩ := p
    dsimp only
    split <;> rfl
  rw [this]
  exact lookup_map_free (f := fun n k => if (k == NameKind.free && X.env.scope.kind == .function && X.env.kindOf n == some .cell) = true then NameKind.cell else k)
theorem blk_kinds (B : BlkS X.N X.env.scope scope own hid) (x : Str) : (scope.names.lookup x = none ∧ (XBk X scope t3 K3 fp).env.scope.names.lookup x = none) ∨ (scope.names.lookup x = some .local ∧ (XBk X scope t3 K3 fp).env.scope.names.lookup x = some .local) ∨
    (scope.names.lookup x = some .free ∧ ((XBk X scope t3 K3 fp).env.scope.names.lookup x = some .cell ∨ (XBk X scope t3 K3 fp).env.scope.names.lookup x = some .free)) ∨
    ((XBk X scope t3 K3 fp).env.scope.names.lookup x ≠ some .local ∧ (XBk X scope t3 K3 fp).env.scope.names.lookup x ≠ some .cell ∧ (XBk X scope t3 K3 fp).env.scope.names.lookup x ≠ some .free) := by
  rw [blk_kind x]
  cases e : scope.names.lookup x with
  | none => exact .inl ⟨rfl, rfl⟩
  | some k =>
    cases k with
    | «local» => exact .inr (.inl ⟨rfl, rfl⟩)
    | cell => exact absurd rfl (B.nocell _ (PySem.mem_of_lookup e))
    | free =>
      refine .inr (.inr (.inl ⟨rfl, ?_⟩))
      simp only [Option.map_some]
      split
      · exact .inl rfl
      · exact .inr rfl
    | _ => exact .inr (.inr (.inr ⟨by simp, by simp, by simp⟩))
theorem blk_cells_of (B : BlkS X.N X.env.scope scope own hid) (I : Inv X pins σ K3 t3) {x : Str} {c : Addr} (e : (XBk X scope t3 K3 fp).env.cells.lookup x = some c) : X.env.cells.lookup x = some c ∧ scope.names.lookup x = some .free := by
  have hf : ∀ y ∈ scope.names, y.2 = .free → ∃ c, X.env.cells.lookup y.1 = some c := fun y hy z => (B.ok.free y hy z).elim (fun k => I.ok.has _ (.inl k)) fun k => I.ok.has _ (.inr k)
  have e : (cellsFrom (t3.heap.objs.size + 1) scope.names (cloFrom X.env.cells scope.names [])).lookup x = some c := e
  have hs : (t3.heap.push { cls := .type "dict", data := .dict #[] }).objs.size = t3.heap.objs.size + 1 := Heap.size_push ..
  rw [← hs] at e
  rcases cells_mem (PySem.mem_of_lookup e) with hm | ⟨h1, _, _⟩
  · rcases cloFrom_mem hm with z | ⟨z, z2⟩
    · cases z
    · obtain ⟨c', hc'⟩ := hf _ z rfl
      have hc' : X.env.cells.lookup x = some c' := hc'
      rw [hc'] at z2
      have z2 : c = c' := z2
      rw [z2]
      exact ⟨hc', B.ok.uniq _ z⟩
  · exact absurd rfl (B.nocell _ h1)
theorem blk_cells_to (B : BlkS X.N X.env.scope scope own hid) (I : Inv X pins σ K3 t3) {x : Str} {c : Addr} (hx : scope.names.lookup x = some .free) (e : X.env.cells.lookup x = some c) : (XBk X scope t3 K3 fp).env.cells.lookup x = some c := by
  have hm : (x, NameKind.free) ∈ scope.names := PySem.mem_of_lookup hx
  obtain ⟨c', e'⟩ := mem_lookup (cells_acc (names := scope.names) (n := t3.heap.objs.size + 1) (cloFrom_has (cells := X.env.cells) (acc := []) hm))
  have q : (XBk X scope t3 K3 fp).env.cells.lookup x = some c' := e'
  have := (blk_cells_of B I q).1
  rw [e] at this
  cases this
  exact q
theorem blk_ctx {S : Stat} (O : CtxOk S X) (B : BlkS X.N X.env.scope scope own hid) (I : Inv X pins σ K3 t3) : CtxOk S (XBk X scope t3 K3 fp) := by
  refine ⟨O.k, fun b ⟨x, hx⟩ => O.nb b ⟨x, (blk_cells_of B I hx).1⟩, fun b ⟨x, hx⟩ => O.nf b ⟨x, (blk_cells_of B I hx).1⟩, O.nd, fun x c e => ?_⟩
  obtain ⟨h1, h2⟩ := blk_cells_of B I e
  obtain ⟨i, hi, _⟩ := O.cn x c h1
  refine ⟨i, hi, ?_⟩
  rcases blk_kinds (t3 := t3) (K3 := K3) (fp := fp) B x with ⟨z, _⟩ | ⟨z, _⟩ | ⟨_, z⟩ | ⟨z1, z2, z3⟩
  · rw [h2] at z; cases z
  · rw [h2] at z; cases z
  · exact z
  · rw [blk_kind, h2] at z2 z3
    simp only [Option.map_some] at z2 z3
    split at z2
    · exact absurd rfl z2
    · rename_i q
      rw [if_neg q] at z3
      exact absurd rfl z3
end
end MP
namespace MP
open PySem PySem.Spec L2
open PyProof.Rows hiding St

theorem wipe_len (σ : SL) : ∀ l : List Nat, (MP.wipe σ l).length = σ.length
  | [] => rfl
  | v :: l => by
    show ((MP.wipe σ l).set v none).length = _
    rw [List.length_set, wipe_len σ l]
theorem wipe_in {σ : SL} {i : Nat} : ∀ {l : List Nat}, i ∈ l → ∀ v, (MP.wipe σ l)[i]? ≠ some (some v)
  | v :: l, h, w, e => by
    have e : ((MP.wipe σ l).set v none)[i]? = some (some w) := e
    by_cases q : v = i
    · subst q
      by_cases lt : v < (MP.wipe σ l).length
      · rw [List.getElem?_set_self lt] at e
        cases e
      · rw [List.getElem?_eq_none (by simpa using lt)] at e
        cases e
    · rw [List.getElem?_set_ne q] at e
      exact wipe_in ((List.mem_cons.mp h).resolve_left (Ne.symm q)) w e
theorem wipe_nin {σ : SL} {i : Nat} : ∀ {l : List Nat}, i ∉ l → (MP.wipe σ l)[i]? = σ[i]?
  | [], _ => rfl
  | v :: l, h => by
    show ((MP.wipe σ l).set v none)[i]? = _
    rw [List.getElem?_set_ne (fun e => h (by rw [e]; exact List.mem_cons_self))]
    exact wipe_nin fun e => h (List.mem_cons_of_mem _ e)
theorem cLook_hide {ids : List Nat} {n : Nat} : ∀ {l : List (Nat × Option LV)} {o : Option LV}, cLook n (l.filter fun p => !ids.contains p.1) = some o → cLook n l = some o ∧ n ∉ ids
  | [], o, h => by cases h
  | (k, w) :: r, o, h => by
    rw [List.filter_cons] at h
    by_cases hk : (!ids.contains k) = true
    · rw [if_pos hk, cLook_cons] at h
      rw [cLook_cons]
      by_cases e : n = k
      · rw [if_pos e] at h ⊢
        refine ⟨h, fun z => ?_⟩
        rw [e] at z
        simp [z] at hk
      · rw [if_neg e] at h ⊢
        exact cLook_hide h
    · rw [if_neg hk] at h
      obtain ⟨h1, h2⟩ := cLook_hide h
      rw [cLook_cons]
      have : n ≠ k := fun e => h2 (by rw [e]; simpa using hk)
      rw [if_neg this]
      exact ⟨h1, h2⟩
theorem cLook_keep {ids : List Nat} {n : Nat} (hn : n ∉ ids) : ∀ {l : List (Nat × Option LV)}, cLook n (l.filter fun p => !ids.contains p.1) = cLook n l
  | [] => rfl
  | (k, w) :: r => by
    rw [List.filter_cons]
    by_cases hk : (!ids.contains k) = true
    · rw [if_pos hk, cLook_cons, cLook_cons, cLook_keep hn]
    · rw [if_neg hk, cLook_cons, cLook_keep hn]
      have : n ≠ k := fun e => hn (by rw [e]; simpa using hk)
      rw [if_neg this]
section
variable {S : Stat} {X : Cx} {W : WX} {m mc m' mc' : Mp} {G G' : GH} {H H1 : Hp} {scope : Scope} {own : List (Str × Nat)} {hid ids : List Nat} {t3 : Shared} {K3 : Hp} {fp : List Addr} {σ : St} {σL : SL} {pins : List (Addr × Obj)}
theorem BlkS.own_ix (B : BlkS X.N X.env.scope scope own hid) (nd : X.N.Nodup) {i : Nat} {x : Str} (hi : X.N[i]? = some x) (hx : scope.names.lookup x = some .local) : i ∈ own.map (·.2) := by
  rcases B.ok.own _ (PySem.mem_of_lookup hx) (.inl rfl) with h | h
  · obtain ⟨p, hp, e⟩ := List.mem_map.mp h
    have e : p.1 = x := e
    have q := B.ok.ix p hp
    rw [e] at q
    exact List.mem_map.mpr ⟨p, hp, nodup_ix nd q hi⟩
  · exact absurd (List.mem_of_getElem? hi) h
theorem BlkS.own_not (B : BlkS X.N X.env.scope scope own hid) {i : Nat} {x : Str} (hi : X.N[i]? = some x) (hx : scope.names.lookup x = some .free) : i ∉ own.map (·.2) := fun h => by
  obtain ⟨p, hp, e⟩ := List.mem_map.mp h
  have q := B.ok.ix p hp
  have e : p.2 = i := e
  rw [e, hi] at q
  cases q
  have := B.loc p hp
  rw [hx] at this
  cases this
/-- the slots ahead of a turn -/
theorem blk_slots (B : BlkS X.N X.env.scope scope own hid) (O : CtxOk S X) (I : Inv X pins σ K3 t3) (hh : cellsOf σL hid = some ids) (p : Pre S X m mc G H σL σ) {mc' : Mp} {G' : GH} (em : Ext m m') (ec : Ext mc mc') (kt : KeepT H H1) (hcs : G'.cs = G.cs.filter fun p => !ids.contains p.1) :
    StR S (XBk X scope t3 K3 fp) m' mc' G' H1 (MP.wipe (MP.wipe σL (own.map (·.2))) hid) (L2.wipe σ (own.map (·.2))) := by
  refine ⟨by rw [wipe_len, wipe_len]; exact p.q.1, fun i x hi => ?_⟩
  have hi : X.N[i]? = some x := hi
  rcases blk_kinds (t3 := t3) (K3 := K3) (fp := fp) B x with ⟨_, z⟩ | ⟨z0, z⟩ | ⟨z0, z⟩ | ⟨z1, z2, z3⟩
  · exact SR.other (by rw [z]; decide) (by rw [z]; decide) (by rw [z]; decide)
  · refine (SR.loc z).mpr fun v e => absurd e ?_
    by_cases q : i ∈ hid
    · exact wipe_in q v
    · rw [wipe_nin q]
      exact wipe_in (B.own_ix O.nd hi z0) v
  · refine (SR.cel z).mpr ?_
    have q : i ∉ hid := fun q => by
      have := B.off i q x hi
      rw [z0] at this
      cases this
    have qo := B.own_not hi z0
    have kx := B.ok.free _ (PySem.mem_of_lookup z0) rfl
    obtain ⟨n, h1, ⟨c, h2, h3⟩, ov, h4, h5⟩ := (SR.cel kx).mp (p.q.2 i x hi)
    refine ⟨n, by rw [wipe_nin q, wipe_nin qo]; exact h1, ⟨c, ec _ _ h2, blk_cells_to B I z0 h3⟩, ov, ?_, fun v hv => ?_⟩
    · rw [hcs, cLook_keep fun hn => ?_]
      · exact h4
      · obtain ⟨k1, k2⟩ := cellsOf_at hh
        obtain ⟨j, hj⟩ := List.mem_iff_getElem?.mp hn
        have lj : j < hid.length := by rw [← k1]; exact (List.getElem?_eq_some_iff.mp hj).1
        obtain ⟨n', e1, e2⟩ := k2 j hid[j] (List.getElem?_eq_getElem lj)
        rw [hj] at e1
        cases e1
        -- the hidden slot's name has the same cell
        have : σL[hid[j]]? = some (some (.loc n)) := slot_get.mp e2
        obtain ⟨x0, hx0, kx0⟩ := B.hk _ (List.getElem_mem lj)
        obtain ⟨n2, z1, ⟨c2, z2, z3⟩, _⟩ := (SR.cel kx0).mp (p.q.2 _ x0 hx0)
        rw [this] at z1
        cases z1
        rw [h2] at z2
        cases z2
        have ex := I.ok.inj x0 x _ z3 h3
        have := B.off _ (List.getElem_mem lj) x0 hx0
        rw [ex, z0] at this
        cases this
    · obtain ⟨u, e1, e2⟩ := h5 v hv
      refine ⟨u, ?_, RV.mono em kt e2⟩
      rw [wipe_out qo]
      exact e1
  · exact SR.other z1 z2 z3
/-- what is in reach within the block -/
theorem blk_rel (B : BlkS X.N X.env.scope scope own hid) (O : CtxOk S X) (I : Inv X pins σ K3 t3) (hh : cellsOf σL hid = some ids) (p : Pre S X m mc G H σL σ) : Rel S (vis (XBk X scope t3 K3 fp)) m mc (hide ids G) H := by
  refine ⟨⟨p.r.o.obj, p.r.o.inj, p.r.o.dom, p.r.o.siz, p.r.o.tab, p.r.o.cdom, p.r.o.frz, p.r.o.frm⟩, ⟨fun n ov e => ?_, fun n n' ov ov' a e1 e2 h1 h2 => p.r.c.cinj n n' ov ov' a (cLook_hide e1).1 (cLook_hide e2).1 h1 h2⟩⟩
  obtain ⟨e1, e2⟩ := cLook_hide e
  obtain ⟨a, h1, h2, h3⟩ := p.r.c.cell n ov e1
  refine ⟨a, h1, trivial, fun nv => h3 fun ⟨x, hx⟩ => nv ?_⟩
  obtain ⟨i, hi, kx⟩ := O.cn x a hx
  obtain ⟨n', z1, ⟨c, z2, z3⟩, ov', z4, _⟩ := (SR.cel kx).mp (p.q.2 i x hi)
  rw [hx] at z3
  cases z3
  have en := p.r.c.cinj _ _ _ _ _ z4 e1 z2 h1
  subst en
  rcases B.cov i x hi kx with q | q
  · exact ⟨x, blk_cells_to B I q hx⟩
  · exfalso
    obtain ⟨k1, k2⟩ := cellsOf_at hh
    obtain ⟨j, hj⟩ := List.mem_iff_getElem?.mp q
    obtain ⟨n2, w1, w2⟩ := k2 j i hj
    rw [slot_get.mp w2] at z1
    cases z1
    exact e2 (List.mem_of_getElem? w1)
end
end MP
namespace MP
open PySem PySem.Spec L2
open PyProof.Rows hiding St

/-- what is wanted of a block's result -/
def PB (S : Stat) (m mc : Mp) (H : Hp) (r : Res LV) (k : LV → Mp → Mp → GH → Hp → Prop) : Prop := match r with
  | .ok v g => ∀ m' mc' H', Ext m m' → Ext mc mc' → Keep H H' → RelO S m' mc' g H' → k v m' mc' g H'
  | _ => False
abbrev WF : WX := fun _ _ _ _ => False
section
variable {S : Stat} {X : Cx} {W : WX} {m mc m' mc' : Mp} {G G' : GH} {H H1 : Hp} {σ : St} {σL : SL}
theorem PB.up {r : Res LV} {k : LV → Mp → Mp → GH → Hp → Prop} {m1 mc1 : Mp} (e1 : Ext m m1) (e2 : Ext mc mc1) (kp : Keep H H1) (h : PB S m mc H r k) : PB S m1 mc1 H1 r k := by
  cases r with
  | ok v g => exact fun m' mc' H' z1 z2 z3 r => h m' mc' H' (e1.trans z1) (e2.trans z2) (kp.trans z3) r
  | exn n G' => exact h
  | stuck => exact h
theorem PB.bind {α : Type} {r : Res α} {f : α → GH → Res LV} {k : LV → Mp → Mp → GH → Hp → Prop} (h : PB S m mc H (r.bind f) k) :
    Post S X WF m mc H σL σ r fun a m' mc' G' H' => Pre S X m' mc' G' H' σL σ ∧ Ext m m' ∧ Ext mc mc' ∧ Keep H H' ∧ PB S m' mc' H' (f a G') k := by
  cases r with
  | ok a G' => exact fun m' mc' H' e1 e2 kp r q => ⟨⟨r, q⟩, e1, e2, kp, PB.up e1 e2 kp h⟩
  | exn n G' => exact h.elim
  | stuck => exact h.elim
theorem PB.bindS {α : Type} {r : Res α} {f : α → GH → Res LV} {sl : α → SL} {k : LV → Mp → Mp → GH → Hp → Prop} (h : PB S m mc H (r.bind f) k) :
    PostS S X WF m mc H r sl fun a m' mc' G' H' σ' => Pre S X m' mc' G' H' (sl a) σ' ∧ Ext m m' ∧ Ext mc mc' ∧ Keep H H' ∧ PB S m' mc' H' (f a G') k := by
  cases r with
  | ok a G' => exact fun m' mc' H' σ' e1 e2 kp r q => ⟨⟨r, q⟩, e1, e2, kp, PB.up e1 e2 kp h⟩
  | exn n G' => exact h.elim
  | stuck => exact h.elim
theorem RelC.later {v : Addr → Prop} (R : RelC S v m mc G H) (em : Ext m m') (ec : Ext mc mc') (kp : Keep H H1) {g : GH} (hcs : g.cs = G.cs) : RelC S v m' mc' g H1 := by
  refine ⟨fun n ov e => ?_, fun n n' ov ov' a e1 e2 h1 h2 => ?_⟩
  · rw [hcs] at e
    obtain ⟨a, z1, _, z3⟩ := R.cell n ov e
    exact ⟨a, ec _ _ z1, trivial, fun hv => (z3 hv).mono em kp⟩
  · rw [hcs] at e1 e2
    obtain ⟨b1, z1, _⟩ := R.cell n ov e1
    obtain ⟨b2, z2, _⟩ := R.cell n' ov' e2
    have q1 := ec _ _ z1
    have q2 := ec _ _ z2
    rw [h1] at q1
    rw [h2] at q2
    cases q1
    cases q2
    exact R.cinj n n' ov ov' _ e1 e2 z1 z2
theorem PB.of {r : Res LV} {k : LV → Mp → Mp → GH → Hp → Prop} (p : Pre S X m mc G H σL σ) (h : Post S X W m mc H σL σ (back G.cs r) k) : PB S m mc H r fun v m' mc' g H' => k v m' mc' ⟨g.size, g.t, g.cn, G.cs⟩ H' := by
  cases r with
  | ok v g =>
    exact fun m' mc' H' e1 e2 kp r => h m' mc' H' e1 e2 kp ⟨⟨r.obj, r.inj, r.dom, r.siz, r.tab, r.cdom, r.frz, r.frm⟩, RelC.later p.r.c e1 e2 kp rfl⟩ (p.q.mono e1 e2 kp.t rfl)
  | exn n G' => exact h.elim
  | stuck => exact h.elim
/-- forgetting a block's own slots -/
theorem StR.wipeB {scope : Scope} {own : List (Str × Nat)} {hid : List Nat} {t3 : Shared} {K3 : Hp} {fp : List Addr} (B : BlkS X.N X.env.scope scope own hid) (Q : StR S (XBk X scope t3 K3 fp) m mc G H σL σ) : StR S (XBk X scope t3 K3 fp) m mc G H (MP.wipe σL (own.map (·.2))) σ := by
  refine ⟨by rw [wipe_len]; exact Q.1, fun i x hi => ?_⟩
  have q := Q.2 i x hi
  have hi : X.N[i]? = some x := hi
  rcases blk_kinds (t3 := t3) (K3 := K3) (fp := fp) B x with ⟨_, z⟩ | ⟨z0, z⟩ | ⟨z0, z⟩ | ⟨z1, z2, z3⟩
  · exact SR.other (by rw [z]; decide) (by rw [z]; decide) (by rw [z]; decide)
  · refine (SR.loc z).mpr fun v e => ?_
    by_cases w : i ∈ own.map (·.2)
    · exact absurd e (wipe_in w v)
    · rw [wipe_nin w] at e
      exact (SR.loc z).mp q v e
  · refine (SR.cel z).mpr ?_
    obtain ⟨n, h1, h2⟩ := (SR.cel z).mp q
    exact ⟨n, by rw [wipe_nin (B.own_not hi z0)]; exact h1, h2⟩
  · exact SR.other z1 z2 z3
end
section
variable {S : Stat} {X : Cx} {W : WX} {d : Nat} {m mc : Mp} {G : GH} {H1 : Hp} {scope : Scope} {own : List (Str × Nat)} {hid ids : List Nat} {t3 : Shared} {fp : List Addr} {σ : St} {σL : SL} {pins : List (Addr × Obj)} {D : Addr}
variable {C : CallT} {tg : CallT → LV → SL → GH → Res SL} {c : CallT → SL → GH → Res Bool} {e : CallT → SL → GH → Res LV} {te elt : Expr} {ifs : List Expr} {J : It} {itr : Itr} {n : Nat} {k : LV → Mp → Mp → GH → Hp → Prop} {Q : VK}
theorem lc_turns (O : CtxOk S X) (B : BlkS X.N X.env.scope scope own hid) (I3 : Inv X pins σ (upd H1 D (.lst [])) t3) (hD : H1 D = none) (p : Pre S X m mc G H1 σL σ) (hh : cellsOf σL hid = some ids) (sim : ItSim S J 0 itr m H1)
    (h : Post S X W m mc H1 σL σ ((alloc (.lst []) (hide ids G)).bind fun _ g' => back G.cs (lcL C tg c e (own.map (·.2)) G.size n itr (MP.wipe (MP.wipe σL (own.map (·.2))) hid) g')) k)
    (hQ : ∀ v m' mc' g H', v = .loc G.size → m' G.size = some D → k v m' mc' g H' → Q (.ref D) H')
    (hg : PG (XBk X scope t3 (upd H1 D (.lst [])) fp) te (tG S (XBk X scope t3 (upd H1 D (.lst [])) fp) WF (tg C))) (ht : PTs (XBk X scope t3 (upd H1 D (.lst [])) fp) ifs (tB S (XBk X scope t3 (upd H1 D (.lst [])) fp) WF (c C))) (hel : PE (XBk X scope t3 (upd H1 D (.lst [])) fp) elt (tE S (XBk X scope t3 (upd H1 D (.lst [])) fp) WF (e C))) :
    Turns (XBk X scope t3 (upd H1 D (.lst [])) fp) te ifs elt J D (L2.wipe σ (own.map (·.2))) (upd H1 D (.lst [])) Q := by
  have R0 := blk_rel (fp := fp) B O I3 hh p
  cases ea : alloc (.lst []) (hide ids G) with
  | exn n G' => exact (alloc_exn ea).elim
  | stuck => rw [ea] at h; exact h.elim
  | ok v0 G2 =>
    rw [ea] at h
    obtain ⟨R1, em, kp, _⟩ := Rel.new (H' := upd H1 D (.lst [])) R0 ea hD (fun a ha => upd_ne ha) ⟨[], upd_same, rfl⟩
    obtain ⟨_, _, _, _, hcs⟩ := alloc_ok ea
    have Q1 := blk_slots (fp := fp) B O I3 hh p em (Ext.refl mc) kp.t (G' := G2) (H1 := upd H1 D (.lst [])) hcs
    have b1 : PB S m mc H1 (lcL C tg c e (own.map (·.2)) G.size n itr (MP.wipe (MP.wipe σL (own.map (·.2))) hid) G2) fun v m' mc' g H' => k v m' mc' ⟨g.size, g.t, g.cn, G.cs⟩ H' := PB.of p h
    have mD : (m.ins G.size D) G.size = some D := Mp.ins_same
    refine ⟨_, _, _, fun i n σ' H' => ∃ m1 mc1 g1 σ1 it', Pre S (XBk X scope t3 (upd H1 D (.lst [])) fp) m1 mc1 g1 H' σ1 σ' ∧ ItSim S J i it' m1 H' ∧ m1 G.size = some D ∧ PB S m1 mc1 H' (lcL C tg c e (own.map (·.2)) G.size n it' σ1 g1) (fun v m' mc' g H' => k v m' mc' ⟨g.size, g.t, g.cn, G.cs⟩ H'), hg, ht, hel,
      ⟨n, m.ins G.size D, mc, G2, _, itr, ⟨R1, Q1⟩, sim.mono em kp.t, mD, PB.up em (Ext.refl mc) kp b1⟩, fun i n σ' H' ⟨m1, mc1, g1, σ1, it', p1, sim1, hm1, b⟩ => ?_⟩
    cases n with
    | zero => exact b.elim
    | succ n =>
      unfold lcL at b
      cases es : stepI g1 it' with
      | none => rw [es] at b; exact b.elim
      | some o =>
        rw [es] at b
        have st := ItSim.step p1.r sim1 es
        cases o with
        | none => exact .inl ⟨st, hQ _ m1 mc1 _ H' rfl hm1 (b m1 mc1 H' (Ext.refl m1) (Ext.refl mc1) (Keep.refl H') p1.r.o)⟩
        | some xi =>
          obtain ⟨x, it2⟩ := xi
          obtain ⟨go, st⟩ := st
          refine .inr ⟨go, fun σ' H' => ∃ m1 mc1 g1 σ1 it', Pre S (XBk X scope t3 (upd H1 D (.lst [])) fp) m1 mc1 g1 H' σ1 σ' ∧ ItSim S J (i + 1) it' m1 H' ∧ m1 G.size = some D ∧ PB S m1 mc1 H' (lcL C tg c e (own.map (·.2)) G.size n it' σ1 g1) (fun v m' mc' g H' => k v m' mc' ⟨g.size, g.t, g.cn, G.cs⟩ H'), fun σ' H' z => ⟨n, Nat.lt_succ_self n, z⟩, fun y Hy hy => ?_⟩
          obtain ⟨ly, ry, sim2⟩ := st y Hy hy
          obtain ⟨p1, kp0⟩ := Pre.lay (show (XBk X scope t3 (upd H1 D (.lst [])) fp).K = S.K from O.k) p1 ly
          have b := PB.up (Ext.refl m1) (Ext.refl mc1) kp0 b
          have b : PB S m1 mc1 Hy ((tg C x σ1 g1).bind fun σ' g => (c C σ' g).bind fun b g => match b with
            | false => lcL C tg c e (own.map (·.2)) G.size n it2 (MP.wipe σ' (own.map (·.2))) g
            | true => (e C σ' g).bind fun v g => match lstAt g G.size with
              | some acc => if lenOk (v :: acc) then (store G.size (.lst (acc ++ [v])) g).bind fun _ g => lcL C tg c e (own.map (·.2)) G.size n it2 (MP.wipe σ' (own.map (·.2))) g else .stuck
              | none => .stuck) (fun v m' mc' g H' => k v m' mc' ⟨g.size, g.t, g.cn, G.cs⟩ H') := b
          refine ⟨m1, mc1, g1, σ1, x, p1, ry, PostS.imp (PB.bindS (sl := id) b) fun σ2 m2 mc2 g2 H2 s2 _ _ _ _ p2 ⟨_, em2, _, kp2, b2⟩ => ?_⟩
          refine ⟨m2, mc2, g2, σ2, p2, Post.imp (PB.bind b2) fun t m3 mc3 g3 H3 _ _ _ _ p3 ⟨_, em3, _, kp3, b3⟩ => ?_⟩
          have sim3 := (sim2.mono em2 kp2.t).mono em3 kp3.t
          have hm3 : m3 G.size = some D := em3 _ _ (em2 _ _ hm1)
          cases t with
          | false =>
            simp only [Bool.false_eq_true, if_false]
            exact ⟨m3, mc3, g3, _, it2, ⟨p3.r, StR.wipeB B p3.q⟩, sim3, hm3, b3⟩
          | true =>
            simp only [if_true]
            refine ⟨m3, mc3, g3, σ2, p3, Post.imp (PB.bind b3) fun v m4 mc4 g4 H4 _ _ _ _ p4 ⟨_, em4, _, kp4, b4⟩ z rz => ?_⟩
            cases el : lstAt g4 G.size with
            | none => rw [el] at b4; exact b4.elim
            | some acc =>
              rw [el] at b4
              have eg : g4.t.get G.size = some (.lst acc) := by
                unfold lstAt at el
                split at el
                · rename_i q
                  cases el
                  exact q
                · cases el
              obtain ⟨a, vs, ez, hm4, hH4, rs⟩ := p4.r.lst eg ⟨D, rfl, em4 _ _ hm3⟩
              cases ez
              have b4 : PB S m4 mc4 H4 (if lenOk (v :: acc) = true then (store G.size (.lst (acc ++ [v])) g4).bind fun _ g => lcL C tg c e (own.map (·.2)) G.size n it2 (MP.wipe σ2 (own.map (·.2))) g else .stuck) (fun v m' mc' g H' => k v m' mc' ⟨g.size, g.t, g.cn, G.cs⟩ H') := b4
              by_cases hl : lenOk (v :: acc) = true
              · rw [if_pos hl] at b4
                have hz := lenOk_iff.mp hl
                rw [List.length_cons] at hz
                have nv : ¬ vis (XBk X scope t3 (upd H1 D (.lst [])) fp) D := fun ⟨x, hx⟩ => by
                  have := I3.freeC x D (blk_cells_of B I3 hx).1
                  rw [upd_same] at this
                  cases this
                refine ⟨vs, hH4, by rw [← rs.length]; omega, ?_⟩
                obtain ⟨g5, p5, kp5, _, _, _, _, b5⟩ := Post.wr (o := .lst (vs ++ [z])) p4 (PB.bind b4) hm4 nv (by rw [hH4]; trivial) fun kt => ⟨_, upd_same, RVs.mono (Ext.refl m4) kt (RVs.append rs ⟨z, [], rfl, rz, rfl⟩)⟩
                exact ⟨m4, mc4, g5, _, it2, ⟨p5.r, StR.wipeB B p5.q⟩, (sim3.mono em4 kp4.t).mono (Ext.refl m4) kp5.t, hm4, b5⟩
              · rw [if_neg hl] at b4
                exact b4.elim
end
end MP
namespace MP
open PySem PySem.Spec L2
open PyProof.Rows hiding St

section
variable {S : Stat} {X : Cx} {W : WX} {d : Nat} {scope : Scope} {own : List (Str × Nat)} {hid : List Nat}
variable {C : CallT} {tg : CallT → LV → SL → GH → Res SL} {c : CallT → SL → GH → Res Bool} {e : CallT → SL → GH → Res LV} {te elt iter : Expr} {ifs : List Expr} {n : Nat} {fi : SL → GH → Res Itr} {pos spos py : Pos}
theorem blk_Ctx {t3 : Shared} {K3 : Hp} {fp : List Addr} {σ : St} {pins : List (Addr × Obj)} (T : Ctx S X W d C) (B : BlkS X.N X.env.scope scope own hid) (I : Inv X pins σ K3 t3) : Ctx S (XBk X scope t3 K3 fp) WF d C :=
  ⟨blk_ctx T.ok B I, T.calm, LamX.takes0, fun _ _ z => z.elim, T.room, T.gd, T.glo, T.tab, T.sndA⟩
/-- the rules of a block -/
def BRules (S : Stat) (X : Cx) (W : WX) (d : Nat) (C : CallT) (scope : Scope) (te elt : Expr) (ifs : List Expr) (tg : LV → SL → GH → Res SL) (c : SL → GH → Res Bool) (e : SL → GH → Res LV) : Prop :=
  ∀ (t3 : Shared) (K3 : Hp) (fp : List Addr), Ctx S (XBk X scope t3 K3 fp) WF d C → PG (XBk X scope t3 K3 fp) te (tG S (XBk X scope t3 K3 fp) WF tg) ∧ PTs (XBk X scope t3 K3 fp) ifs (tB S (XBk X scope t3 K3 fp) WF c) ∧ PE (XBk X scope t3 K3 fp) elt (tE S (XBk X scope t3 K3 fp) WF e)
def lcD (C : CallT) (tg : CallT → LV → SL → GH → Res SL) (c : CallT → SL → GH → Res Bool) (e : CallT → SL → GH → Res LV) (own hid : List Nat) (n : Nat) (itr : Itr) (σ : SL) (g : GH) : Res LV := match cellsOf σ hid with
  | some ids => (alloc (.lst []) (hide ids g)).bind fun _ g' => back g.cs (lcL C tg c e own g.size n itr (MP.wipe (MP.wipe σ own) hid) g')
  | none => .stuck
theorem lc_blk (T : Ctx S X W d C) (B : BlkS X.N X.env.scope scope own hid) (hr : BRules S X W d C scope te elt ifs (tg C) (c C) (e C)) {m mc : Mp} {G : GH} {σL : SL} {σ : St} {H1 : Hp} {pins : List (Addr × Obj)} {D : Addr} {t3 : Shared} {fp : List Addr} {J : It} {itr : Itr} {Q : VK} {k : LV → Mp → Mp → GH → Hp → Prop}
    (p : Pre S X m mc G H1 σL σ) (q : Post S X W m mc H1 σL σ (lcD C tg c e (own.map (·.2)) hid n itr σL G) k) (hQ : ∀ v m' mc' g H', v = .loc G.size → m' G.size = some D → k v m' mc' g H' → Q (.ref D) H') (sim : ItSim S J 0 itr m H1) (hD : H1 D = none) (I3 : Inv X pins σ (upd H1 D (.lst [])) t3) :
    Turns (XBk X scope t3 (upd H1 D (.lst [])) fp) te ifs elt J D (L2.wipe σ (own.map (·.2))) (upd H1 D (.lst [])) Q := by
  unfold lcD at q
  cases hh : cellsOf σL hid with
  | none => rw [hh] at q; exact q.elim
  | some ids =>
    rw [hh] at q
    obtain ⟨h1, h2, h3⟩ := hr t3 (upd H1 D (.lst [])) fp (blk_Ctx T B I3)
    exact lc_turns T.ok B I3 hD p hh sim q hQ h1 h2 h3
theorem e_lc (T : Ctx S X W d C) (B : BlkS X.N X.env.scope scope own hid) (hi : PI X te iter (tI S X W fi)) (hs : ∀ x, foldedSetIterable iter X.env x = pure x) (hr : BRules S X W d C scope te elt ifs (tg C) (c C) (e C)) :
    PE X (.ListComp elt [⟨te, iter, ifs, 0⟩] scope pos) (tE S X W fun σ g => (fi σ g).bind fun itr g => lcD C tg c e (own.map (·.2)) hid n itr σ g) := by
  refine pe_own T.calm T.ok.nd hi B.ok hs fun pins s σ H Q I ⟨m, mc, G, σL, p, h⟩ => ⟨m, mc, G, σL, p, Post.imp h.bind fun itr m1 mc1 G1 H1 _ _ _ _ p1 ⟨_, _, _, _, q⟩ J sim D t3 fp hD I3 => ?_⟩
  exact lc_blk T B hr p1 q (fun v m' mc' g H' ev hm k => k _ (by rw [ev]; exact ⟨D, rfl, hm⟩)) sim hD I3
theorem s_setLc {i : Nat} {y : Str} (T : Ctx S X W d C) (B : BlkS X.N X.env.scope scope own hid) (hy : X.N[i]? = some y) (hyl : X.env.scope.names.lookup y = some .local) (hsw : swapsWith (.ListComp elt [⟨te, iter, ifs, 0⟩] scope pos) (some (.Name y py)) spos.line X.env = pure true)
    (hi : PI X te iter (tI S X W fi)) (hs : ∀ x, foldedSetIterable iter X.env x = pure x) (hr : BRules S X W d C scope te elt ifs (tg C) (c C) (e C)) :
    PS X (.Assign [.Name y py] (.ListComp elt [⟨te, iter, ifs, 0⟩] scope pos) spos) (tX S X W fun σ g => ((fi σ g).bind fun itr g => lcD C tg c e (own.map (·.2)) hid n itr σ g).bind fun v g => .ok (.nx, σ.set i (some v)) g) := by
  refine ps_own T.calm T.ok.nd hy hyl hsw hi B.ok hs fun pins s σ H D I ⟨m, mc, G, σL, p, h⟩ => ?_
  dsimp only at h
  rw [Res.assoc] at h
  refine ⟨m, mc, G, σL, p, Post.imp (PostS.bindE h) fun itr m1 mc1 G1 H1 _ _ _ _ p1 ⟨_, _, _, _, q⟩ J sim a t3 fp hD I3 => ?_⟩
  refine lc_blk T B hr p1 (PostS.bindE (σL := σL) (σ := σ) q) (fun v m' mc' g H' ev hm ⟨p', _, _, _, k⟩ => ?_) sim hD I3
  have k : PostS S X W m' mc' H' (.ok (Fl.nx, σL.set i (some v)) g) (·.2) (ends S D) := k
  have z : ends S D (Fl.nx, σL.set i (some v)) m' mc' g H' (σ.set i (some (.ref a))) := PostS.ok (W := W) (a := (Fl.nx, σL.set i (some v))) ⟨p'.r, StR.setL p'.q T.ok.nd hy hyl I.len (by rw [ev]; exact ⟨a, rfl, hm⟩)⟩ k
  exact z
end
end MP
namespace MP
open PySem PySem.Spec L2
open PyProof.Rows hiding St

section
variable {S : Stat} {X : Cx} {W : WX} {m mc : Mp} {G : GH} {H : Hp} {σ : St} {σL : SL}
variable {e : Expr} {es : List Expr} {g : LV → SL → GH → Res SL} {f : LV → SL → GH → Res SL} {fb : SL → GH → Res Bool} {pos : Pos}
theorem ts_nil : PTs X [] (tB S X W fun _ g => .ok true g) := ⟨fun pins s σ H Q I ⟨m, mc, G, σL, p, h⟩ => pts_nil.run pins s σ H Q I (Post.ok p h)⟩
theorem ts_one (h : PT X e (tB S X W fb)) : PTs X [e] (tB S X W fb) := pts_one h
/-! tuple targets -/
def tGs (S : Stat) (X : Cx) (W : WX) (f : LV → SL → GH → Res SL) : TGs := fun vs σ H Q => ∃ m mc G σL lvs, Pre S X m mc G H σL σ ∧ RVs S m H lvs vs ∧ PostS S X W m mc H (f (.tup lvs) σL G) id fun _ _ _ _ H' σ' => Q σ' H'
def tGT (S : Stat) (X : Cx) (W : WX) (f : LV → SL → GH → Res SL) : TG := fun v σ H Q => ∃ m mc G σL lvs a vs, Pre S X m mc G H σL σ ∧ v = .ref a ∧ SqT S.K H a vs ∧ RVs S m H lvs vs ∧ PostS S X W m mc H (f (.tup lvs) σL G) id fun _ _ _ _ H' σ' => Q σ' H'
theorem gs_nil : PGs X [] (tGs S X W fun v σ g => match v with | .tup [] => .ok σ g | _ => .stuck) := by
  refine ⟨fun pins s σ H vs us Q I r ⟨m, mc, G, σL, lvs, p, rs, h⟩ => ?_⟩
  cases lvs with
  | nil =>
    cases (show vs = [] from rs)
    exact pgs_nil.run pins s σ H [] us Q I r ⟨rfl, PostS.ok (sl := id) (a := σL) p h⟩
  | cons _ _ => exact h.elim
theorem gs_cons (h1 : PG X e (tG S X W g)) (h2 : PGs X es (tGs S X W f)) (hs : (assignEach (e :: es) X.env).map (·.2) = assign e X.env :: (assignEach es X.env).map (·.2)) :
    PGs X (e :: es) (tGs S X W fun v σ gg => match v with | .tup (x :: xs) => (g x σ gg).bind fun σ gg => f (.tup xs) σ gg | _ => .stuck) := by
  refine ⟨fun pins s σ H vs us Q I r ⟨m, mc, G, σL, lvs, p, rs, h⟩ => ?_⟩
  cases lvs with
  | nil => exact h.elim
  | cons x xs =>
    obtain ⟨v, vr, rfl, r1, r2⟩ := rs
    have h : PostS S X W m mc H ((g x σL G).bind fun σ gg => f (.tup xs) σ gg) id (fun _ _ _ _ H' σ' => Q σ' H') := h
    refine (pgs_cons h1 h2 hs).run pins s σ H (v :: vr) us Q I r ⟨v, vr, rfl, m, mc, G, σL, x, p, r1, PostS.imp (PostS.bindS (sl := id) h) fun σ2 m2 mc2 G2 H2 s2 _ _ _ _ p2 ⟨_, em, _, kp, q⟩ => ?_⟩
    exact ⟨m2, mc2, G2, σ2, xs, p2, RVs.mono em kp.t r2, q⟩
theorem g_tupT {k : Nat} (K : X.K = S.K) (calm : X.calm = true) (h : PGs X es (tGs S X W f)) (hl : ∀ lvs σ g, f (.tup lvs) σ g ≠ .stuck → lvs.length = es.length) (hn : (assignEach es X.env).length = es.length) (hst : (assignEach es X.env).findIdx? (·.1) = none) : PG X (.Tuple es k pos) (tGT S X W f) := by
  refine ⟨fun pins s σ H v u Q I r ⟨m, mc, G, σL, lvs, a, vs, p, ev, hs, rs, q⟩ => ?_⟩
  refine (pg_tup calm h hn hst).run pins s σ H v u Q I r ⟨a, vs, ev, by rw [K]; exact hs, ?_, m, mc, G, σL, lvs, p, rs, q⟩
  rw [← rs.length]
  exact hl lvs σL G fun z => by rw [z] at q; exact q.elim
theorem g_tup {ee : Expr} (h : PG X ee (tGT S X W f)) (hf : ∀ v σ g, (∀ lvs, v ≠ .tup lvs) → f v σ g = .stuck) : PG X ee (tG S X W f) := by
  refine ⟨fun pins s σ H v u Q I r ⟨m, mc, G, σL, lv, p, rv, q⟩ => ?_⟩
  cases lv with
  | tup xs =>
    obtain ⟨a, vs, ev, hs, rs⟩ := rv.tup
    exact h.run pins s σ H v u Q I r ⟨m, mc, G, σL, xs, a, vs, p, ev, hs, rs, q⟩
  | _ =>
    rw [hf _ _ _ (by intro lvs z; cases z)] at q
    exact q.elim
end
end MP
namespace MP
open PySem PySem.Spec L2
open PyProof.Rows hiding St

def notSlice : Expr → Bool
  | .Slice _ _ _ _ => false
  | _ => true
section
variable {S : Stat} {X : Cx} {W : WX} {m mc : Mp} {G : GH} {H : Hp} {σ : St} {σL : SL} {pins : List (Addr × Obj)} {s : Shared}
variable {a b : Expr} {fa fb : SL → GH → Res LV} {pos : Pos}
theorem PostS.wr {α : Type} {go : GO} {o : HO} {n : Nat} {q : Addr} {f : Unit → GH → Res α} {sl : α → SL} {k : α → Mp → Mp → GH → Hp → St → Prop} (p : Pre S X m mc G H σL σ) (h : PostS S X W m mc H ((store n go G).bind f) sl k) (hm : m n = some q) (hv : ¬ vis X q) (sf : Soft (H q)) (ro : KeepT H (upd H q o) → RO S m mc (upd H q o) q go) :
    ∃ G', Pre S X m mc G' (upd H q o) σL σ ∧ PostS S X W m mc (upd H q o) (f () G') sl k := by
  obtain ⟨G', p', kp, _, _, _, _, h'⟩ := Post.wr (o := o) p (PostS.bindE (σL := σL) (σ := σ) h) hm hv sf ro
  exact ⟨G', p', h'⟩
theorem set_ok (C : CtxE S X) (I : Inv X pins σ H s) (p : Pre S X m mc G H σL σ) {o i v : LV} {x y z : V} {xo xi xv : Value} {Q : St → Hp → Prop} (ro : RV S m H o x) (ri : RV S m H i y) (rv : RV S m H v z) (r1 : RelV x xo) (r2 : RelV y xi) (r3 : RelV z xv)
    (h : PostS S X W m mc H ((setI o i v G).bind fun _ g => .ok σL g) id fun _ _ _ _ H' σ' => Q σ' H') : wpAny (model X.prog X.w) X.A (setItem xo xi xv) (fun _ s' => ∃ H', Inv X pins σ H' s' ∧ Q σ H') X.xe s := by
  cases o with
  | loc n =>
    have h : PostS S X W m mc H ((match G.t.get n with
      | some (.lst xs) => setL n xs i v G
      | some (.dic kvs) => if isKey i && lenOk (i :: kvs.map (·.1)) then store n (.dic (dPut i v kvs)) G else .stuck
      | _ => .stuck : Res Unit).bind fun _ g => .ok σL g) id fun _ _ _ _ H' σ' => Q σ' H' := h
    cases e : G.t.get n with
    | none => rw [e] at h; exact h.elim
    | some ob =>
      rw [e] at h
      cases ob with
      | lst xs =>
        obtain ⟨q, vs, rfl, hm, h1, rs⟩ := p.r.lst e ro
        have hv : ¬ vis X q := fun z => by rw [vis_none I z] at h1; cases h1
        cases i with
        | int j =>
          have h : PostS S X W m mc H ((match MP.ixN xs.length j with | some j => store n (.lst (xs.set j v)) G | none => .stuck : Res Unit).bind fun _ g => .ok σL g) id fun _ _ _ _ H' σ' => Q σ' H' := h
          cases ej : MP.ixN xs.length j with
          | none => rw [ej] at h; exact h.elim
          | some jj =>
            rw [ej] at h
            cases ri.int_
            rw [ixN_eq, rs.length] at ej
            refine thn (set_list pins s σ H (.ref q) (.int j) z xo xi xv (fun H' => Q σ H') I r1 r2 r3 ⟨q, vs, j, jj, rfl, rfl, h1, ej, ?_⟩) fun _ s' w => w
            obtain ⟨G', p', h'⟩ := PostS.wr (o := .lst (vs.set jj z)) p h hm hv (by rw [h1]; trivial) fun kt => ⟨_, upd_same, RVs.mono (Ext.refl m) kt (RVs.set rv jj rs)⟩
            exact PostS.ok (sl := id) (a := σL) p' h'
        | _ => exact h.elim
      | dic kvs =>
        obtain ⟨q, rfl, hm⟩ := ro
        obtain ⟨q', hm', ks, h1, h2⟩ := p.r.o.obj n _ e
        rw [hm] at hm'
        cases hm'
        have hv : ¬ vis X q := fun z => by rw [vis_none I z] at h1; cases h1
        have h : PostS S X W m mc H ((if (isKey i && lenOk (i :: kvs.map (·.1))) = true then store n (.dic (dPut i v kvs)) G else .stuck : Res Unit).bind fun _ g => .ok σL g) id fun _ _ _ _ H' σ' => Q σ' H' := h
        by_cases hc : (isKey i && lenOk (i :: kvs.map (·.1))) = true
        · rw [if_pos hc] at h
          rw [Bool.and_eq_true] at hc
          obtain ⟨k', rfl, hkr⟩ := isKey_of hc.1 ri
          have hz := lenOk_iff.mp hc.2
          rw [List.length_cons, List.length_map, h2.length] at hz
          cases r1
          have hu : X.A.units + 1 < cLine := by have := C.room.un; omega
          refine d_setItem hu I (DPut.k h1 hz) r2 r3 fun s' I' => ⟨_, I', ?_⟩
          obtain ⟨G', p', h'⟩ := PostS.wr (o := .dK (putK ks k' z)) p h hm hv (by rw [h1]; trivial) fun kt => ⟨_, upd_same, RKs.mono (Ext.refl m) kt (RKs.put hkr rv h2)⟩
          exact PostS.ok (sl := id) (a := σL) p' h'
        · rw [if_neg hc] at h
          exact h.elim
      | _ => exact h.elim
  | _ => exact h.elim
theorem assign_sub {o i : Expr} {env : Env} {v : Value} (hi : notSlice i = true) : assign (.Subscript o i pos) env v = (do
      let ov ← holding [v] (eval o env)
      let iv ← holding [v, ov] (eval i env)
      standAt pos
      holding [v, ov, iv] (setItem ov iv v)
      release [v, ov, iv] []) := by
  cases i <;> first | rfl | cases hi
theorem g_sub (C : CtxE S X) (ha : PE X a (tE S X W fa)) (hb : PE X b (tE S X W fb)) (hn : notSlice b = true) : PG X (.Subscript a b pos) (tG S X W fun v σ g => (fa σ g).bind fun x g => (fb σ g).bind fun y g => (setI x y v g).bind fun _ g => .ok σ g) := by
  refine ⟨fun pins s σ H v u Q I r ⟨m, mc, G, σL, lv, p, rv, h⟩ => ?_⟩
  rw [assign_sub hn]
  refine wpAny_bind (wpAny_holding (thn (ha.run pins s σ H (fun x H1 => ∃ la m1 mc1 G1, Pre S X m1 mc1 G1 H1 σL σ ∧ RV S m1 H1 la x ∧ RV S m1 H1 lv v ∧ PostS S X W m1 mc1 H1 ((fb σL G1).bind fun y g => (setI la y lv g).bind fun _ g => .ok σL g) id fun _ _ _ _ H' σ' => Q σ' H') I
    ⟨m, mc, G, σL, p, Post.imp (PostS.bindE h) fun la m1 mc1 G1 H1 _ em _ kp p1 ⟨_, _, _, _, q⟩ x rx => ⟨la, m1, mc1, G1, p1, rx, RV.mono em kp.t rv, q⟩⟩) fun ov s1 ⟨x, H1, I1, r1, la, m1, mc1, G1, p1, ra, rv1, q⟩ => ?_))
  refine wpAny_bind (wpAny_holding (thn (hb.run pins s1 σ H1 (fun y H2 => ∃ li m2 mc2 G2, Pre S X m2 mc2 G2 H2 σL σ ∧ RV S m2 H2 la x ∧ RV S m2 H2 li y ∧ RV S m2 H2 lv v ∧ PostS S X W m2 mc2 H2 ((setI la li lv G2).bind fun _ g => .ok σL g) id fun _ _ _ _ H' σ' => Q σ' H') I1
    ⟨m1, mc1, G1, σL, p1, Post.imp (PostS.bindE q) fun li m2 mc2 G2 H2 _ em _ kp p2 ⟨_, _, _, _, q2⟩ y ry => ⟨li, m2, mc2, G2, p2, RV.mono em kp.t ra, ry, RV.mono em kp.t rv1, q2⟩⟩) fun iv s2 ⟨y, H2, I2, r2, li, m2, mc2, G2, p2, ra2, ri2, rv2, q2⟩ => ?_))
  refine wpAny_bind (wpAny_standAt (wpAny_bind (wpAny_holding (thn (set_ok C I2 p2 ra2 ri2 rv2 r1 r2 r q2) fun _ s3 ⟨H3, I3, q3⟩ => ?_))))
  exact wpAny_release ⟨σ, H3, I3, q3⟩
end
end MP
namespace MP
open PySem PySem.Spec L2
open PyProof.Rows hiding St

/-- what a class must say so that X('..') can be raised -/
structure XRai (S : Stat) (k : Nat) : Prop where
  f : ∃ (bmB : List Value) (B newId initId : String), ExcBaseFacts B newId initId bmB ∧ PySem.W.excIn S.K (S.xa k) bmB newId = true
  kp : PySem.W.keepIn S.K (.ref (S.xa k)) = true
  sb : PySem.W.subIn S.K (.ref (S.xa k)) (.type "BaseException") = some true
  ty : PySem.W.typeIn S.K (.ref (S.xa k)) = some (.type "type")
section
variable {S : Stat} {X : Cx} {W : WX} {d : Nat} {C : CallT}
theorem s_rai {k : Nat} {x m : Str} {j : Nat} {p p2 pos pos2 : Pos} (T : Ctx S X W d C) (R : XRai S k) (hg : Gl X x) (hm : X.mg x = some (.ref (S.xa k))) (hdb : (x == ("__debug__" : Str)) = false) :
    PS X (.Raise (some (.Call (.Name x p) [.Constant (.str m) j p2] [] pos)) none pos2) (tX S X W fun _ g => .exn k g) := by
  obtain ⟨bmB, B, newId, initId, F, q⟩ := R.f
  have kp := R.kp
  have sb := R.sb
  have ty := R.ty
  rw [← T.ok.k] at q kp sb ty
  refine ⟨fun pins s σ H D I ⟨m', mc, G, σL, p', h⟩ => ?_⟩
  exact (ps_raise T.calm T.tk (pmk_own F q hm kp (raises_own sb ty) hg hdb)).run pins s σ H D I (h m' mc H σ (Ext.refl m') (Ext.refl mc) (Keep.refl H) p'.r)
end
end MP
namespace MP
open PySem PySem.Spec L2
open PyProof.Rows hiding St

section
variable {S : Stat} {X : Cx} {W : WX} {g : LV → SL → GH → Res SL}
theorem qn_own {env : Env} {name : Str} (hx : Loc env.scope name) : qualnameIn env name name = env.qual ++ name := by
  have hk : env.kindOf name = some .local ∨ env.kindOf name = some .cell := hx
  unfold qualnameIn
  rcases hk with k | k
  · rw [k]; rfl
  · rw [k]; first | rfl | exact if_neg (by decide)
/-- def name(..): .. in a function's body -/
theorem s_def {c P : Addr} {nm : Nat → Nat → Str} {k : Nat} {js : List Nat} {name : Str} {params : Arguments} {body : List Stmt} {scope : Scope} {pos : Pos} (C : CtxE S X) (TB : LamX.TabB X.base X.mg c P) (hcode : X.env.code = .ref c) (hm : (P, nm) ∈ S.T) (hn : nm pos.line pos.col = X.env.qual ++ name) (hu : ∀ p ∈ S.T, p.1 = P → p.2 = nm)
    (hd0 : params.defaults = []) (hk0 : params.kw_defaults = []) (ha : annTrees params none X.env = []) (hx : Loc X.env.scope name) (M : MadeOk S X k js name params (.stmts body) scope) (hg : PSto S X W name g) :
    PS X (.FunctionDef name params body [] none [] scope none name pos) (tX S X W fun σ gg => (match cellsOf σ js with | some ns => alloc (.clo k ns) gg | none => .stuck).bind fun v gg => (g v σ gg).bind fun σ gg => .ok (.nx, σ) gg) := by
  refine ⟨fun pins s σ H D I ⟨m, mc, G, σL, p, h⟩ => ?_⟩
  refine PySem.W.nestDef_K hd0 hk0 ha ?_
  rw [qn_own hx]
  refine mk_fun I TB hcode hm hn hu p.r.o.tab (M.has I.ok) fun f c' fd H1 s' I1 e hT hf h1 md hco => ?_
  obtain ⟨v, m', G', p', em, rv, q⟩ := made_post C.ok.k M I p (PostS.bindE h) I1 e hT hf h1 md hco
  obtain ⟨p1, _, _, _, q⟩ := q
  refine wpAny_mono (hg pins s' σ H1 (.ref f) (.ref f) D.nx I1 rfl ⟨m', mc, G', σL, v, p1, rv, PostS.imp (PostS.bindS (sl := id) q) fun σL' m3 mc3 G3 H3 σ3 _ _ _ _ p3 ⟨_, _, _, _, q3⟩ => PostS.ok (a := (Fl.nx, σL')) p3 q3⟩) (fun _ s2 ⟨σ', H', J, z⟩ => ?_) fun _ _ z => z
  exact ⟨σ', H', J, z⟩
end
end MP
namespace MP
open PySem PySem.Spec L2
open PyProof.Rows hiding St

section
variable {S : Stat} {X : Cx} {W : WX} {m mc : Mp} {G : GH} {H : Hp} {σL : SL} {σ : St}
theorem oneAS {α : Type} {fa : SL → GH → Res (List LV)} {f : List LV → GH → Res α} {sl : α → SL} {k : α → Mp → Mp → GH → Hp → St → Prop} (p : Pre S X m mc G H σL σ) (h : PostS S X W m mc H ((fa σL G).bind fun x g => f x g) sl k) :
    tA S X W fa σ H fun xs H1 => ∃ as m' mc' G', Pre S X m' mc' G' H1 σL σ ∧ RVs S m' H1 as xs ∧ PostS S X W m' mc' H1 (f as G') sl k :=
  ⟨m, mc, G, σL, p, Post.imp (PostS.bindE h) fun a m1 mc1 G1 H1 _ _ _ _ pre ⟨_, _, _, _, h1⟩ x rv => ⟨a, m1, mc1, G1, pre, rv, h1⟩⟩
/-- x, y = a, b where the stores may be swapped -/
theorem s_par {i j : Nat} {x y : Str} {a b : Expr} {fa : SL → GH → Res (List LV)} {gt : LV → SL → GH → Res SL} {px py pt pos : Pos} {kt k2 pt2} (hc : X.calm = true) (hN : X.N.Nodup) (hi : X.N[i]? = some x) (hj : X.N[j]? = some y) (hij : i ≠ j)
    (hx : X.env.scope.names.lookup x = some .local) (hy : X.env.scope.names.lookup y = some .local) (ha : PA X [a, b] (tA S X W fa))
    (hg : ∀ v w σ g, gt (.tup [v, w]) σ g = .ok ((σ.set i (some v)).set j (some w)) g)
    (hw : swappedStores [.Tuple [.Name x px, .Name y py] kt pt] (.Tuple [a, b] k2 pt2) X.env = pure (some [x, y]))
    (hs : swapsWithSole [.Tuple [.Name x px, .Name y py] kt pt] (.Tuple [a, b] k2 pt2) pos.line X.env = pure false) (hn : ∀ vs σ g, vs.length ≠ 2 → gt (.tup vs) σ g = .stuck) :
    PS X (.Assign [.Tuple [.Name x px, .Name y py] kt pt] (.Tuple [a, b] k2 pt2) pos) (tX S X W fun σ gg => (fa σ gg).bind fun vs gg => (gt (.tup vs) σ gg).bind fun σ gg => .ok (.nx, σ) gg) := by
  refine ⟨fun pins s σ H D I ⟨m, mc, G, σL, p, h⟩ => ?_⟩
  have len := I.len
  refine (ps_par (pos := pos) hc hN hi hj hij hx hy ha hw hs).run pins s σ H D I ?_
  obtain ⟨m0, mc0, G0, σ0, p0, h0⟩ := oneAS p h
  refine ⟨m0, mc0, G0, σ0, p0, Post.imp h0 fun vs m1 mc1 G1 H1 _ _ _ _ _ f x rx => ?_⟩
  obtain ⟨as, m2, mc2, G2, p2, ra, q⟩ := f x rx
  by_cases hl2 : as.length = 2
  · match as, hl2, ra, q with
    | [v, w], _, ra, q =>
      obtain ⟨u1, t1, rfl, r1, r2⟩ := ra
      obtain ⟨u2, t2, rfl, r2, r3⟩ := r2
      cases r3
      rw [hg] at q
      have q : PostS S X W m2 mc2 H1 (.ok (Fl.nx, (σL.set i (some v)).set j (some w)) G2) (·.2) (ends S D) := q
      have Q1 := StR.setL p2.q hN hi hx len r1
      have Q2 := StR.setL Q1 hN hj hy (by rw [List.length_set]; exact len) r2
      exact ⟨u1, u2, rfl, q m2 mc2 H1 _ (Ext.refl m2) (Ext.refl mc2) (Keep.refl H1) p2.r Q2⟩
  · rw [hn as σL G2 hl2] at q
    exact q.elim
/-- a reading that is stuck more often -/
theorem s_less {st : Stmt} {f f' : SL → GH → Res (Fl × SL)} (h : PS X st (tX S X W f)) (hf : ∀ σ g, f' σ g = .stuck ∨ f' σ g = f σ g) : PS X st (tX S X W f') := by
  refine ⟨fun pins s σ H D I ⟨m, mc, G, σL, p, q⟩ => h.run pins s σ H D I ⟨m, mc, G, σL, p, ?_⟩⟩
  rcases hf σL G with z | z
  · rw [z] at q
    exact q.elim
  · rw [z] at q
    exact q
theorem s_par' {i j : Nat} {x y : Str} {a b : Expr} {fa : SL → GH → Res (List LV)} {gt : LV → SL → GH → Res SL} {px py pt pos : Pos} {kt k2 pt2} (hc : X.calm = true) (hN : X.N.Nodup) (hi : X.N[i]? = some x) (hj : X.N[j]? = some y) (hij : i ≠ j)
    (hx : X.env.scope.names.lookup x = some .local) (hy : X.env.scope.names.lookup y = some .local) (ha : PA X [a, b] (tA S X W fa))
    (hg : ∀ v w σ g, gt (.tup [v, w]) σ g = .ok ((σ.set i (some v)).set j (some w)) g)
    (hw : swappedStores [.Tuple [.Name x px, .Name y py] kt pt] (.Tuple [a, b] k2 pt2) X.env = pure (some [x, y]))
    (hs : swapsWithSole [.Tuple [.Name x px, .Name y py] kt pt] (.Tuple [a, b] k2 pt2) pos.line X.env = pure false) (hn : ∀ vs σ g, vs.length ≠ 2 → gt (.tup vs) σ g = .stuck) :
    PS X (.Assign [.Tuple [.Name x px, .Name y py] kt pt] (.Tuple [a, b] k2 pt2) pos) (tX S X W fun σ gg => ((fa σ gg).bind fun vs g => if lenOk vs then .ok (.tup vs) g else .stuck).bind fun v gg => (gt v σ gg).bind fun σ gg => .ok (.nx, σ) gg) := by
  refine s_less (s_par hc hN hi hj hij hx hy ha hg hw hs hn) fun σ g => ?_
  cases fa σ g with
  | ok vs g' =>
    by_cases z : lenOk vs = true
    · exact .inr (by simp only [Res.bind, z, if_true])
    · exact .inl (by simp only [Res.bind, z, if_false]; rfl)
  | exn n g' => exact .inr rfl
  | stuck => exact .inr rfl
end
end MP
namespace MP
open PySem PySem.Spec L2
open PyProof.Rows hiding St

theorem forIn_app {α β γ : Type} {f : α → β → Sem (ForInStep β)} (mk : List α → β) : ∀ (l pre : List α), (∀ p q pre', l = pre' ++ p :: q → f p (mk (pre ++ pre')) = pure (.yield (mk (pre ++ (pre' ++ [p]))))) → forIn l (mk pre) f = pure (mk (pre ++ l))
  | [], pre, _ => by rw [List.forIn_nil, List.append_nil]
  | a :: r, pre, h => by
    rw [List.forIn_cons]
    have h0 := h a r [] rfl
    rw [List.append_nil, List.nil_append] at h0
    rw [h0, pure_bind]
    have := forIn_app (γ := γ) mk r (pre ++ [a]) fun p q pre' e => by
      have := h p q (a :: pre') (by rw [e]; rfl)
      rw [List.append_assoc, List.append_assoc]
      exact this
    refine Eq.trans this ?_
    rw [List.append_assoc]
    rfl
theorem zip_append_len {α β : Type} : ∀ {a b : List α} {c d : List β}, c.length = a.length → (a ++ b).zip (c ++ d) = a.zip c ++ b.zip d
  | [], b, [], d, _ => rfl
  | x :: a, b, y :: c, d, h => by
    show (x, y) :: (a ++ b).zip (c ++ d) = _
    rw [zip_append_len (by simpa using h)]
    rfl
theorem lookup_out {x : Str} : ∀ {l : List (Str × Value)}, (∀ p ∈ l, p.1 ≠ x) → l.lookup x = none
  | [], _ => rfl
  | (y, v) :: r, h => by
    have ne := h (y, v) List.mem_cons_self
    rw [List.lookup_cons, show (x == y) = false from by simpa using fun z : x = y => ne z.symm]
    exact lookup_out fun p hp => h p (List.mem_cons_of_mem _ hp)
theorem bindArgs_kw {fd : FuncData} {p1 p2 : List Str} {us ws : List Value} (h1 : fd.params.posonlyargs = []) (h2 : fd.params.args.map (·.arg) = p1 ++ p2) (h3 : fd.params.vararg.isNone = true) (h4 : fd.params.kwonlyargs = []) (h5 : fd.params.kwarg.isNone = true) (hd : fd.defaults = .none)
    (nd : (p1 ++ p2).Nodup) (hl : us.length = p1.length) (hl2 : ws.length = p2.length) : bindArgs fd ⟨us, p2.zip ws⟩ = pure ((p1 ++ p2).zip (us ++ ws)) := by
  have v0 : fd.params.vararg = none := by
    cases e : fd.params.vararg with
    | none => rfl
    | some _ => rw [e] at h3; cases h3
  have k0 : fd.params.kwarg = none := by
    cases e : fd.params.kwarg with
    | none => rfl
    | some _ => rw [e] at h5; cases h5
  have hl3 : (us ++ ws).length = (p1 ++ p2).length := by simp [hl, hl2]
  have z0 : (p1 ++ p2).zip us = p1.zip us := by
    have := zip_append_len (b := p2) (d := ([] : List Value)) hl
    simpa using this
  have z1 : (p1 ++ p2).zip (us ++ ws) = p1.zip us ++ p2.zip ws := zip_append_len hl
  have miss : ((p1 ++ p2).take ((p1 ++ p2).length - 0)).filter (fun n => (((p1 ++ p2).zip (us ++ ws)).lookup n).isNone) = [] := by
    refine List.filter_eq_nil_iff.mpr fun x hx => ?_
    have := zip_lookup_some (us := us ++ ws) hl3.symm (List.mem_of_mem_take hx)
    cases e : ((p1 ++ p2).zip (us ++ ws)).lookup x with
    | none => rw [e] at this; cases this
    | some _ => simp
  have fm := zip_nodup_bind (sl := (p1 ++ p2).zip (us ++ ws)) nd hl3.symm fun _ _ => rfl
  unfold bindArgs
  simp only [h1, h2, h4, v0, k0, hd, List.map_nil, List.nil_append, List.append_nil]
  have keys : (p1.zip us ++ p2.zip ws).map (·.1) = p1 ++ p2 := by rw [← z1]; exact List.map_fst_zip (by rw [hl3]; exact Nat.le_refl _)
  rw [z0]
  rw [forIn_app (γ := Unit) (fun l => (l, ([] : List (Str × Value)))) (p2.zip ws) (p1.zip us) fun p q pre e => ?_]
  · rw [← z1, pure_bind]
    have sq : (seqItems? Value.none : Sem (Option (Array Value))) = pure none := rfl
    rw [sq]
    simp only [pure_bind, Option.getD_none, Array.toList_empty, List.length_nil, List.drop_nil, Nat.sub_zero, List.take_length, List.drop_length, List.zip_nil_right, List.forIn_nil, pure_bind]
    have c1 : (decide (us.length > (p1 ++ p2).length) && (none : Option PySem.Arg).isNone) = false := by
      have : ¬ us.length > (p1 ++ p2).length := by rw [hl, List.length_append]; omega
      simp [hl]
    rw [Nat.sub_zero, List.take_length] at miss
    rw [if_neg (by rw [c1]; decide), if_neg (by rw [miss]; decide), if_neg (by decide), fm]
  · have mem : p.1 ∈ p1 ++ p2 := by
      rw [← keys, e]
      exact List.mem_map_of_mem (List.mem_append_right _ (List.mem_append_right _ List.mem_cons_self))
    have out : List.lookup p.1 (p1.zip us ++ pre) = none := by
      refine lookup_out fun r hr z => ?_
      have nd2 : ((p1.zip us ++ pre).map (·.1) ++ (p.1 :: q.map (·.1))).Nodup := by
        have : (p1.zip us ++ pre).map (·.1) ++ (p.1 :: q.map (·.1)) = p1 ++ p2 := by rw [← keys, e]; simp
        rw [this]; exact nd
      exact (List.nodup_append.mp nd2).2.2 r.1 (List.mem_map_of_mem hr) p.1 List.mem_cons_self z
    rw [if_pos (by rw [List.contains_iff_mem.mpr mem]; rfl), if_neg (by rw [out]; decide), List.append_assoc]
end MP
namespace MP
open PySem PySem.Spec L2
open PyProof.Rows hiding St

/-- the code of a module function, where it is among the told ones -/
def gloOf (oks : List Nat) : LV → Option Nat
  | .glo k => if oks.contains k then some k else none
  | _ => none
theorem call_armK {func : Expr} {args : List Expr} {kws : List Keyword} {pos : Pos} {env : Env} (h : notAttr func = true) : eval (.Call func args kws pos) env = (do callWith pos (← eval func env) [] (backTo pos (starEach args env)) (backToKw pos (keywordEach kws env))) := by
  cases func <;> first | rfl | cases h
section
variable {S : Stat} {X : Cx} {W : WX} {d : Nat} {C : CallT} {m mc : Mp} {G : GH} {H : Hp} {σL : SL} {σ : St} {pins : List (Addr × Obj)} {s : Shared} {Q : VK}
theorem RVs.app {S : Stat} {m : Mp} {H : Hp} : ∀ {a b : List LV} {x y : List V}, RVs S m H a x → RVs S m H b y → RVs S m H (a ++ b) (x ++ y)
  | [], b, x, y, h1, h2 => by
    cases h1
    exact h2
  | v :: a, b, x, y, h1, h2 => by
    obtain ⟨u, r, rfl, r1, r2⟩ := h1
    exact ⟨u, r ++ y, rfl, r1, RVs.app r2 h2⟩
theorem vals_app : ∀ {a : List V} {x : List Value} {b : List V} {y : List Value}, Vals a x → Vals b y → Vals (a ++ b) (x ++ y)
  | _, _, _, _, .nil, h => h
  | _, _, _, _, .cons p q, h => .cons p (vals_app q h)
/-- a module function, called with positional values and keywords -/
theorem run_kw (T : Ctx S X W d C) (I : Inv X pins σ H s) (p : Pre S X m mc G H σL σ) {k : Nat} {p1 ks : List Str} {as bs : List LV} {vs zs : List V} {us ws : List Value} (hg : S.gf k = true) (hp : (S.cs k).ps = p1 ++ ks) (hl : p1.length = as.length) (ra : RVs S m H as vs) (rb : RVs S m H bs zs) (r : Vals vs us) (rz : Vals zs ws) (h : Post S X W m mc H σL σ (C k [] (as ++ bs) G) (kE S Q)) :
    wpAny (model X.prog X.w) X.A (call (.ref (S.ga k)) us (ks.zip ws)) (EP X pins σ Q) X.xe s := by
  have hs : C k [] (as ++ bs) G ≠ .stuck := fun e => by rw [e] at h; exact h.elim
  obtain ⟨K, hl0⟩ := T.snd.ok k [] (as ++ bs) G hs
  obtain ⟨od, fd, slo, c, h1, ic, hc, hfr⟩ := T.glo k hg
  rw [← T.ok.k] at h1 hc
  have l1 : us.length = p1.length := by rw [← r.length, ← ra.length, hl]
  have l2 : ws.length = ks.length := by
    rw [hp, List.length_append, List.length_append, hl] at hl0
    rw [← rz.length, ← rb.length]
    omega
  have ndp : (p1 ++ ks).Nodup := by
    have q : ((S.cs k).ps ++ (S.cs k).fr).Nodup := by rw [← K.pre]; exact K.nd.sublist (List.take_sublist _ _)
    rw [← hp]
    exact (List.nodup_append.mp q).1
  have bt : BindsTo s fd ⟨us, ks.zip ws⟩ ((S.cs k).ps.zip (us ++ ws)) := by
    rw [hp]
    exact BindsTo.of_eq (bindArgs_kw (by rw [ic.params]; exact K.p1) (by rw [ic.params, K.p2, hp]) (by rw [ic.params]; exact K.p3) (by rw [ic.params]; exact K.p4) (by rw [ic.params]; exact K.p5) ic.dfl ndp l1 l2)
  exact call_fn T I p (I.kIn _ _ h1) ic (PySem.W.codeRec_of I.kIn hc) ⟨⟨by rw [hfr]; rfl, fun i y n h2 => by rw [hfr] at h2; simp at h2, fun y c h2 => (nomatch h2), fun x y c h2 => (nomatch h2), fun y b h2 => absurd h2 (by simp)⟩, fun j hj => absurd hj (by simp)⟩ bt (vals_app r rz) (RVs.app ra rb) h
/-- f(k = .., ..): keywords alone, in the parameters' order -/
theorem e_cak0 {func : Expr} {kws : List Keyword} {pos : Pos} {ks : List Str} {oks : List Nat} {ff : SL → GH → Res LV} {fk : SL → GH → Res (List LV)} (T : Ctx S X W d C) (hf : PE X func (tE S X W ff)) (hk : PK X kws (tA S X W fk)) (hna : notAttr func = true)
    (hok : ∀ k ∈ oks, (S.cs k).ps = ks ∧ PySem.W.keepIn S.K (.ref (S.ga k)) = true) (hall : (backToKw pos (keywordEach kws X.env)).all (·.1.isSome) = true) (hks : (backToKw pos (keywordEach kws X.env)).filterMap (·.1) = ks) (hpl : ((backTo pos (starEach [] X.env)).any (·.1) || (backToKw pos (keywordEach kws X.env)).any (·.1.isNone)) = false) :
    PE X (.Call func [] kws pos) (tE S X W fun σ g => (ff σ g).bind fun fv g => match gloOf oks fv with | some k => (fk σ g).bind fun vs g => C k [] vs g | none => .stuck) := by
  refine ⟨fun pins s σ H Q I ⟨m, mc, G, σL, p, h⟩ => ?_⟩
  rw [call_armK hna]
  refine wpAny_bind (thn (hf.run pins s σ H _ I (one p h)) fun u s1 ⟨x, H1, I1, r1, fv, m1, mc1, G1, p1, rf, q⟩ => ?_)
  cases e : gloOf oks fv with
  | none => rw [e] at q; exact q.elim
  | some k =>
    rw [e] at q
    have q : Post S X W m1 mc1 H1 σL σ ((fk σL G1).bind fun vs g => C k [] vs g) (kE S Q) := q
    have hv : fv = .glo k ∧ k ∈ oks := by
      cases fv with
      | glo j =>
        have e : (if oks.contains j then some j else none) = some k := e
        by_cases z : oks.contains j = true
        · rw [if_pos z] at e
          cases e
          exact ⟨rfl, List.contains_iff_mem.mp z⟩
        · rw [if_neg z] at e
          cases e
      | _ => cases e
    obtain ⟨rfl, hm⟩ := hv
    obtain ⟨rfl, hgf⟩ := rf
    cases r1
    obtain ⟨hps, hkp⟩ := hok k hm
    rw [← T.ok.k] at hkp
    refine PySem.W.callWith_KW0 (h₀ := X.base) I.ok.mod.kin hkp hall (thn (hk.run pos pins s1 σ H1 _ I1 (oneA p1 q)) fun ws s2 ⟨zs, H2, I2, rz, bs, m2, mc2, G2, p2, rb, q2⟩ => ⟨I2.kIn, ?_⟩) hpl
    rw [hks]
    exact run_kw (p1 := []) (as := []) T I2 p2 hgf hps rfl rfl rb .nil rz q2
end
end MP
namespace MP
open PySem PySem.Spec L2
open PyProof.Rows hiding St

section
variable {S : Stat} {X : Cx} {W : WX} {fa : SL → GH → Res LV} {fr : SL → GH → Res (List LV)} {e : Expr} {kws : List Keyword} {nm : Option Str} {kpos : Pos}
theorem k_nil : PK X [] (tA S X W fun _ g => .ok [] g) := by
  refine ⟨fun pos pins s σ H Q I ⟨m, mc, G, σL, p, h⟩ => ?_⟩
  exact pk_nil.run pos pins s σ H Q I (Post.ok p h [] rfl)
theorem k_cons (ha : PE X e (tE S X W fa)) (hr : PK X kws (tA S X W fr)) : PK X (⟨nm, e, kpos⟩ :: kws) (tA S X W fun σ g => (fa σ g).bind fun v g => (fr σ g).bind fun vs g => .ok (v :: vs) g) := by
  refine ⟨fun pos pins s σ H Q I ⟨m, mc, G, σL, p, h⟩ => ?_⟩
  refine (pk_cons ha hr).run pos pins s σ H Q I ?_
  refine ⟨m, mc, G, σL, p, Post.imp h.bind fun v m1 mc1 G1 H1 _ _ _ _ pre ⟨_, _, _, _, h1⟩ x rv => ⟨m1, mc1, G1, σL, pre, Post.imp h1.bind fun vs m2 mc2 G2 H2 _ em2 _ kp2 pre2 ⟨_, _, _, _, h2⟩ xs rvs => ?_⟩⟩
  exact Post.ok pre2 h2 _ (RVs.cons (RV.mono em2 kp2.t rv) rvs)
end
section
variable {S : Stat} {X : Cx} {W : WX} {d : Nat} {C : CallT}
/-- f(a, .., k = v, ..): positional ones, then keywords in the parameters' order -/
theorem e_cak {func : Expr} {ea : Expr} {es : List Expr} {kws : List Keyword} {pos : Pos} {ks : List Str} {oks : List Nat} {n : Nat} {ff : SL → GH → Res LV} {fr fk : SL → GH → Res (List LV)} (T : Ctx S X W d C) (hf : PE X func (tE S X W ff)) (ha : PA X (ea :: es) (tA S X W fr)) (hk : PK X kws (tA S X W fk)) (hna : notAttr func = true)
    (hok : ∀ k ∈ oks, (S.cs k).ps = (S.cs k).ps.take n ++ ks ∧ ((S.cs k).ps.take n).length = n ∧ PySem.W.keepIn S.K (.ref (S.ga k)) = true) (hall : (backToKw pos (keywordEach kws X.env)).all (·.1.isSome) = true) (hks : (backToKw pos (keywordEach kws X.env)).filterMap (·.1) = ks)
    (hpl : ((backTo pos (starEach (ea :: es) X.env)).any (·.1) || (backToKw pos (keywordEach kws X.env)).any (·.1.isNone)) = false) (hs : notStar ea = true) :
    PE X (.Call func (ea :: es) kws pos) (tE S X W fun σ g => (ff σ g).bind fun fv g => match gloOf oks fv with | some k => (fr σ g).bind fun vs g => (fk σ g).bind fun ws g => if vs.length == n then C k [] (vs ++ ws) g else .stuck | none => .stuck) := by
  refine ⟨fun pins s σ H Q I ⟨m, mc, G, σL, p, h⟩ => ?_⟩
  rw [call_armK hna]
  refine wpAny_bind (thn (hf.run pins s σ H _ I (one p h)) fun u s1 ⟨x, H1, I1, r1, fv, m1, mc1, G1, p1, rf, q⟩ => ?_)
  cases e : gloOf oks fv with
  | none => rw [e] at q; exact q.elim
  | some k =>
    rw [e] at q
    have q : Post S X W m1 mc1 H1 σL σ ((fr σL G1).bind fun vs g => (fk σL g).bind fun ws g => if vs.length == n then C k [] (vs ++ ws) g else .stuck) (kE S Q) := q
    have hv : fv = .glo k ∧ k ∈ oks := by
      cases fv with
      | glo j =>
        have e : (if oks.contains j then some j else none) = some k := e
        by_cases z : oks.contains j = true
        · rw [if_pos z] at e
          cases e
          exact ⟨rfl, List.contains_iff_mem.mp z⟩
        · rw [if_neg z] at e
          cases e
      | _ => cases e
    obtain ⟨rfl, hm⟩ := hv
    obtain ⟨rfl, hgf⟩ := rf
    cases r1
    obtain ⟨hps, hpn, hkp⟩ := hok k hm
    rw [← T.ok.k] at hkp
    refine PySem.W.callWith_KW (h₀ := X.base) I.ok.mod.kin hkp hall (thn (ha.run pos pins s1 σ H1 (fun vs H2 => ∃ as m2 mc2 G2, Pre S X m2 mc2 G2 H2 σL σ ∧ RVs S m2 H2 as vs ∧ Post S X W m2 mc2 H2 σL σ ((fk σL G2).bind fun ws g => if as.length == n then C k [] (as ++ ws) g else .stuck) (kE S Q)) I1 ?_) fun us s2 ⟨vs, H2, I2, r2, as, m2, mc2, G2, p2, ra, q2⟩ => ?_) hpl (star_cons hs)
    · exact ⟨m1, mc1, G1, σL, p1, Post.imp q.bind fun as m2 mc2 G2 H2 _ _ _ _ pre ⟨_, _, _, _, h2⟩ xs rs => ⟨as, m2, mc2, G2, pre, rs, h2⟩⟩
    · refine thn (hk.run pos pins s2 σ H2 (fun zs H3 => ∃ bs m3 mc3 G3, Pre S X m3 mc3 G3 H3 σL σ ∧ RVs S m3 H3 as vs ∧ RVs S m3 H3 bs zs ∧ Post S X W m3 mc3 H3 σL σ (if as.length == n then C k [] (as ++ bs) G3 else .stuck) (kE S Q)) I2 ?_) fun ws s3 ⟨zs, H3, I3, r3, bs, m3, mc3, G3, p3, ra3, rb, q3⟩ => ⟨I3.kIn, ?_⟩
      · exact ⟨m2, mc2, G2, σL, p2, Post.imp q2.bind fun bs m3 mc3 G3 H3 _ em _ kp pre ⟨_, _, _, _, h3⟩ zs rs => ⟨bs, m3, mc3, G3, pre, RVs.mono em kp.t ra, rs, h3⟩⟩
      · rw [hks]
        obtain ⟨hl, q3⟩ := Post.guard q3
        exact run_kw (p1 := (S.cs k).ps.take n) T I3 p3 hgf hps (by rw [hpn]; exact (eq_of_beq hl).symm) ra3 rb r2 r3 q3
end
end MP
namespace MP
open PySem PySem.Spec L2
open PyProof.Rows hiding St

def lInts : List LV → Option (List Int)
  | [] => some []
  | .int i :: r => match lInts r with | some l => some (i :: l) | none => none
  | _ => none
def minI : Int → List Int → Int
  | m, [] => m
  | m, x :: r => minI (if x < m then x else m) r
theorem minI_mem : ∀ (l : List Int) (m : Int), minI m l ∈ m :: l ∧ ∀ y ∈ m :: l, minI m l ≤ y
  | [], m => ⟨List.mem_cons_self, fun y hy => by
    rw [List.mem_singleton.mp hy]
    exact Int.le_refl _⟩
  | x :: r, m => by
    obtain ⟨h1, h2⟩ := minI_mem r (if x < m then x else m)
    unfold minI
    refine ⟨?_, fun y hy => ?_⟩
    · rcases List.mem_cons.mp h1 with z | z
      · by_cases c : x < m
        · rw [if_pos c] at z ⊢
          rw [z]
          exact List.mem_cons_of_mem _ List.mem_cons_self
        · rw [if_neg c] at z ⊢
          rw [z]
          exact List.mem_cons_self
      · exact List.mem_cons_of_mem _ (List.mem_cons_of_mem _ z)
    · have h0 := h2 _ List.mem_cons_self
      rcases List.mem_cons.mp hy with z | z
      · by_cases c : x < m
        · rw [if_pos c] at h0 ⊢; omega
        · rw [if_neg c] at h0 ⊢; omega
      · rcases List.mem_cons.mp z with z | z
        · by_cases c : x < m
          · rw [if_pos c] at h0 ⊢; omega
          · rw [if_neg c] at h0 ⊢; omega
        · exact h2 y (List.mem_cons_of_mem _ z)
def minF (as : List LV) (g : GH) : Res LV := match as with
  | [.loc n] => (match listAt g n with
    | some xs => (match lInts xs with
      | some (i :: r) => .ok (.int (minI i r)) g
      | _ => .stuck)
    | none => .stuck)
  | _ => .stuck
section
variable {S : Stat} {X : Cx} {W : WX} {m : Mp} {H : Hp}
theorem lInts_at : ∀ {xs : List LV} {vs : List V} {ns : List Int}, lInts xs = some ns → RVs S m H xs vs → vs = ns.map V.int
  | [], vs, ns, h, r => by
    cases h
    cases r
    rfl
  | x :: xs, vs, ns, h, r => by
    obtain ⟨v, t, rfl, r1, r2⟩ := r
    cases x with
    | int i =>
      have h : (match lInts xs with | some l => some (i :: l) | none => none) = some ns := h
      cases e : lInts xs with
      | none => rw [e] at h; cases h
      | some l =>
        rw [e] at h
        cases h
        cases r1
        rw [lInts_at e r2]
        rfl
    | _ => cases h
theorem minF_one {as : List LV} {g : GH} (h : minF as g ≠ .stuck) : ∃ n, as = [.loc n] := by
  unfold minF at h
  split at h
  · exact ⟨_, rfl⟩
  · exact absurd rfl h
theorem lc_min (C : CtxE S X) : LCall S X W (.builtin "min") minF := by
  intro pins s σ H m mc G σL as vs us Q I p ra r q
  obtain ⟨n, rfl⟩ := minF_one (as := as) (g := G) fun z => by rw [z] at q; exact q.elim
  · have q : Post S X W m mc H σL σ (match listAt G n with | some xs => (match lInts xs with | some (i :: r) => .ok (.int (minI i r)) G | _ => .stuck) | none => .stuck) (kE S Q) := q
    cases e1 : listAt G n with
    | none => rw [e1] at q; exact q.elim
    | some xs =>
      rw [e1] at q
      have q : Post S X W m mc H σL σ (match lInts xs with | some (i :: r) => .ok (.int (minI i r)) G | _ => .stuck) (kE S Q) := q
      cases e2 : lInts xs with
      | none => rw [e2] at q; exact q.elim
      | some l =>
        rw [e2] at q
        cases l with
        | nil => exact q.elim
        | cons i l =>
          obtain ⟨x, rfl, rx⟩ := RVs.one ra
          obtain ⟨a, ws, rfl, h1, rs⟩ := p.r.seq e1 rx
          rw [lInts_at e2 rs] at h1
          rw [← C.ok.k] at h1
          refine callw (cr_min C.calm) I r ⟨a, i :: l, rfl, h1, by simp, fun k hk hl => ?_⟩
          obtain ⟨z1, z2⟩ := minI_mem l i
          have : k = minI i l := by
            have a1 := hl _ z1
            have a2 := z2 _ hk
            omega
          rw [this]
          exact fun _ => Post.ok p q _ rfl
end
end MP
namespace MP
open PySem PySem.Spec L2
open PyProof.Rows hiding St

def insI (x : Int) : List Int → List Int
  | [] => [x]
  | y :: r => if x ≤ y then x :: y :: r else y :: insI x r
def srtI : List Int → List Int
  | [] => []
  | x :: r => insI x (srtI r)
theorem insI_perm (x : Int) : ∀ l : List Int, (insI x l).Perm (x :: l)
  | [] => List.Perm.refl _
  | y :: r => by
    unfold insI
    by_cases c : x ≤ y
    · rw [if_pos c]
    · rw [if_neg c]
      exact ((insI_perm x r).cons y).trans (List.Perm.swap x y r)
theorem srtI_perm : ∀ l : List Int, (srtI l).Perm l
  | [] => List.Perm.refl _
  | x :: r => (insI_perm x (srtI r)).trans ((srtI_perm r).cons x)
theorem insI_srt (x : Int) : ∀ l : List Int, l.Pairwise (· ≤ ·) → (insI x l).Pairwise (· ≤ ·)
  | [], _ => List.pairwise_singleton _ _
  | y :: r, h => by
    obtain ⟨h1, h2⟩ := List.pairwise_cons.mp h
    unfold insI
    by_cases c : x ≤ y
    · rw [if_pos c]
      refine List.pairwise_cons.mpr ⟨fun z hz => ?_, h⟩
      rcases List.mem_cons.mp hz with e | e
      · omega
      · have := h1 z e
        omega
    · rw [if_neg c]
      refine List.pairwise_cons.mpr ⟨fun z hz => ?_, insI_srt x r h2⟩
      rcases List.mem_cons.mp ((insI_perm x r).mem_iff.mp hz) with e | e
      · omega
      · exact h1 z e
theorem srtI_srt : ∀ l : List Int, (srtI l).Pairwise (· ≤ ·)
  | [] => List.Pairwise.nil
  | x :: r => insI_srt x _ (srtI_srt r)
theorem srt_uniq : ∀ (a b : List Int), a.Perm b → a.Pairwise (· ≤ ·) → b.Pairwise (· ≤ ·) → a = b
  | [], b, h, _, _ => (List.nil_perm.mp h).symm
  | x :: a, [], h, _, _ => absurd h.symm (by simp)
  | x :: a, y :: b, h, h1, h2 => by
    obtain ⟨u1, u2⟩ := List.pairwise_cons.mp h1
    obtain ⟨w1, w2⟩ := List.pairwise_cons.mp h2
    have e : x = y := by
      have m1 := h.mem_iff.mp (List.mem_cons_self (a := x) (l := a))
      have m2 := h.mem_iff.mpr (List.mem_cons_self (a := y) (l := b))
      rcases List.mem_cons.mp m1 with z | z
      · exact z
      · rcases List.mem_cons.mp m2 with z2 | z2
        · exact z2.symm
        · have a1 := w1 x z
          have a2 := u1 y z2
          omega
    subst e
    rw [srt_uniq a b (List.perm_cons x |>.mp h) u2 w2]
def srtF (as : List LV) (g : GH) : Res LV := match as with
  | [.loc n] => (match listAt g n with
    | some xs => (match lInts xs with
      | some l => if decide (l.length < 64) then alloc (.lst ((srtI l).map LV.int)) g else .stuck
      | none => .stuck)
    | none => .stuck)
  | _ => .stuck
theorem srtF_one {as : List LV} {g : GH} (h : srtF as g ≠ .stuck) : ∃ n, as = [.loc n] := by
  unfold srtF at h
  split at h
  · exact ⟨_, rfl⟩
  · exact absurd rfl h
section
variable {S : Stat} {X : Cx} {W : WX}
theorem RVs_ints {m : Mp} {H : Hp} : ∀ l : List Int, RVs S m H (l.map LV.int) (l.map V.int)
  | [] => rfl
  | x :: r => ⟨_, _, rfl, rfl, RVs_ints r⟩
theorem lc_srt (C : CtxE S X) : LCall S X W (.builtin "sorted") srtF := by
  intro pins s σ H m mc G σL as vs us Q I p ra r q
  obtain ⟨n, rfl⟩ := srtF_one (as := as) (g := G) fun z => by rw [z] at q; exact q.elim
  have q : Post S X W m mc H σL σ (match listAt G n with | some xs => (match lInts xs with | some l => if decide (l.length < 64) then alloc (.lst ((srtI l).map LV.int)) G else .stuck | none => .stuck) | none => .stuck) (kE S Q) := q
  cases e1 : listAt G n with
  | none => rw [e1] at q; exact q.elim
  | some xs =>
    rw [e1] at q
    have q : Post S X W m mc H σL σ (match lInts xs with | some l => if decide (l.length < 64) then alloc (.lst ((srtI l).map LV.int)) G else .stuck | none => .stuck) (kE S Q) := q
    cases e2 : lInts xs with
    | none => rw [e2] at q; exact q.elim
    | some l =>
      rw [e2] at q
      have q : Post S X W m mc H σL σ (if decide (l.length < 64) then alloc (.lst ((srtI l).map LV.int)) G else .stuck) (kE S Q) := q
      obtain ⟨h64, q⟩ := Post.guard q
      obtain ⟨x, rfl, rx⟩ := RVs.one ra
      obtain ⟨a, ws, rfl, h1, rs⟩ := p.r.seq e1 rx
      rw [lInts_at e2 rs] at h1
      rw [← C.ok.k] at h1
      refine callw cr_sorted I r ⟨a, l, rfl, h1, of_decide_eq_true h64, fun ns' b hp hs hb ok => ?_⟩
      have e := srt_uniq ns' (srtI l) (hp.trans (srtI_perm l).symm) hs (srtI_srt l)
      subst e
      exact Post.new p C.ok.k q hb ok fun m' em kt => ⟨_, upd_same, RVs_ints _⟩
end
end MP
namespace MP
open PySem PySem.Spec L2
open PyProof.Rows hiding St

/-! ### try: call / except C as n: y = n -/
section
variable {X : Cx} {pins : List (Addr × Obj)} {σ σ' : St} {H : Hp} {sI s : Shared} {q : Addr × Obj}
theorem inv_fewer (I : Inv X (q :: pins) σ H s) : Inv X pins σ H s :=
  ⟨I.ok, I.os, I.bare, I.base, I.loc, I.cell, I.free, I.freeC, fun p hp => I.pin p ((List.mem_append.mp hp).elim (fun z => List.mem_append_left _ z) fun z => List.mem_append_right _ (List.mem_cons_of_mem _ z)), I.hok, I.len⟩
theorem inv_back {a : Addr} (I : Inv (X.suite a (q :: (X.pn ++ pins))) [] σ H s) (ok : X.Ok) : Inv X (q :: pins) σ H s :=
  ⟨ok, I.os, I.bare, I.base, I.loc, I.cell, I.free, I.freeC, fun p hp => I.pin p (by
    rw [List.append_nil]
    rcases List.mem_append.mp hp with z | z
    · exact List.mem_cons_of_mem _ (List.mem_append_left _ z)
    · rcases List.mem_cons.mp z with z | z
      · rw [z]; exact List.mem_cons_self
      · exact List.mem_cons_of_mem _ (List.mem_append_right _ z)), I.hok, I.len⟩
/-- an object that has come since is tracked from now on -/
theorem inv_born {a : Addr} {oe : Obj} {vs : Array Value} {o : HO} (J : Inv X pins σ H sI) (I : Inv X pins σ' H s) (ha : sI.heap.get? a = none) (na : H a = none) (nL : a ≠ X.env.locals) (he : s.heap.get? a = some oe) (hd : oe.data = .fields vs) (ok : ObjOk X.prog X.w (upd H a o) s.heap a o) : Inv X pins σ' (upd H a o) s := by
  have n0 : ∀ b u, X.s_0.heap.get? b = some u → b ∉ X.ex → b ≠ a := fun b u e hx z => by
    obtain ⟨u', e'⟩ := J.base.there b u e hx
    rw [z, ha] at e'
    cases e'
  have tn : ∀ {b : Addr} {u : HO}, H b = some u → b ≠ a := fun {b u} e z => by
    rw [z, na] at e
    cases e
  refine ⟨I.ok, I.os, I.bare, ⟨I.base.keep, I.base.slot, fun b u e n hx => ?_, I.base.there, fun b xs e => ?_, fun b u w e => ?_, fun b ps e => ?_⟩, I.loc, I.cell, ?_, fun x c e => ?_, fun p hp => ?_, HOk.laidN I.hok (fun _ _ e => e) na ok, I.len⟩
  · rw [upd_ne (n0 b u e hx)]
    exact I.base.free b u e n hx
  · have z := I.base.tups b xs e
    rw [upd_ne (tn z)]
    exact z
  · have z := I.base.frzs b u w e
    rw [upd_ne (tn z)]
    exact z
  · obtain ⟨more, z⟩ := I.base.tbls b ps e
    exact ⟨more, by rw [upd_ne (tn z)]; exact z⟩
  · rw [upd_ne (Ne.symm nL)]
    exact I.free
  · have z : c ≠ a := fun z => by
      obtain ⟨v, o', e1, e2⟩ := I.cell x c e
      rw [z, he] at e1
      cases e1
      rw [hd] at e2
      cases e2
    rw [upd_ne z]
    exact I.freeC x c e
  · obtain ⟨z1, z2, z3⟩ := I.pin p hp
    have z : p.1 ≠ a := fun z => by
      have w := (J.pin p hp).1
      rw [z, ha] at w
      cases w
    exact ⟨z1, by rw [upd_ne z]; exact z2, z3⟩
end
theorem Ctx.tr {S : Stat} {X : Cx} {W W' : WX} {d : Nat} {C : CallT} {pn : List (Addr × Obj)} {xe : Value → Shared → Prop} (T : Ctx S X W d C) (tk : Takes (X.tr pn xe) W') (ow : PassesOwn (model X.prog X.w) X.A X.env xe) : Ctx S (X.tr pn xe) W' d C :=
  ⟨⟨T.ok.k, T.ok.nb, T.ok.nf, T.ok.nd, T.ok.cn⟩, T.calm, tk, ow, T.room, T.gd, T.glo, T.tab, T.sndA⟩
section
variable {S : Stat} {X : Cx} {W : WX} {m mc : Mp} {G : GH} {H : Hp} {σL : SL} {σ : St}
theorem StR.unset (Q : StR S X m mc G H σL σ) {i : Nat} {x : Str} (hi : X.N[i]? = some x) (hk : X.env.scope.names.lookup x = some .local) : StR S X m mc G H (σL.set i none) (σ.set i none) := by
  refine ⟨by rw [List.length_set]; exact Q.1, fun j y hj => ?_⟩
  by_cases h : j = i
  · rw [h] at hj ⊢
    rw [hi] at hj
    cases hj
    have lt : i < X.N.length := (List.getElem?_eq_some_iff.mp hi).1
    refine (SR.loc hk).mpr fun w hw => ?_
    rw [List.getElem?_set_self (by rw [Q.1]; exact lt)] at hw
    cases hw
  · have q := Q.2 j y hj
    unfold SR at q ⊢
    rw [List.getElem?_set_ne (Ne.symm h), List.getElem?_set_ne (Ne.symm h)]
    exact q
def tryL (oks : List Nat) (i j : Nat) (f : SL → GH → Res LV) (σ : SL) (g : GH) : Res (Fl × SL) := match f σ g with
  | .ok _ g => .ok (.nx, σ) g
  | .exn k g => if oks.contains k then (alloc (.exc k) g).bind fun v g => .ok (.nx, ((σ.set i (some v)).set j (some v)).set i none) g else .stuck
  | .stuck => .stuck
end
section
variable {S : Stat} {X : Cx} {W : WX} {d : Nat} {C : CallT}
theorem s_try {i j : Nat} {n y x : Str} {c : Value} {oks : List Nat} {e : Expr} {f : SL → GH → Res LV} {np epos py pn2 apos pos' pos : Pos} (T : Ctx S X W d C) (hs : X.stack = X.env :: X.outer) (hf : X.env.frame = some X.env.locals)
    (hi : X.N[i]? = some n) (hin : X.env.scope.names.lookup n = some .local) (hj : X.N[j]? = some y) (hjn : X.env.scope.names.lookup y = some .local) (hc : Names X x c) (hk : ∀ k ∈ oks, PySem.W.exmOne S.K (.ref (S.xa k)) c = some true)
    (he : ∀ (pn : List (Addr × Obj)) (xe : Value → Shared → Prop) (W' : WX), Ctx S (X.tr pn xe) W' d C → PE (X.tr pn xe) e (tE S (X.tr pn xe) W' f)) (hsw : swapsWith e none epos.line X.env = pure false) (hd1 : (n == ("__debug__" : Str)) = false) (hd2 : (n == ("__classdict__" : Str)) = false)
    (hsa : swapsWithSole [.Name y py] (.Name n pn2) apos.line X.env = pure false) (hwa : swappedStores [.Name y py] (.Name n pn2) X.env = pure none) (ha1 : (assignEach [.Name y py] X.env).map (·.2) = [assign (.Name y py) X.env]) :
    PS X (.Try [.Expr e epos] [.ExceptHandler (some (.Name x np)) (some n) [.Assign [.Name y py] (.Name n pn2) apos] pos'] [] [] pos) (tX S X W (tryL oks i j f)) := by
  refine ⟨fun pins s σ H D I ⟨m, mc, G, σL, p, h⟩ => ?_⟩
  have ok := I.ok
  have nd := T.ok.nd
  let W' : WX := fun cls dd σ' H' => PySem.W.exmOne X.K cls c = some true ∧ dd = none ∧ ∀ a, H' a = none → OKX X (upd H' a (excHO a cls)) → D.nx (((σ'.set i (some (V.ref a))).set j (some (V.ref a))).set i none) (upd H' a (excHO a cls))
  have body : ∀ (pn : List (Addr × Obj)) (xe : Value → Shared → Prop), tE S (X.tr pn xe) W' f σ H fun _ H' => D.nx σ H' := by
    intro pn xe
    refine ⟨m, mc, G, σL, ⟨p.r, p.q⟩, ?_⟩
    unfold tryL at h
    cases ef : f σL G with
    | ok a G' =>
      rw [ef] at h
      exact fun m' mc' H' e1 e2 kp r q x rx => h m' mc' H' σ e1 e2 kp r q
    | stuck =>
      rw [ef] at h
      exact h.elim
    | exn k G' =>
      rw [ef] at h
      have h : PostS S X W m mc H (if oks.contains k then (alloc (.exc k) G').bind fun v g => .ok (Fl.nx, ((σL.set i (some v)).set j (some v)).set i none) g else .stuck) (·.2) (ends S D) := h
      intro m' mc' H' e1 e2 kp r q
      by_cases hm : oks.contains k = true
      · rw [if_pos hm] at h
        have hmem : k ∈ oks := by simpa using hm
        refine ⟨by rw [T.ok.k]; exact hk k hmem, rfl, fun a na ox => ?_⟩
        cases ea : alloc (.exc k) G' with
        | ok v G2 =>
          rw [ea] at h
          obtain ⟨R2, em, kp2, rv⟩ := Rel.new r ea na (fun b hb => upd_ne hb) (upd_same (H := H') (a := a) (o := excHO a (.ref (S.xa k))))
          obtain ⟨_, _, _, _, hcs⟩ := alloc_ok ea
          have len : σ.length = X.N.length := I.len
          have Q2 := StR.unset ((((q.mono em (Ext.refl mc') kp2.t hcs).setL nd hi hin len rv).setL nd hj hjn (by rw [List.length_set]; exact len) rv)) hi hin
          exact h _ mc' _ _ (e1.trans em) e2 (kp.trans kp2) R2 Q2
        | exn k2 G2 => exact (alloc_exn ea).elim
        | stuck => rw [ea] at h; exact h.elim
      · rw [if_neg hm] at h
        exact h.elim
  have frs0 : X.A.frames = some (X.env :: X.outer) := by rw [ok.frames, hs]
  refine wpAny_Try_except ?_
  refine wpAny_mono ((pss_one (ps_expr (he (X.pn ++ pins) (fun e s₁ => wpAny (model X.prog X.w) X.A (noteFrame e X.env) (fun _ s₂ => wpAny (model X.prog X.w) X.A (setFlight e none)
      (fun _ s₃ => wpAny (model X.prog X.w) X.A (handleBy e X.env [.ExceptHandler (some (.Name x np)) (some n) [.Assign [.Name y py] (.Name n pn2) apos] pos']) (SP X pins D) X.xe s₃) X.xe s₂) X.xe s₁) W' (T.tr (fun u s' xx => ?_) PassesOwn.looking)) hsw)).run [] s σ H D (I.toTry _) (body _ _)) (fun fl s1 hsp => ?_) (fun _ _ z => z)
  · obtain ⟨a, B, sI, pins', σ', H', cls, dd, rfl, J', nb, up, sky, na, os, ag, hb1, rfl, hyes⟩ := xx
    have J : Inv X pins σ' H' sI := J'.ofTry ok
    rw [hs] at sky
    show wpAny _ _ (noteFrame (.ref a) X.env) _ _ _
    refine Sky.land Zc.steady frs0 hf sky fun h3 fl3 up3 => ?_
    have J3 : Inv X pins σ' H' { s' with heap := h3 } := J.landed nb fl3.1 (up.trans up3) os ag
    obtain ⟨oe3, vs3, he3, hz3, hd3⟩ := fl3.there
    have nfr : a ∉ frs (X.env :: X.outer) := fun hm => by
      obtain ⟨_, o', e', hnf⟩ := fl3.2.2.1.mem hm
      rw [he3] at e'
      cases e'
      exact hnf _ hd3
    have nL : a ≠ X.env.locals := fun z => nfr (List.mem_filterMap.mpr ⟨X.env, List.mem_cons_self, by rw [hf, z]⟩)
    have nF : a ∉ X.fs := fun hm => by
      obtain ⟨ev, hev, z⟩ := List.mem_filterMap.mp hm
      exact nfr (List.mem_filterMap.mpr ⟨ev, List.mem_cons_of_mem _ hev, z⟩)
    have n0 : sI.heap.get? a = none := by
      cases z : sI.heap.get? a with
      | none => rfl
      | some u =>
        have w := nb a u z (by rw [hs]; exact nfr)
        rw [fl3.2.1] at w
        cases w
    have S3 := J3.suite he3 hd3 na nL nF
    refine wpAny_handleBy_cons (codeAny_handlers_test ?_) (by intro z; cases z)
    have LM := PySem.W.exm_one (M := model X.prog X.w) J3.kIn (fun A Q E s k z => wpAny_typeOf_ref (k _ _ he3) (by rw [hz3.1]; exact z)) hb1
    have test : ∀ {Q E : Value → Shared → Prop}, Q c { s' with heap := h3 } → wpAny (model X.prog X.w) (X.A.mark (some (.ref a))) (eval (.Name x np) X.env) Q E { s' with heap := h3 } := fun {Q E} z => by
      obtain ⟨hg, hdbg, hm | ⟨hm, hv, hnn⟩⟩ := hc
      · exact ld_glob (X := X.suite a ((a, oe3) :: (X.pn ++ pins))) S3 hg hm z hdbg
      · exact ld_blt (X := X.suite a ((a, oe3) :: (X.pn ++ pins))) S3 hg hm hv z hnn hdbg
    refine test (LM.here (codeAny_handlers_suite_as ?_))
    refine HandSPX.lands_againZ fl3 fun h4 fl4 up4 => ?_
    have J4 : Inv X pins σ' H' { s' with heap := h4 } := J.landed nb fl4.1 ((up.trans up3).trans up4) os ag
    obtain ⟨oe4, vs4, he4, hz4, hd4⟩ := fl4.there
    have S4 := J4.suite he4 hd4 na nL nF
    refine store_ok (X := X.suite a ((a, oe4) :: (X.pn ++ pins))) (v := .ref a) S4 nd hi (.inl hin) rfl (fun s5 S5 => ?_) (.inr hin)
    have lt : i < X.N.length := (List.getElem?_eq_some_iff.mp hi).1
    refine wpAny_mono ((pss_one (ps_asg (X := X.suite a ((a, oe4) :: (X.pn ++ pins))) (pe_var hi (.inl hin) hd1 hd2) (pg_name nd hj (.inl hjn) (.inr hjn)) hsa hwa ha1)).run [] s5 _ H' { nx := fun σ6 H6 => σ6 = (σ'.set i (some (V.ref a))).set j (some (V.ref a)) ∧ H6 = H', rt := fun _ _ => False } S5
      ⟨.ref a, List.getElem?_set_self (by rw [J.len]; exact lt), rfl, rfl⟩) (fun fl s6 hsp => ?_) (fun _ _ z => False.elim z)
    cases fl with
    | next =>
      obtain ⟨σ6, H6, S6, e6, e7⟩ := hsp
      subst e6
      subst e7
      refine gone_ok (inv_back S6 ok) nd hi hin fun s7 J7 => ?_
      obtain ⟨z1, _⟩ := J7.pin (a, oe4) (List.mem_append_right _ List.mem_cons_self)
      have N := inv_born (o := excHO a cls) J (inv_fewer J7) n0 na nL z1 hd4 ⟨⟨oe4, vs4, z1, hz4, hd4⟩, ⟨oe4, z1⟩, fun _ _ ⟨o, v, q1, q2⟩ k => ⟨o, v, k o q1, q2⟩⟩
      exact ⟨_, _, N, hyes a na (okx N)⟩
    | brk => obtain ⟨_, _, _, z⟩ := hsp; exact z.elim
    | cont => obtain ⟨_, _, _, z⟩ := hsp; exact z.elim
    | ret u => obtain ⟨_, _, _, _, _, z⟩ := hsp; exact z.elim
  · cases fl with
    | next => obtain ⟨σ2, H2, J2, q2⟩ := hsp; exact wpAny_execs_nil ⟨σ2, H2, J2.ofTry ok, q2⟩
    | brk => obtain ⟨σ2, H2, J2, q2⟩ := hsp; exact ⟨σ2, H2, J2.ofTry ok, q2⟩
    | cont => obtain ⟨σ2, H2, J2, q2⟩ := hsp; exact ⟨σ2, H2, J2.ofTry ok, q2⟩
    | ret u => obtain ⟨v, σ2, H2, J2, r2, q2⟩ := hsp; exact ⟨v, σ2, H2, J2.ofTry ok, r2, q2⟩
end
end MP
namespace MP
open PySem PySem.Spec L2
open PyProof.Rows hiding St

def insU (x : Int) : List Int → List Int
  | [] => [x]
  | y :: r => if x < y then x :: y :: r else if x = y then y :: r else y :: insU x r
def uniI : List Int → List Int
  | [] => []
  | x :: r => insU x (uniI r)
theorem insU_mem (x k : Int) : ∀ l : List Int, k ∈ insU x l ↔ k = x ∨ k ∈ l
  | [] => by simp [insU]
  | y :: r => by
    unfold insU
    split
    · simp
    · split
      · rename_i h
        subst h
        simp
      · rw [List.mem_cons, insU_mem x k r, List.mem_cons]
        constructor
        · rintro (h | h | h)
          · exact .inr (.inl h)
          · exact .inl h
          · exact .inr (.inr h)
        · rintro (h | h | h)
          · exact .inr (.inl h)
          · exact .inl h
          · exact .inr (.inr h)
theorem insU_lt (x : Int) : ∀ l : List Int, l.Pairwise (· < ·) → (insU x l).Pairwise (· < ·)
  | [], _ => List.pairwise_singleton _ _
  | y :: r, h => by
    obtain ⟨h1, h2⟩ := List.pairwise_cons.mp h
    unfold insU
    split
    · rename_i c
      refine List.pairwise_cons.mpr ⟨fun z hz => ?_, h⟩
      rcases List.mem_cons.mp hz with e | e
      · omega
      · have := h1 z e
        omega
    · split
      · exact h
      · refine List.pairwise_cons.mpr ⟨fun z hz => ?_, insU_lt x r h2⟩
        rcases (insU_mem x z r).mp hz with e | e
        · omega
        · exact h1 z e
theorem uniI_mem (k : Int) : ∀ l : List Int, k ∈ uniI l ↔ k ∈ l
  | [] => Iff.rfl
  | x :: r => by
    unfold uniI
    rw [insU_mem, uniI_mem k r, List.mem_cons]
theorem uniI_lt : ∀ l : List Int, (uniI l).Pairwise (· < ·)
  | [] => List.Pairwise.nil
  | x :: r => insU_lt x _ (uniI_lt r)
theorem strict_uniq : ∀ (a b : List Int), a.Pairwise (· < ·) → b.Pairwise (· < ·) → (∀ k, k ∈ a ↔ k ∈ b) → a = b
  | [], [], _, _, _ => rfl
  | [], y :: b, _, _, h => absurd ((h y).mpr List.mem_cons_self) (by simp)
  | x :: a, [], _, _, h => absurd ((h x).mp List.mem_cons_self) (by simp)
  | x :: a, y :: b, h1, h2, h => by
    obtain ⟨u1, u2⟩ := List.pairwise_cons.mp h1
    obtain ⟨w1, w2⟩ := List.pairwise_cons.mp h2
    have e : x = y := by
      rcases List.mem_cons.mp ((h x).mp List.mem_cons_self) with z | z
      · exact z
      · rcases List.mem_cons.mp ((h y).mpr List.mem_cons_self) with z2 | z2
        · exact z2.symm
        · have a1 := w1 x z
          have a2 := u1 y z2
          omega
    subst e
    rw [strict_uniq a b u2 w2 fun k => ?_]
    constructor
    · intro hk
      rcases List.mem_cons.mp ((h k).mp (List.mem_cons_of_mem _ hk)) with z | z
      · have := u1 k hk
        omega
      · exact z
    · intro hk
      rcases List.mem_cons.mp ((h k).mpr (List.mem_cons_of_mem _ hk)) with z | z
      · have := w1 k hk
        omega
      · exact z
def srsF (v : LV) (g : GH) : Res LV := match v with
  | .loc n => (match listAt g n with
    | some xs => (match lInts xs with
      | some l => if decide (l.length < 64) then alloc (.lst ((uniI l).map LV.int)) g else .stuck
      | none => .stuck)
    | none => .stuck)
  | _ => .stuck
theorem srsF_one {v : LV} {g : GH} (h : srsF v g ≠ .stuck) : ∃ n, v = .loc n := by
  unfold srsF at h
  split at h
  · exact ⟨_, rfl⟩
  · exact absurd rfl h
section
variable {S : Stat} {X : Cx} {W : WX} {e : Expr} {fe : SL → GH → Res LV} {p1 p2 q2 pos : Pos}
theorem e_srs (C : CtxE S X) (hg : Gl X "sorted") (hm : X.mg "sorted" = none) (hg2 : Gl X "set") (hm2 : X.mg "set" = none) (he : PE X e (tE S X W fe)) (hs : notStar e = true) :
    PE X (.Call (.Name "sorted" p1) [.Call (.Name "set" p2) [e] [] q2] [] pos) (tE S X W fun σ g => (fe σ g).bind fun v g => srsF v g) := by
  refine ⟨fun pins s σ H Q I ⟨m, mc, G, σL, p, h⟩ => ?_⟩
  have na : starEach [e] X.env = (false, eval e X.env) :: starEach [] X.env := star_cons hs
  refine Call_ (ld_blt I hg hm PyProof.Rows.boot_sorted ?_)
  refine PyProof.Rows.callWith_builtin1 (PyProof.Rows.args_cons ?_ rfl) rfl rfl
  refine Call_ (ld_blt I hg2 hm2 boot_set ?_)
  refine PyProof.Rows.callWith_type1 (PyProof.Rows.args_cons (thn (he.run pins s σ H _ I (one p h)) fun v s1 ⟨x, H1, I1, r1, la, m1, mc1, G1, p1, ra, q⟩ => PyProof.Rows.args_nil ?_) na) na rfl
  obtain ⟨n, rfl⟩ := srsF_one (v := la) (g := G1) fun z => by rw [z] at q; exact q.elim
  have q : Post S X W m1 mc1 H1 σL σ (match listAt G1 n with | some xs => (match lInts xs with | some l => if decide (l.length < 64) then alloc (.lst ((uniI l).map LV.int)) G1 else .stuck | none => .stuck) | none => .stuck) (kE S Q) := q
  cases e1 : listAt G1 n with
  | none => rw [e1] at q; exact q.elim
  | some xs =>
    rw [e1] at q
    have q : Post S X W m1 mc1 H1 σL σ (match lInts xs with | some l => if decide (l.length < 64) then alloc (.lst ((uniI l).map LV.int)) G1 else .stuck | none => .stuck) (kE S Q) := q
    cases e2 : lInts xs with
    | none => rw [e2] at q; exact q.elim
    | some l =>
      rw [e2] at q
      have q : Post S X W m1 mc1 H1 σL σ (if decide (l.length < 64) then alloc (.lst ((uniI l).map LV.int)) G1 else .stuck) (kE S Q) := q
      obtain ⟨h64, q⟩ := Post.guard q
      have h64 := of_decide_eq_true h64
      obtain ⟨a, ws, rfl, h1, rs⟩ := p1.r.seq e1 ra
      rw [lInts_at e2 rs, ← C.ok.k] at h1
      cases r1
      obtain ⟨its, rv, pl, hz⟩ := I1.list h1
      have hd := I1.ok.hd C.calm
      refine set_lstI l hd pl.isList (by simpa using rv.ints) (by unfold scanBound; omega) fun h2 tq c R hc kp => PyProof.Rows.args_nil ?_
      have I2 : Inv X pins σ H1 { s1 with heap := h2, toks := tq } := I1.kept fun b o e => kp b o e
      refine sorted_set R hd (by omega) fun s' b out c2 ns k2 g o hb hgt hi hso hme hle => ?_
      have e3 := strict_uniq ns (uniI l) hso (uniI_lt l) fun k => by rw [hme k, uniI_mem, decide_eq_true_eq]
      have hlen : (ns.map V.int).length ≤ sizeLine := by rw [List.length_map, hle, sizeLine_eq]; omega
      have J : Inv X pins σ (upd H1 b (.lst (ns.map V.int))) s' := by
        have e4 : s' = { s1 with heap := s'.heap, gens := s'.gens, drawn := s'.drawn, toks := s'.toks } := by
          cases s'
          cases o
          rfl
        rw [e4]
        exact Inv.call (s := { s1 with heap := h2, toks := tq }) I2 (ch := []) (Un.laid k2 hb (I2.hok.fresh hb)) (I2.hok.laid k2 hb ⟨hlen, out.toList, c2, vals_of_ints hi, hgt⟩) (by rw [g]; exact I2.bare) (fun _ z => nomatch z)
      refine ⟨.ref b, _, J, rfl, Post.new p1 C.ok.k q (I2.hok.fresh hb) (okx J) fun m' em kt => ?_⟩
      rw [e3]
      exact ⟨_, upd_same, RVs_ints _⟩
end
end MP
namespace MP
open PySem PySem.Spec L2
open PyProof.Rows hiding St

def insS (x : List Nat) : List (List Nat) → List (List Nat)
  | [] => [x]
  | y :: r => if ltCps y x then y :: insS x r else x :: y :: r
def srtS : List (List Nat) → List (List Nat)
  | [] => []
  | x :: r => insS x (srtS r)
theorem le_of_cps {a b : List Nat} (h : ltCps b a = false) : a ≤ b := by
  rw [ltCps_eq, decide_eq_false_iff_not] at h
  exact List.not_lt.mp h
theorem insS_perm (x : List Nat) : ∀ l : List (List Nat), (insS x l).Perm (x :: l)
  | [] => List.Perm.refl _
  | y :: r => by
    unfold insS
    split
    · exact ((insS_perm x r).cons y).trans (List.Perm.swap x y r)
    · exact List.Perm.refl _
theorem srtS_perm : ∀ l : List (List Nat), (srtS l).Perm l
  | [] => List.Perm.refl _
  | x :: r => (insS_perm x (srtS r)).trans ((srtS_perm r).cons x)
theorem insS_srt (x : List Nat) : ∀ l : List (List Nat), l.Pairwise (· ≤ ·) → (insS x l).Pairwise (· ≤ ·)
  | [], _ => List.pairwise_singleton _ _
  | y :: r, h => by
    obtain ⟨h1, h2⟩ := List.pairwise_cons.mp h
    unfold insS
    split
    · rename_i c
      have hyx : y ≤ x := by
        rw [ltCps_eq, decide_eq_true_eq] at c
        exact List.le_of_lt c
      refine List.pairwise_cons.mpr ⟨fun z hz => ?_, insS_srt x r h2⟩
      rcases List.mem_cons.mp ((insS_perm x r).mem_iff.mp hz) with e | e
      · rw [e]; exact hyx
      · exact h1 z e
    · rename_i c
      have hxy : x ≤ y := le_of_cps (by simpa using c)
      refine List.pairwise_cons.mpr ⟨fun z hz => ?_, h⟩
      rcases List.mem_cons.mp hz with e | e
      · rw [e]; exact hxy
      · exact List.le_trans hxy (h1 z e)
theorem srtS_srt : ∀ l : List (List Nat), (srtS l).Pairwise (· ≤ ·)
  | [] => List.Pairwise.nil
  | x :: r => insS_srt x _ (srtS_srt r)
theorem strs_uniq : ∀ (a b : List (List Nat)), a.Perm b → a.Pairwise (· ≤ ·) → b.Pairwise (· ≤ ·) → a = b
  | [], b, h, _, _ => (List.nil_perm.mp h).symm
  | x :: a, [], h, _, _ => absurd h.symm (by simp)
  | x :: a, y :: b, h, h1, h2 => by
    obtain ⟨u1, u2⟩ := List.pairwise_cons.mp h1
    obtain ⟨w1, w2⟩ := List.pairwise_cons.mp h2
    have e : x = y := by
      rcases List.mem_cons.mp (h.mem_iff.mp (List.mem_cons_self (a := x) (l := a))) with z | z
      · exact z
      · rcases List.mem_cons.mp (h.mem_iff.mpr (List.mem_cons_self (a := y) (l := b))) with z2 | z2
        · exact z2.symm
        · exact List.le_antisymm (u1 y z2) (w1 x z)
    subst e
    rw [strs_uniq a b (List.perm_cons x |>.mp h) u2 w2]
def cp (x : Str) : List Nat := x.cps.toList
theorem risingS_pw : ∀ (r : List Str) (p : Str), risingS p r = true → (∀ x ∈ r, cp p ≤ cp x) ∧ (r.map cp).Pairwise (· ≤ ·)
  | [], p, _ => ⟨fun _ h => (nomatch h), List.Pairwise.nil⟩
  | x :: r, p, h => by
    have h : (!ltCps x.cps.toList p.cps.toList && risingS x r) = true := h
    rw [Bool.and_eq_true] at h
    obtain ⟨q1, q2⟩ := risingS_pw r x h.2
    have h0 : cp p ≤ cp x := le_of_cps (by show ltCps x.cps.toList p.cps.toList = false; simpa using h.1)
    refine ⟨fun y hy => ?_, List.pairwise_cons.mpr ⟨fun y hy => ?_, q2⟩⟩
    · rcases List.mem_cons.mp hy with z | z
      · rw [z]; exact h0
      · exact List.le_trans h0 (q1 y z)
    · obtain ⟨z, hz, rfl⟩ := List.mem_map.mp hy
      exact q1 z hz
theorem sortedS_pw : ∀ l : List Str, sortedS l = true → (l.map cp).Pairwise (· ≤ ·)
  | [], _ => List.Pairwise.nil
  | x :: r, h => by
    obtain ⟨q1, q2⟩ := risingS_pw r x h
    refine List.pairwise_cons.mpr ⟨fun y hy => ?_, q2⟩
    obtain ⟨z, hz, rfl⟩ := List.mem_map.mp hy
    exact q1 z hz
def mkS (x : List Nat) : Str := ⟨x.toArray⟩
theorem cp_mk (x : List Nat) : cp (mkS x) = x := rfl
theorem mk_cp (x : Str) : mkS (cp x) = x := rfl
theorem sorted_uniq {ys : List Str} {l : List (List Nat)} (hp : ys.Perm (l.map mkS)) (hs : sortedS ys = true) : ys = (srtS l).map mkS := by
  have h1 : (ys.map cp).Perm l := by
    have q := hp.map cp
    rw [List.map_map] at q
    have e : l.map (cp ∘ mkS) = l := by
      rw [show (cp ∘ mkS) = id from funext cp_mk, List.map_id]
    rwa [e] at q
  have h2 := strs_uniq (ys.map cp) (srtS l) (h1.trans (srtS_perm l).symm) (sortedS_pw ys hs) (srtS_srt l)
  rw [← h2, List.map_map, show (mkS ∘ cp) = id from funext mk_cp, List.map_id]
def lStrs : List LV → Option (List (List Nat))
  | [] => some []
  | .str x :: r => match lStrs r with | some l => some (x :: l) | none => none
  | _ => none
def srtD (as : List LV) (g : GH) : Res LV := match as with
  | [.loc n] => (match g.t.get n with
    | some (.dic kvs) => (match lStrs (kvs.map (·.1)) with
      | some l => if decide (l.length < 64) then alloc (.lst ((srtS l).map LV.str)) g else .stuck
      | none => .stuck)
    | _ => .stuck)
  | _ => .stuck
theorem srtD_one {as : List LV} {g : GH} (h : srtD as g ≠ .stuck) : ∃ n kvs, as = [.loc n] ∧ g.t.get n = some (.dic kvs) := by
  unfold srtD at h
  split at h
  · split at h
    · rename_i e
      exact ⟨_, _, rfl, e⟩
    · exact absurd rfl h
  · exact absurd rfl h
section
variable {S : Stat} {X : Cx} {W : WX}
theorem RVs_strs {m : Mp} {H : Hp} : ∀ l : List (List Nat), RVs S m H (l.map LV.str) ((l.map mkS).map V.str)
  | [] => rfl
  | x :: r => ⟨_, _, rfl, rfl, RVs_strs r⟩
theorem keys_strs {m : Mp} {H : Hp} : ∀ {kvs : List (LV × LV)} {ks : List (Key × V)} {l : List (List Nat)}, RKs S m H kvs ks → lStrs (kvs.map (·.1)) = some l → ks.map (·.1) = (l.map mkS).map Sum.inr
  | [], ks, l, h, e => by
    cases (show ks = [] from h)
    cases e
    rfl
  | (a, w) :: r, ks, l, h, e => by
    obtain ⟨a', w', r', rfl, h1, h2, h3⟩ := h
    cases a with
    | str x =>
      have e : (match lStrs (r.map (·.1)) with | some l => some (x :: l) | none => none) = some l := e
      cases e2 : lStrs (r.map (·.1)) with
      | none => rw [e2] at e; cases e
      | some l2 =>
        rw [e2] at e
        cases e
        have h1 : a' = Sum.inr ⟨x.toArray⟩ := h1
        rw [List.map_cons, List.map_cons, List.map_cons, keys_strs h3 e2, h1]
        rfl
    | _ => cases e
theorem lc_srtD (C : CtxE S X) : LCall S X W (.builtin "sorted") srtD := by
  intro pins s σ H m mc G σL as vs us Q I p ra r q
  obtain ⟨n, kvs, rfl, e1⟩ := srtD_one (as := as) (g := G) fun z => by rw [z] at q; exact q.elim
  have q : Post S X W m mc H σL σ (match G.t.get n with | some (.dic kvs) => (match lStrs (kvs.map (·.1)) with | some l => if decide (l.length < 64) then alloc (.lst ((srtS l).map LV.str)) G else .stuck | none => .stuck) | _ => .stuck) (kE S Q) := q
  rw [e1] at q
  have q : Post S X W m mc H σL σ (match lStrs (kvs.map (·.1)) with | some l => if decide (l.length < 64) then alloc (.lst ((srtS l).map LV.str)) G else .stuck | none => .stuck) (kE S Q) := q
  cases e2 : lStrs (kvs.map (·.1)) with
  | none => rw [e2] at q; exact q.elim
  | some l =>
    rw [e2] at q
    have q : Post S X W m mc H σL σ (if decide (l.length < 64) then alloc (.lst ((srtS l).map LV.str)) G else .stuck) (kE S Q) := q
    obtain ⟨h64, q⟩ := Post.guard q
    obtain ⟨x, rfl, rx⟩ := RVs.one ra
    obtain ⟨a, rfl, hm⟩ := rx
    obtain ⟨a', hm', ks, h1, h2⟩ := p.r.o.obj _ _ e1
    rw [hm] at hm'
    cases hm'
    refine callw (call_sortedD C.calm) I r ⟨a, ks, l.map mkS, rfl, .of h1, keys_strs h2 e2, by rw [List.length_map]; exact of_decide_eq_true h64, fun ys b hp hs hb ok => ?_⟩
    have e := sorted_uniq hp hs
    subst e
    exact Post.new p C.ok.k q hb ok fun m' em kt => ⟨_, upd_same, RVs_strs _⟩
/-! ### dict(list of pairs) -/
def pairsL : List LV → Option (List (LV × LV))
  | [] => some []
  | .tup [k, v] :: r => if isKey k then (match pairsL r with | some l => some ((k, v) :: l) | none => none) else none
  | _ => none
def dictF (as : List LV) (g : GH) : Res LV := match as with
  | [.loc n] => (match listAt g n with
    | some xs => (match pairsL xs with
      | some l => alloc (.dic (mkD l [])) g
      | none => .stuck)
    | none => .stuck)
  | _ => .stuck
theorem dictF_one {as : List LV} {g : GH} (h : dictF as g ≠ .stuck) : ∃ n, as = [.loc n] := by
  unfold dictF at h
  split at h
  · exact ⟨_, rfl⟩
  · exact absurd rfl h
theorem pairsL_at {X : Cx} (hK : X.K = S.K) {m : Mp} {H : Hp} : ∀ {xs : List LV} {vs : List V} {l : List (LV × LV)}, pairsL xs = some l → RVs S m H xs vs → ∃ (ps : List Addr) (kvs : List (Key × V)), vs = ps.map V.ref ∧ Paired (fun p kv => SqT X.K H p [kV kv.1, kv.2]) ps kvs ∧ RKs S m H l kvs
  | [], vs, l, h, r => by
    cases h
    cases r
    exact ⟨[], [], rfl, .nil, rfl⟩
  | x :: xs, vs, l, h, r => by
    obtain ⟨v, t, rfl, r1, r2⟩ := r
    unfold pairsL at h
    split at h
    · rename_i z
      cases z
    · rename_i k w r0 z
      cases z
      by_cases hk : isKey k = true
      · rw [if_pos hk] at h
        cases e2 : pairsL xs with
        | none => rw [e2] at h; cases h
        | some l2 =>
          rw [e2] at h
          cases h
          obtain ⟨ps, kvs, rfl, hp, hr⟩ := pairsL_at hK e2 r2
          obtain ⟨a, ws, rfl, hs, rs⟩ := r1.tup
          obtain ⟨y1, t1, rfl, ra, t2⟩ := rs
          obtain ⟨y2, t3, rfl, rb, t4⟩ := t2
          cases t4
          obtain ⟨k', rfl, hkr⟩ := isKey_of hk ra
          exact ⟨a :: ps, (k', y2) :: kvs, rfl, .cons (by rw [hK]; exact hs) hp, k', y2, kvs, rfl, hkr, rb, hr⟩
      · rw [if_neg hk] at h
        cases h
    · cases h
theorem lc_dict (C : CtxE S X) : LCall S X W (.type "dict") dictF := by
  intro pins s σ H m mc G σL as vs us Q I p ra r q
  obtain ⟨n, rfl⟩ := dictF_one (as := as) (g := G) fun z => by rw [z] at q; exact q.elim
  have q : Post S X W m mc H σL σ (match listAt G n with | some xs => (match pairsL xs with | some l => alloc (.dic (mkD l [])) G | none => .stuck) | none => .stuck) (kE S Q) := q
  cases e1 : listAt G n with
  | none => rw [e1] at q; exact q.elim
  | some xs =>
    rw [e1] at q
    have q : Post S X W m mc H σL σ (match pairsL xs with | some l => alloc (.dic (mkD l [])) G | none => .stuck) (kE S Q) := q
    cases e2 : pairsL xs with
    | none => rw [e2] at q; exact q.elim
    | some l =>
      rw [e2] at q
      have q : Post S X W m mc H σL σ (alloc (.dic (mkD l [])) G) (kE S Q) := q
      obtain ⟨x, rfl, rx⟩ := RVs.one ra
      obtain ⟨a, ws, rfl, h1, rs⟩ := p.r.seq e1 rx
      obtain ⟨ps, kvs, rfl, hp, hr⟩ := pairsL_at C.ok.k e2 rs
      rw [← C.ok.k] at h1
      refine callw (call_dictP C.calm) I r ⟨a, ps, kvs, rfl, h1, hp, fun b hb ok => ?_⟩
      exact Post.new p C.ok.k q hb ok fun m' em kt => ⟨_, upd_same, RKs.mono em kt (RKs.merge hr rfl)⟩
end
end MP
namespace MP
open PySem PySem.Spec L2
open PyProof.Rows hiding St

/-! ### enumerate(t) of a tuple -/
set_option maxHeartbeats 1100000 in
theorem meets_enumT {v : Value} {o : Obj} {P : Heap → Prop} (B : Begins v o P) :
    Meets (Builtin.«enumerate.__new__» ⟨[.type "enumerate", v], []⟩) (fun _ R s => P s.heap ∧ R (.ok (.ret (.ref (s.heap.push o).objs.size))) { s with heap := (s.heap.push o).push { cls := .type "enumerate", data := .fields #[.none, .bool false, .ref s.heap.objs.size, rawInt 0, .none, .none] } }) :=
  .of_wp fun prog w A R s h => by
    obtain ⟨hp, gg, dd, tk, os⟩ := s
    obtain ⟨h1, h⟩ := h
    have hsub := sub_enumerate
    have q1 : ∀ {A' : Around} {E Q : Value → Shared → Prop}, Q (.ref hp.objs.size) ⟨hp.push o, gg, dd, tk, os⟩ → wpAny (model prog w) A' (pyIter v) Q E ⟨hp, gg, dd, tk, os⟩ := fun q => B.iter prog w _ _ ⟨hp, gg, dd, tk, os⟩ _ h1 q
    wp_walk using q1
    refine wpAny_stack_any fun st => wpAny_pure ?_
    split
    · rename_i c _ _ _ _ _
      cases (c == Value.type "enumerate") <;> (wp_walk using q1; exact ⟨_, rfl, h⟩)
    · wp_walk using q1
      exact ⟨_, rfl, h⟩
section
variable {P : Program} {w : World} {A : Around} {E : Value → Shared → Prop} {s : Shared}
theorem call_enumT {v : Value} {o : Obj} {B0 : Heap → Prop} {Q : Value → Shared → Prop} (B : Begins v o B0) (h1 : B0 s.heap)
    (h : ∀ h', IsEnum h' (s.heap.objs.size + 1) s.heap.objs.size 0 .none → h'.get? s.heap.objs.size = some o → h'.objs.size = s.heap.objs.size + 2 → (∀ b u, s.heap.get? b = some u → h'.get? b = some u) → Q (.ref (s.heap.objs.size + 1)) { s with heap := h' }) :
    wpAny (model P w) A (call (.type "enumerate") [v]) Q E s := by
  refine callType_new F.called_enumerate (by decide) (F.typeCall_enumerate_1 _) (F.newCall_enumerate_1 _) (fun obj => F.args_object_init_2 obj _) F.entry_enumerate_new (meets_enumT B) ⟨h1, ?_⟩
  have hz : (s.heap.push o).objs.size = s.heap.objs.size + 1 := Heap.size_push ..
  show _ ∧ _
  rw [hz]
  have he := Heap.get?_push_size (s.heap.push o) (o := { cls := .type "enumerate", data := .fields #[.none, .bool false, .ref s.heap.objs.size, rawInt 0, .none, .none] }) rfl
  rw [hz] at he
  exact ⟨⟨_, he, rfl⟩, h _ he (Heap.get?_push_of_some _ (Heap.get?_push_size _ B.free)) (by rw [Heap.size_push, hz]) fun b u x => Heap.get?_push_of_some _ (Heap.get?_push_of_some _ x)⟩
theorem enumT_end {e it a : Addr} {i : Nat} {j : Int} {arr : Array Value} {old : Value} {Q : Option Value → Shared → Prop} (hh : A.handled = none) (he : IsEnum s.heap e it j old) (hit : s.heap.IsTupleIter it a i) (ht : s.heap.IsTuple a arr) (hx : arr[i]? = none)
    (hQ : ∀ h', Heap.ExtBut it s.heap h' → Q none { s with heap := h' }) : wpAny (model P w) A (pyNext (.ref e)) Q E s := by
  have hT : s.TypeIs (.ref e) "enumerate" := ⟨_, he, rfl⟩
  unfold pyNext
  refine wpAny_bind (wpAny_attempt (wpAny_callSpecial?_slot (name := Str.ofString "__next__") hT F.slot_enumerate_next (wpAny_call_entry F.slot_enumerate_next hT F.entry_enumerate_next (show wpAny _ _ (field (.ref e) 2 >>= _) _ _ _ from ?_) (F.args_enumerate_next_1 _))))
  refine wpAny_bind (wpAny_field he rfl (x := .ref it) rfl (wpAny_bind (wpAny_nextOf_tuple_end (by simp [hh]) hit ht hx fun h' x he' hx' => ?_)))
  obtain ⟨o, ho, hc⟩ := hx'
  exact wpAny_bind (wpAny_isInstance (T := "StopIteration") (b := true) ⟨o, ho, hc⟩ isSubtype_stop (wpAny_pure (hQ _ he')))
end
theorem turn_enumT {P : Program} {w : World} {K : PySem.W.Frag} {elts : List Expr} {kk : Nat} {tpos : Pos} (a e it : Addr) :
    Turn P w K (.Tuple elts kk tpos) (ItP K a) [e, it] e (fun i h => (∃ old, IsEnum h e it ((i : Nat) : Int) old) ∧ h.IsTupleIter it a i ∧ e ≠ it) where
  mem := List.mem_cons_self
  obj := fun i h st b hb => by
    obtain ⟨⟨old, he⟩, ⟨o, ho, hc, hd⟩, _⟩ := st
    rcases List.mem_cons.mp hb with z | z
    · rw [z]
      exact ⟨_, he, fun v q => nomatch q⟩
    · exact ⟨o, by rw [List.mem_singleton.mp z]; exact ho, fun v q => by rw [hd] at q; cases q⟩
  keep := fun i h h' st k => by
    obtain ⟨⟨old, he⟩, hi, hne⟩ := st
    exact ⟨⟨old, k e (by simp) _ he⟩, hi.at fun o q => k it (by simp) o q, hne⟩
  item := by
    intro X hP hw hK hc i pins s σ H E I hf st hg
    subst hP hw hK
    obtain ⟨⟨old, he⟩, hit, hne⟩ := st
    obtain ⟨xs, x, hq, hx⟩ := hg
    obtain ⟨its, rv, p, hz⟩ := I.tuple hq
    obtain ⟨u, hu, ru⟩ := rv.get hx
    have hel : e < s.heap.objs.size := Heap.lt_size he
    have hil : it < s.heap.objs.size := by obtain ⟨_, q, _⟩ := hit; exact Heap.lt_size q
    have hli : a ≠ it := fun z => by
      obtain ⟨o1, q1, _, n1, d1⟩ := p
      obtain ⟨o2, q2, _, d2⟩ := hit
      rw [z, q2] at q1
      cases q1
      rw [d2] at d1
      cases d1
    have hea : e ≠ a := fun z => by
      obtain ⟨o1, q1, _, n1, d1⟩ := p
      rw [← z] at q1
      have he' : s.heap.get? e = some _ := he
      rw [he'] at q1
      cases q1
      cases d1
    have hi : i < its.toArray.size := by
      have := (List.getElem?_eq_some_iff.mp hu).1
      simpa using this
    refine wpAny_pyNext_enum_itemD (Draws.tuple (show X.A.in1.handled = none by simp [I.ok.hd hc]) it a hli its.toArray) he ⟨hit, p⟩ hi hne (by simp [hne, hea]) fun y h' tk hy ho hst' hT hsz hk => ?_
    have ey : y = u := by
      have hy : its.toArray[i]? = some y := hy
      have : its[i]? = some y := by simpa using hy
      rw [hu] at this
      cases this
      rfl
    subst ey
    refine ⟨_, rfl, wpAny_letOwnedTupleGo_enum (s := { s with heap := h', toks := tk + 1 }) ho fun h'' he' sb => ?_⟩
    have hT2 := (sb.2 _ (Nat.ne_of_gt hel)).trans hT
    have new : ObjOk X.prog X.w (upd H s.heap.objs.size (.frz (tupO [.int (i : Nat) tk, y]) (.tup [.int (i : Nat), x]))) h'' s.heap.objs.size (.frz (tupO [.int (i : Nat) tk, y]) (.tup [.int (i : Nat), x])) :=
      ⟨hT2, by show 2 ≤ sizeLine; decide, [.int i tk, y], .cons ⟨_, rfl⟩ (.cons ru .nil), ⟨_, hT2, rfl, _, rfl⟩⟩
    have I1 := I.turnedNew (t' := tk + 1) (ch := [e, it]) (fun b ob hb q => (sb.2 b (fun z => hb (by simp [z]))).trans (hk b ob (fun z => hb (by simp [z])) (fun z => hb (by simp [z])) q)) hf (Nat.le_refl _) new
    refine ⟨.ref s.heap.objs.size, _, I1, rfl, ⟨_, x, _, rfl, I.hok.fresh (Nat.le_refl _), rfl, rfl, fun ys hy => by rw [I.tuple_inj hy hq]; exact hx⟩, ⟨⟨y, ?_⟩, hst'.1.at fun o q => (sb.2 it (Ne.symm hne)).trans q, hne⟩, fun b hb => ?_⟩
    · have e1 : ((i + 1 : Nat) : Int) = (i : Int) + 1 := by omega
      rw [e1]; exact he'
    · have hb' : b < s.heap.objs.size := by
        rcases List.mem_cons.mp hb with z | z
        · rw [z]; exact hel
        · rw [List.mem_singleton.mp z]; exact hil
      rw [upd_ne (Nat.ne_of_lt hb')]
      exact (hf b hb).1
  done := by
    intro X hP hw hK hc i pins s σ H E I hf st hg
    subst hP hw hK
    obtain ⟨⟨old, he⟩, hit, hne⟩ := st
    obtain ⟨xs, hq, hx⟩ := hg
    obtain ⟨its, rv, p, hz⟩ := I.tuple hq
    obtain ⟨f0, f1, f2, f3, f4, f5⟩ := hf it (by simp)
    refine enumT_end (I.ok.hd hc) he hit p ?_ fun h' eb => ⟨rfl, I.turned (t' := s.toks) (fun b o hb q => eb b o hb q) f0 f1 f3 f4 f5⟩
    have hl := rv.length
    have hx : i ≥ its.length := by omega
    simp [hx]
  self := fun A i s Q E st h => let ⟨⟨_, he⟩, _⟩ := st; wpAny_pyIter_enum he h
section
variable {S : Stat} {X : Cx} {W : WX} {e : Expr} {fe : SL → GH → Res LV} {elts : List Expr} {kk : Nat} {p0 pos tpos : Pos}
def enmI (v : LV) (g : GH) : Res Itr := match v with
  | .tup xs => .ok (.enm 0 xs) g
  | _ => .stuck
theorem i_enm (C : CtxE S X) (hg : Gl X "enumerate") (hm : X.mg "enumerate" = none) (he : PE X e (tE S X W fe)) (hs : notStar e = true) : PI X (.Tuple elts kk tpos) (.Call (.Name "enumerate" p0) [e] [] pos) (tI S X W fun σ g => (fe σ g).bind fun v g => enmI v g) := by
  refine ⟨fun pins s σ H R I ⟨m, mc, G, σL, p, h⟩ => ?_⟩
  have na : starEach [e] X.env = (false, eval e X.env) :: starEach [] X.env := star_cons hs
  refine Call_ (ld_blt I hg hm boot_enumerate (PyProof.Rows.callWith_type1 (PyProof.Rows.args_cons (thn (he.run pins s σ H _ I (one p h)) fun v s1 ⟨x, H1, I1, r1, la, m1, mc1, G1, p1, ra, q⟩ => PyProof.Rows.args_nil ?_) na) na rfl))
  cases la with
  | tup xs =>
    obtain ⟨a, vs, rfl, h1, rs⟩ := ra.tup
    rw [← C.ok.k] at h1
    cases r1
    obtain ⟨its, rv, pt, hz⟩ := I1.tuple h1
    refine call_enumT (begins_tuple a its.toArray) pt fun h' he hit hsz hk => wpAny_pyIter_enum he ?_
    have I2 : Inv X pins σ H1 { s1 with heap := h' } := I1.kept (t' := s1.toks) hk
    have r0 := Post.ok p1 q (ItP X.K a) ⟨rfl, a, xs, ra, rfl, by rw [C.ok.k]⟩
    refine ⟨s1.heap.objs.size + 1, [s1.heap.objs.size + 1, s1.heap.objs.size], _, _, H1, rfl, I2, turn_enumT a (s1.heap.objs.size + 1) s1.heap.objs.size, ⟨⟨.none, he⟩, ⟨_, hit, rfl, rfl⟩, Nat.succ_ne_self _⟩, fun b hb => ?_, r0⟩
    have hle : s1.heap.objs.size ≤ b := by
      rcases List.mem_cons.mp hb with z | z
      · rw [z]; exact Nat.le_add_right _ _
      · rw [List.mem_singleton.mp z]; exact Nat.le_refl _
    exact I1.fpOk hle (I1.hok.fresh hle)
  | _ => exact q.elim
end
end MP
namespace MP
/-- a call with keywords alone, of a module function -/
def cakL (C : CallT) (oks : List Nat) (fv : LV) (as : GH → Res (List LV)) (g : GH) : Res LV := match gloOf oks fv with
  | some k => (as g).bind fun vs g => C k [] vs g
  | none => .stuck
def biF (b : Bi) : List LV → GH → Res LV := match b with
  | .sorted => srtF
  | .sortedD => srtD
  | .min => minF
  | .dict => dictF
  | b => semBi b
abbrev fuel : Nat := 1000000

/-- from an expression: its test by truth -/
def D.ex (e : CallT → SL → GH → Res LV) : D := { e := e, b := fun C σ g => (e C σ g).bind fun v g => ofO (truth g v) g }
/-- a bool -/
def D.bo (b : CallT → SL → GH → Res Bool) : D := { e := fun C σ g => (b C σ g).bind fun v g => .ok (.bl v) g, b := b }
def bindA (a : D) (f : List LV → GH → Res LV) : CallT → SL → GH → Res LV := fun C σ g => (a.a C σ g).bind f
/-- the fold -/
noncomputable def den (t : T) : D := T.rec (motive := fun _ => D)
  (fun i => D.ex fun _ σ g => ofO (slot σ i) g)                                                             -- var
  (fun i => D.ex fun _ σ g => ofO (cellRd g (slot σ i)) g)                        -- cvar
  (fun k => D.ex fun _ _ g => .ok (.glo k) g)                                     -- glo
  (fun v => D.ex fun _ _ g => .ok v g)                                            -- lit
  (fun _ a => D.ex (bindA a fun vs g => if lenOk vs then .ok (.tup vs) g else .stuck))                         -- tup
  (fun _ a => D.ex (bindA a fun vs g => if lenOk vs then alloc (.lst vs) g else .stuck))                       -- lst
  (fun _ a => D.ex fun C σ g => (alloc (.dic []) g).bind fun d g1 => (a.a C σ g1).bind fun vs g2 => match pairUp vs, g2.t.get g.size with
    | some ps, some (.dic []) => if decide (ps.length ≤ 15) then (store g.size (.dic (mkD ps [])) g2).bind fun _ g3 => .ok d g3 else .stuck
    | _, _ => .stuck)   -- dct
  { a := fun _ _ g => .ok [] g, s := fun _ σ g => .ok (.nx, σ) g, tg := fun _ v σ g => match v with | .tup [] => .ok σ g | _ => .stuck }       -- nil
  (fun _ _ a b => { a := fun C σ g => (a.e C σ g).bind fun v g => (b.a C σ g).bind fun vs g => .ok (v :: vs) g
                    s := fun C σ g => (a.s C σ g).bind fun r g => match r with | (.nx, σ) => b.s C σ g | r => .ok r g
                    tg := fun C v σ g => match v with | .tup (x :: xs) => (a.tg C x σ g).bind fun σ g => b.tg C (.tup xs) σ g | _ => .stuck })     -- cons
  (fun op _ _ a b => D.ex fun C σ g => (a.e C σ g).bind fun x g => (b.e C σ g).bind fun y g => semBin op x y g)    -- bin
  (fun _ a => D.ex fun C σ g => (a.e C σ g).bind fun x g => match x with | .int i => .ok (.int (-i)) g | _ => .stuck)   -- neg
  (fun _ a => { e := fun C σ g => (a.e C σ g).bind fun v g => (ofO (truth g v) g).bind fun b g => .ok (.bl (!b)) g, b := fun C σ g => (a.b C σ g).bind fun b g => .ok (!b) g })            -- no
  (fun _ _ a b => { e := fun C σ g => (a.e C σ g).bind fun x g => match x with | .bl true => b.e C σ g | .bl false => .ok (.bl false) g | _ => .stuck
                    b := fun C σ g => (a.b C σ g).bind fun x g => match x with | true => b.b C σ g | false => .ok false g })   -- and
  (fun _ _ a b => { e := fun C σ g => (a.e C σ g).bind fun x g => match x with | .bl true => .ok (.bl true) g | .bl false => b.e C σ g | _ => .stuck
                    b := fun C σ g => (a.b C σ g).bind fun x g => match x with | true => .ok true g | false => b.b C σ g })   -- or
  (fun op _ _ a b => D.bo fun C σ g => (a.e C σ g).bind fun x g => (b.e C σ g).bind fun y g => ofO (semCmp op x y g) g)    -- cmp
  (fun p q _ _ _ a b c => D.bo fun C σ g => (a.e C σ g).bind fun x g => (b.e C σ g).bind fun y g => (ofO (semCmp p x y g) g).bind fun t g => match t with
    | true => (c.e C σ g).bind fun z g => ofO (semCmp q y z g) g
    | false => .ok false g)                                                     -- chn
  (fun _ _ _ c a b => { e := fun C σ g => (c.b C σ g).bind fun x g => match x with | true => a.e C σ g | false => b.e C σ g
                        b := fun C σ g => (c.b C σ g).bind fun x g => match x with | true => a.b C σ g | false => b.b C σ g })   -- ife
  (fun _ _ a b => D.ex fun C σ g => (a.e C σ g).bind fun x g => (b.e C σ g).bind fun y g => ofO (semIx x y g) g)    -- ix
  (fun _ _ _ a l h => D.ex fun C σ g => (a.e C σ g).bind fun x g => ((l.e C σ g).bind fun y g => ofO (part y) g).bind fun lo g => ((h.e C σ g).bind fun z g => ofO (part z) g).bind fun hi g => semSl x lo hi g)   -- sl
  (fun p k _ a => D.ex fun C σ g => (a.a C σ g).bind fun vs g => pC p C k [] vs g)        -- cal
  (fun p _ _ f a => D.ex fun C σ g => (f.e C σ g).bind fun fv g => if isFn g fv then (a.a C σ g).bind fun vs g => appF (pC p C) fv vs g else .stuck)      -- cav
  (fun p oks _ _ f a => D.ex fun C σ g => (f.e C σ g).bind fun fv g => cakL (pC p C) oks fv (a.a C σ) g)     -- cak
  (fun b _ a => D.ex fun C σ g => (a.a C σ g).bind fun vs g => biF b vs g)       -- bi
  (fun c _ a => D.ex fun C σ g => (a.e C σ g).bind fun v g => (ofO (semIs c v g) g).bind fun b g => .ok (.bl b) g)       -- isi
  (fun l _ a => D.ex fun C σ g => (a.e C σ g).bind fun x g => match x with | .int i => semRg l 0 i g | _ => .stuck)       -- rg1
  (fun l _ _ a b => D.ex fun C σ g => (a.e C σ g).bind fun x g => (b.e C σ g).bind fun y g => match x, y with | .int i, .int j => semRg l i j g | _, _ => .stuck)       -- rg2
  (fun _ a => D.ex fun C σ g => (a.e C σ g).bind fun x g => srsF x g)       -- srs
  (fun m _ _ o a => D.ex fun C σ g => (o.e C σ g).bind fun x g => if recv m g x then (a.a C σ g).bind fun vs g => semMt m x vs g else .stuck)     -- mt
  (fun k cs => D.ex fun _ σ g => match cellsOf σ cs with | some ns => alloc (.clo k ns) g | none => .stuck)    -- lam
  (fun own hid _ _ _ _ tg it c e => D.ex fun C σ g => (it.i C σ g).bind fun itr g => lcD C tg.tg c.b e.e own hid fuel itr σ g)    -- lc
  (fun _ e => { i := fun C σ g => (e.e C σ g).bind fun v g => valI v g })         -- itv
  (fun _ a => { i := fun C σ g => (a.e C σ g).bind fun v g => rngI1 v g })       -- itr
  (fun _ _ a b => { i := fun C σ g => (a.e C σ g).bind fun v g => (b.e C σ g).bind fun w g => rngI2 v w g })       -- itr2
  (fun _ e => { i := fun C σ g => (e.e C σ g).bind fun v g => enmI v g })   -- ite
  (fun i => { tg := fun _ v σ g => .ok (σ.set i (some v)) g })                    -- tgv
  (fun i => { tg := fun _ v σ g => match slot σ i with | some (.loc n) => .ok σ ⟨g.size, g.t, g.cn, cPut n v g.cs⟩ | _ => .stuck })    -- tgc
  (fun n _ a => { tg := fun C v σ g => match v with | .tup xs => if xs.length == n then a.tg C (.tup xs) σ g else .stuck | _ => .stuck })                              -- tgt
  (fun _ _ a b => { tg := fun C v σ g => (a.e C σ g).bind fun x g => (b.e C σ g).bind fun y g => (setI x y v g).bind fun _ g => .ok σ g })   -- tgi
  (fun _ _ tg e => { s := fun C σ g => (e.e C σ g).bind fun v g => (tg.tg C v σ g).bind fun σ g => .ok (.nx, σ) g })   -- asg
  (fun _ e => { s := fun C σ g => (e.e C σ g).bind fun _ g => .ok (.nx, σ) g })    -- exs
  (fun _ e => { s := fun C σ g => (e.e C σ g).bind fun v g => .ok (.rt v, σ) g })  -- ret
  (fun _ _ _ c a b => { s := fun C σ g => (c.b C σ g).bind fun x g => match x with | true => a.s C σ g | false => b.s C σ g })   -- iff
  (fun _ _ c a => { s := fun C σ g => whlL C c.b a.s fuel σ g })                   -- whl
  (fun _ _ _ tg it a => { s := fun C σ g => (it.i C σ g).bind fun itr g => forL C tg.tg a.s fuel itr σ g })   -- fr
  (fun k => { s := fun _ _ g => .exn k g })                                       -- rai
  (fun oks i j _ a => { s := fun C σ g => tryL oks i j (a.e C) σ g })                  -- try_
  { s := fun _ σ g => .ok (.nx, σ) g }                                            -- pas
  t

noncomputable def callF (cs : List Code) : Nat → CallT
  | 0 => fun _ _ _ _ => .stuck
  | n + 1 => fun k caps args g => match cs[k]? with
    | none => .stuck
    | some c => if args.length = c.np ∧ caps.length = c.nc then
        (match mkCells c.cells (args.map some ++ (caps.map (fun n => some (.loc n)) ++ List.replicate (c.ns - c.np - c.nc) none)) g with
        | (σ, g1) => (match (den c.body).s (callF cs n) σ g1 with
          | .ok (.nx, _) g2 => .ok .non ⟨g2.size, g2.t, g2.cn, g.cs⟩
          | .ok (.rt v, _) g2 => .ok v ⟨g2.size, g2.t, g2.cn, g.cs⟩
          | .ok _ _ => .stuck
          | .exn k g2 => .exn k ⟨g2.size, g2.t, g2.cn, g.cs⟩
          | .stuck => .stuck))
      else .stuck
end MP
namespace MP
open PySem L2
open PyProof.Rows hiding St

/-- an expression's body: what it returns -/
def retOf (r : Res (Fl × SL)) : Res LV := r.bind fun x g => match x.1 with
  | .rt v => .ok v g
  | _ => .stuck
/-- a code's body is read rightly -/
def BodyOk (S : Stat) (P : Program) (w : World) (mg : Str → Option Value) (base : Heap) (d : Nat) (C : CallT) (k : Nat) (cd : Code) : Prop :=
  ∀ (cl : List (Str × Addr)) (f c : Addr) (A : Around) (outer : List Env) (s : Shared) (H : Hp) (E : XK), (∀ c0, S.cc k = some c0 → c = c0) → Ctx S (kcx P w S.K mg base (S.cs k) cl f c A outer s H E) (fun cls dd _ H' => E cls dd H') d C →
    match (S.cs k).body with
    | .stmts b => PSs (kcx P w S.K mg base (S.cs k) cl f c A outer s H E) b (tS S (kcx P w S.K mg base (S.cs k) cl f c A outer s H E) (fun cls dd _ H' => E cls dd H') ((den cd.body).s C))
    | .expr e => (∃ t, cd.body = .ret t) ∧ PE (kcx P w S.K mg base (S.cs k) cl f c A outer s H E) e (tE S (kcx P w S.K mg base (S.cs k) cl f c A outer s H E) (fun cls dd _ H' => E cls dd H') fun σ G => retOf ((den cd.body).s C σ G))
theorem callF_cs (cs : List Code) : ∀ (d k : Nat) (ns : List Nat) (args : List LV) (G : GH), (∀ v G', callF cs d k ns args G = .ok v G' → G'.cs = G.cs) ∧ ∀ n G', callF cs d k ns args G = .exn n G' → G'.cs = G.cs
  | 0, k, ns, args, G => ⟨fun _ _ h => (nomatch h), fun _ _ h => (nomatch h)⟩
  | d + 1, k, ns, args, G => by
    unfold callF
    constructor
    · intro v G' h
      split at h
      · cases h
      · split at h
        · split at h
          split at h <;> cases h <;> rfl
        · cases h
    · intro v G' h
      split at h
      · cases h
      · split at h
        · split at h
          split at h <;> cases h <;> rfl
        · cases h
section
variable {S : Stat} {P : Program} {w : World} {mg : Str → Option Value} {base : Heap} {cs : List Code}
theorem sound0 : Sound S P w mg base 0 (callF cs 0) := ⟨callF_cs cs 0, fun _ _ _ _ h => absurd rfl h, fun k ns args G A outer s H f c cl od fd slo us vs ar m mc Q E _ _ _ _ _ _ _ _ _ _ _ _ h => h.elim⟩
theorem Rel.out {v : Addr → Prop} {m mc : Mp} {G : GH} {H : Hp} {l : List (Nat × Option LV)} (R : Rel S v m mc G H) : RelO S m mc ⟨G.size, G.t, G.cn, l⟩ H := ⟨R.o.obj, R.o.inj, R.o.dom, R.o.siz, R.o.tab, R.o.cdom, R.o.frz, R.o.frm⟩
theorem retOf_cases {r : Res (Fl × SL)} {α : Res LV → Prop} (hok : ∀ v σ g, r = .ok (.rt v, σ) g → α (.ok v g)) (he : ∀ n g, r = .exn n g → α (.exn n g)) (hs : α .stuck) : α (retOf r) := by
  cases r with
  | ok a g =>
    obtain ⟨fl, σ⟩ := a
    cases fl with
    | rt v => exact hok v σ g rfl
    | _ => exact hs
  | exn n g => exact he n g rfl
  | stuck => exact hs
theorem sound_step {d : Nat} (hg : ∀ k, S.gf k = true → GloFn S k) (ht : ∀ k c0, S.cc k = some c0 → ∃ P, LamX.TabB base mg c0 P ∧ (P, S.nm k) ∈ S.T ∧ ∀ p ∈ S.T, p.1 = P → p.2 = S.nm k) (hS : ∀ F, Sound (S.wF F) P w mg base d (callF cs d)) (hb : ∀ k cd, cs[k]? = some cd → CodeOk (S.cs k) cd ∧ BodyOk S P w mg base d (callF cs d) k cd) : Sound S P w mg base (d + 1) (callF cs (d + 1)) := by
  refine ⟨callF_cs cs (d + 1), fun k ns args G h => ?_, fun k ns args G A outer s H f c cl od fd slo us vs ar m mc Q E room gd e0 ho ic hcr hc vc bt r ra R h => ?_⟩
  · unfold callF at h
    cases ek : cs[k]? with
    | none => rw [ek] at h; exact absurd rfl h
    | some cd =>
      rw [ek] at h
      obtain ⟨KO, _⟩ := hb k cd ek
      dsimp only at h
      by_cases hl : args.length = cd.np ∧ ns.length = cd.nc
      · exact ⟨KO.sc, hl.1.trans KO.np⟩
      · rw [if_neg hl] at h
        exact absurd rfl h
  unfold callF at h
  cases ek : cs[k]? with
  | none => rw [ek] at h; exact h.elim
  | some cd =>
    rw [ek] at h
    obtain ⟨KO, BO⟩ := hb k cd ek
    dsimp only at h
    by_cases hl : args.length = cd.np ∧ ns.length = cd.nc
    · rw [if_pos hl] at h
      obtain ⟨ws, hk, hw⟩ := capK_of (C := S.cs k) hc fun b n ov h1 h2 h3 => by
        obtain ⟨z1, _, _, o, cv, z2, z3, z4⟩ := vc b n ov h1 h2 h3
        exact ⟨z1, o, cv, z2, z3, z4⟩
      have M := mk_entry (mg := mg) (base := base) (f := f) (c := c) (A := A) (outer := outer) (E := E) KO hk e0.hok hl.1 hc R ra (fun b n ov h1 h2 h3 => by
        obtain ⟨_, _, _, o, _, z2, _⟩ := vc b n ov h1 h2 h3
        exact ⟨o, z2⟩) hw
      have lvs : vs.length = (S.cs k).ps.length := by rw [← ra.length, hl.1, KO.np]
      have capb : ∀ b, capt cl b → base.get? b = none ∧ b ∉ frs outer := fun b hb => by
        obtain ⟨n, ov, _, h1, h2⟩ := hc.at_ hb
        obtain ⟨_, z1, z2, _⟩ := vc b n ov hb h1 h2
        exact ⟨z1, z2⟩
      refine enterK (E := E) KO.sc (room.mono (Nat.le_succ _)).depth room.hd e0 hk ho ic hcr bt r lvs fun s1 I1 => ?_
      have T : Ctx S (kcx P w S.K mg base (S.cs k) cl f c A outer s H E) (fun cls dd _ H' => E cls dd H') d (callF cs d) :=
        ⟨ctxK KO.sc e0 hk rfl (fun b hb => (capb b hb).1) (fun b hb => (capb b hb).2), rfl, takes_of rfl rfl rfl rfl, passes_of rfl, room.deeper _, gd, hg, ht, hS⟩
      obtain ⟨mc', ec, R', Q'⟩ := mkCells_ok (X := kcx P w S.K mg base (S.cs k) cl f c A outer s H E) KO.sc.nd I1.ok.inj (fun x e => I1.ok.has x (.inl e)) (fun b hb => vis_none I1 hb) cd.cells mc G _ KO.cnd KO.cel M
      have body := BO cl f c A outer s H E ic.cc T
      generalize hmk : mkCells cd.cells (args.map some ++ (ns.map (fun n => some (LV.loc n)) ++ List.replicate (cd.ns - cd.np - cd.nc) none)) G = σg at h R' Q'
      obtain ⟨σL, g1⟩ := σg
      dsimp only at h R' Q'
      have P0 : Pre S (kcx P w S.K mg base (S.cs k) cl f c A outer s H E) m mc' g1 H σL (vs.map some ++ (ws ++ List.replicate ((S.cs k).N.length - (S.cs k).ps.length - ws.length) none)) := ⟨R', Q'⟩
      -- what is wanted of the end
      have fin : ∀ {σ' : L2.St} {H' : Hp} {v : V} {u : Value} {s' : Shared}, Inv (kcx P w S.K mg base (S.cs k) cl f c A outer s H E) [] σ' H' s' → L2.RelV v u → Q v H' → CE outer P w H s Q u s' :=
        fun {σ' H' v u s'} J rv q => ⟨v, H', J.os, J.bare, J.base, J.hok, rv, q⟩
      cases hbd : (S.cs k).body with
      | stmts b =>
        rw [hbd] at body
        refine wpAny_mono (body.run [] s1 _ H { nx := fun _ H' => Q .non H', rt := Q } I1 ⟨m, mc', g1, σL, P0, ?_⟩) (fun fl s' hs => ?_) fun e s' hs => hs
        · generalize (den cd.body).s (callF cs d) σL g1 = res at h
          cases res with
          | ok a G' =>
            obtain ⟨fl, σL'⟩ := a
            intro m' mc2 H' σ' x1 x2 kp r' q'
            cases fl with
            | nx => exact h m' mc2 H' .non x1 (ec.trans x2) kp r'.out rfl
            | rt v => exact fun x rv => h m' mc2 H' x x1 (ec.trans x2) kp r'.out rv
            | bk => exact h.elim
            | ct => exact h.elim
          | exn n G' => exact fun m' mc2 H' σ' x1 x2 kp r' => h m' mc2 H' x1 (ec.trans x2) kp r'.out
          | stuck => exact h.elim
        · cases fl with
          | ret u =>
            obtain ⟨v, σ', H', J, rv, q⟩ := hs
            exact fin J rv q
          | next =>
            obtain ⟨σ', H', J, q⟩ := hs
            exact fin (v := V.non) (u := Value.none) J rfl q
          | brk =>
            obtain ⟨_, _, _, q⟩ := hs
            exact False.elim q
          | cont =>
            obtain ⟨_, _, _, q⟩ := hs
            exact False.elim q
      | expr e =>
        rw [hbd] at body
        obtain ⟨⟨tt, et⟩, body⟩ := body
        have nnx : ∀ σ' g', (den cd.body).s (callF cs d) σL g1 ≠ .ok (.nx, σ') g' := fun σ' g' z => by
          rw [et] at z
          have z : ((den tt).e (callF cs d) σL g1).bind (fun v g => .ok (Fl.rt v, σL) g) = Res.ok (Fl.nx, σ') g' := z
          cases q : (den tt).e (callF cs d) σL g1 <;> rw [q] at z <;> cases z
        refine wpAny_mono (body.run [] s1 _ H Q I1 ⟨m, mc', g1, σL, P0, ?_⟩) (fun u s' hs => ?_) fun e s' hs => hs
        · show Post _ _ _ _ _ _ _ _ (retOf ((den cd.body).s (callF cs d) σL g1)) _
          generalize (den cd.body).s (callF cs d) σL g1 = res at h nnx ⊢
          cases res with
          | ok a G' =>
            obtain ⟨fl, σL'⟩ := a
            cases fl with
            | nx => exact absurd rfl (nnx σL' G')
            | rt v => intro m' mc2 H' x1 x2 kp r' q' x rv; exact h m' mc2 H' x x1 (ec.trans x2) kp (Rel.out r') rv
            | bk => exact h.elim
            | ct => exact h.elim
          | exn n G' => intro m' mc2 H' x1 x2 kp r' q'; exact h m' mc2 H' x1 (ec.trans x2) kp (Rel.out r')
          | stuck => exact h.elim
        · obtain ⟨v, H', J, rv, q⟩ := hs
          exact fin J rv q
    · rw [if_neg hl] at h
      exact h.elim
theorem glo_wF {F : Hp} {k : Nat} (h : GloFn S k) : GloFn (S.wF F) k := by
  obtain ⟨od, fd, slo, c, e, ic, h1, h2⟩ := h
  exact ⟨od, fd, slo, c, e, ⟨ic.qual, ic.params, ic.body, ic.scope, ic.glob, ic.clo, ic.dfl, ic.code, ic.blt, ic.cc⟩, h1, h2⟩
theorem sound_all (hb : ∀ F d k cd, cs[k]? = some cd → CodeOk (S.cs k) cd ∧ BodyOk (S.wF F) P w mg base d (callF cs d) k cd) (hg : ∀ k, S.gf k = true → GloFn S k) (ht : ∀ k c0, S.cc k = some c0 → ∃ P, LamX.TabB base mg c0 P ∧ (P, S.nm k) ∈ S.T ∧ ∀ p ∈ S.T, p.1 = P → p.2 = S.nm k) : ∀ d F, Sound (S.wF F) P w mg base d (callF cs d)
  | 0, F => sound0
  | d + 1, F => sound_step (S := S.wF F) (fun k h => glo_wF (hg k h)) ht (fun F' => sound_all hb hg ht d F') fun k cd e => hb F d k cd e
end
/-! ### calls that give data for data: in a heap of their own -/
section
variable {S S' : Stat} {m m' : Mp} {H H' : Hp}
mutual
theorem RV.data (h1 : S'.ga = S.ga) (h2 : S'.gf = S.gf) (kt : KeepT H H') : ∀ {v : LV} {x : V}, pureV v = true → RV S m H v x → RV S' m' H' v x
  | .non, _, _, h => h
  | .bl _, _, _, h => h
  | .int _, _, _, h => h
  | .str _, _, _, h => h
  | .rep _, _, _, h => h
  | .glo k, _, _, h => by
    obtain ⟨e, g⟩ := h
    exact ⟨by rw [h1]; exact e, by rw [h2]; exact g⟩
  | .loc _, _, p, _ => by cases p
  | .tup xs, _, p, h => by
    obtain ⟨a, vs, o, e, ⟨q1, q2⟩, r⟩ := h
    exact ⟨a, vs, o, e, ⟨kt _ _ _ q1, q2⟩, RVs.data h1 h2 kt p r⟩
theorem RVs.data (h1 : S'.ga = S.ga) (h2 : S'.gf = S.gf) (kt : KeepT H H') : ∀ {v : List LV} {x : List V}, pureVs v = true → RVs S m H v x → RVs S' m' H' v x
  | [], _, _, h => h
  | x :: xs, _, p, h => by
    obtain ⟨v, r, e, q1, q2⟩ := h
    have p : (pureV x && pureVs xs) = true := p
    rw [Bool.and_eq_true] at p
    exact ⟨v, r, e, RV.data h1 h2 kt p.1 q1, RVs.data h1 h2 kt p.2 q2⟩
end
theorem RO.kept {mc : Mp} (k : Keep H H') (hs : ∀ a o, H a = some o → LD o → H' a = some o) {a : Addr} : ∀ {o : GO}, RO S m mc H a o → RO S m mc H' a o
  | .lst _, h => by
    obtain ⟨vs, e, r⟩ := h
    exact ⟨vs, hs _ _ e trivial, RVs.mono (Ext.refl m) k.t r⟩
  | .fro _, h => by
    obtain ⟨vs, e, r⟩ := h
    refine ⟨vs, ?_, RVs.mono (Ext.refl m) k.t r⟩
    rcases e with e | ⟨o, e⟩
    · exact .inl (hs _ _ e trivial)
    · exact .inr ⟨o, k _ _ e trivial⟩
  | .dic _, h => by
    obtain ⟨vs, e, r⟩ := h
    exact ⟨vs, hs _ _ e trivial, RKs.mono (Ext.refl m) k.t r⟩
  | .set _, h => h
  | .clo _ _, h => by
    obtain ⟨od, sl, fd, cl, c, e, i, ec', cp⟩ := h
    exact ⟨od, sl, fd, cl, c, k _ _ e trivial, i, k _ _ ec' trivial, cp⟩
  | .exc _, h => k _ _ h trivial
end
/-- what is soft of a heap -/
noncomputable def softP (H : Hp) : Hp := fun a => match H a with
  | some (.lst xs) => some (.lst xs)
  | some (.dK xs) => some (.dK xs)
  | _ => none
theorem softP_at {H : Hp} {a : Addr} {o : HO} (h : softP H a = some o) : H a = some o ∧ LD o := by
  unfold softP at h
  split at h
  · rename_i e
    cases h
    exact ⟨e, trivial⟩
  · rename_i e
    cases h
    exact ⟨e, trivial⟩
  · cases h
theorem softP_of {H : Hp} {a : Addr} {o : HO} (h : H a = some o) (l : LD o) : softP H a = some o := by
  unfold softP
  cases o <;> first | exact l.elim | (rw [h])
theorem Sound.pure {S : Stat} {P : Program} {w : World} {mg : Str → Option Value} {base : Heap} {d : Nat} {C : CallT} (hS : ∀ F, Sound (S.wF F) P w mg base d C) : Sound S P w mg base d (CP C) := by
  have h0 : Sound S P w mg base d C := hS S.F
  refine ⟨fun k ns args G => ?_, fun k ns args G h => ?_, fun k ns args G A outer s H f c cl od fd slo us vs ar m mc Q E room gd e0 ho ic hcr hc vc bt r ra R h => ?_⟩
  · cases ns with
    | cons n ns => exact h0.cs k (n :: ns) args G
    | nil =>
      constructor
      · intro v G' e
        have e : callP C k args G = .ok v G' := e
        unfold callP at e
        split at e
        · split at e
          · split at e
            · cases e; rfl
            · cases e
          · cases e
          · cases e
        · cases e
      · intro n G' e
        have e : callP C k args G = .exn n G' := e
        unfold callP at e
        split at e
        · split at e
          · split at e <;> cases e
          · cases e; rfl
          · cases e
        · cases e
  · cases ns with
    | cons n ns => exact h0.ok k (n :: ns) args G h
    | nil =>
      refine h0.ok k [] args gE fun z => h ?_
      show callP C k args G = .stuck
      unfold callP
      rw [z]
      split <;> rfl
  · cases ns with
    | cons n ns => exact h0.run k (n :: ns) args G A outer s H f c cl od fd slo us vs ar m mc Q E room gd e0 ho ic hcr hc vc bt r ra R h
    | nil =>
      have h : (match callP C k args G with
        | .ok v G' => ∀ m' mc' H' x, Ext m m' → Ext mc mc' → Keep H H' → RelO S m' mc' G' H' → RV S m' H' v x → Q x H'
        | .exn n G' => ∀ m' mc' H', Ext m m' → Ext mc mc' → Keep H H' → RelO S m' mc' G' H' → E (.ref (S.xa n)) none H'
        | .stuck => False) := h
      unfold callP at h
      by_cases hp : pureVs args = true
      · rw [if_pos hp] at h
        have fr0 : (S.cs k).fr = [] := List.length_eq_zero_iff.mp hc.caps.len.symm
        have nocap : ∀ b, ¬ capt cl b := fun b ⟨y, e⟩ => by
          have := hc.caps.only y b e
          rw [fr0] at this
          cases this
        have R0 : Rel (S.wF (softP H)) (capt cl) (fun _ => none) (fun _ => none) gE H :=
          ⟨⟨fun n o e => (nomatch e), fun _ _ _ e => (nomatch e), fun _ _ e => (nomatch e), fun n _ => rfl, R.o.tab, fun _ _ e => (nomatch e), fun a o e => softP_at e, fun _ _ e => (nomatch e)⟩, ⟨fun n ov e => (nomatch e), fun _ _ _ _ _ e => (nomatch e)⟩⟩
        -- the caller's objects stand as they stood
        have back : ∀ {m2 mc2 : Mp} {G2 : GH} {H2 : Hp}, Keep H H2 → RelO (S.wF (softP H)) m2 mc2 G2 H2 → RelO S m mc G H2 := fun {m2 mc2 G2 H2} kp R2 => by
          have hs : ∀ a o, H a = some o → LD o → H2 a = some o := fun a o e l => (R2.frz a o (softP_of e l)).1
          refine ⟨fun n o e => ?_, R.o.inj, R.o.dom, R.o.siz, R2.tab, R.o.cdom, fun a o e => ?_, R.o.frm⟩
          · obtain ⟨a, z1, z2⟩ := R.o.obj n o e
            exact ⟨a, z1, RO.kept kp hs z2⟩
          · obtain ⟨z1, z2⟩ := R.o.frz a o e
            exact ⟨hs a o z1 z2, z2⟩
        refine (hS (softP H)).run k [] args gE A outer s H f c cl od fd slo us vs ar (fun _ => none) (fun _ => none) Q E room gd e0 ho ⟨ic.qual, ic.params, ic.body, ic.scope, ic.glob, ic.clo, ic.dfl, ic.code, ic.blt, ic.cc⟩ hcr
          ⟨⟨hc.caps.len, fun i y n _ e => by simp at e, hc.caps.only, hc.caps.inj, hc.caps.uni⟩, fun j hj => absurd hj (by simp)⟩ (fun b n ov z => absurd z (nocap b)) bt r (RVs.data (S := S) (S' := S.wF (softP H)) (m := m) (m' := fun _ => none) rfl rfl (fun _ _ _ e => e) hp ra) R0 ?_
        cases ec : C k [] args gE with
        | ok v g2 =>
          rw [ec] at h
          intro m' mc' H' x _ _ kp R2 rv
          by_cases hv : pureV v = true
          · have h : (match (if pureV v = true then Res.ok v G else .stuck) with
              | .ok v G' => ∀ m' mc' H' x, Ext m m' → Ext mc mc' → Keep H H' → RelO S m' mc' G' H' → RV S m' H' v x → Q x H'
              | .exn n G' => ∀ m' mc' H', Ext m m' → Ext mc mc' → Keep H H' → RelO S m' mc' G' H' → E (.ref (S.xa n)) none H'
              | .stuck => False) := h
            rw [if_pos hv] at h
            exact h m mc H' x (Ext.refl m) (Ext.refl mc) kp (back kp R2) (RV.data (S := S.wF (softP H)) (S' := S) (m := m') (m' := m) rfl rfl (fun _ _ _ e => e) hv rv)
          · have h : (match (if pureV v = true then Res.ok v G else .stuck) with
              | .ok v G' => ∀ m' mc' H' x, Ext m m' → Ext mc mc' → Keep H H' → RelO S m' mc' G' H' → RV S m' H' v x → Q x H'
              | .exn n G' => ∀ m' mc' H', Ext m m' → Ext mc mc' → Keep H H' → RelO S m' mc' G' H' → E (.ref (S.xa n)) none H'
              | .stuck => False) := h
            rw [if_neg hv] at h
            exact h.elim
        | exn n g2 =>
          rw [ec] at h
          intro m' mc' H' _ _ kp R2
          exact h m mc H' (Ext.refl m) (Ext.refl mc) kp (back kp R2)
        | stuck =>
          rw [ec] at h
          exact h.elim
      · rw [if_neg hp] at h
        exact h.elim
theorem Ctx.cp {S : Stat} {X : Cx} {W : WX} {d : Nat} {C : CallT} (T : Ctx S X W d C) : Ctx S X W d (CP C) :=
  ⟨T.ok, T.calm, T.tk, T.own, T.room, T.gd, T.glo, T.tab, fun F => Sound.pure fun F' => T.sndA F'⟩
end MP
namespace MP
open PySem PySem.Spec L2
open PyProof.Rows hiding St

/-! ### the rules by the IR -/
structure Tabs where
  gt : List (Str × Nat)
  bt : List Str
  it : List (Str × Int)
  xt : List (Str × Nat)
  ex : List (Nat × Nat)
/-- what the module's names are -/
structure MdOk (S : Stat) (B : Tabs) (mg : Str → Option Value) : Prop where
  fn : ∀ x k, B.gt.lookup x = some k → mg x = some (.ref (S.ga k)) ∧ S.gf k = true
  kp : ∀ k, S.gf k = true → PySem.W.keepIn S.K (.ref (S.ga k)) = true
  bt : ∀ x, B.bt.contains x = true → mg x = none
  it : ∀ x i, B.it.lookup x = some i → ∃ t, mg x = some (.int i t)
  xt : ∀ x k, B.xt.lookup x = some k → mg x = some (.ref (S.xa k))
  xo : ∀ k, k < B.xt.length → XOk S k ∧ XRai S k
  ex : ∀ p, B.ex.contains p = true → PySem.W.exmOne S.K (.ref (S.xa p.1)) (.ref (S.xa p.2)) = some true
structure Cy (S : Stat) (B : Tabs) (X : Cx) (W : WX) (d : Nat) (C : CallT) : Prop where
  t : Ctx S X W d C
  m : MdOk S B X.mg
theorem Ctx.pc {S : Stat} {X : Cx} {W : WX} {d : Nat} {C : CallT} (T : Ctx S X W d C) : ∀ p, Ctx S X W d (pC p C)
  | true => T.cp
  | false => T
section
variable (S : Stat) (X : Cx) (W : WX) (C : CallT)
def RE (e : Expr) (t : T) : Prop := PE X e (tE S X W ((den t).e C))
def RB (e : Expr) (t : T) : Prop := PT X e (tB S X W ((den t).b C))
def RW (e : Expr) (t : T) : Prop := PW X e (tB S X W ((den t).b C))
def RA (es : List Expr) (t : T) : Prop := PA X es (tA S X W ((den t).a C))
def RK (es : List Keyword) (t : T) : Prop := PK X es (tA S X W ((den t).a C))
def RI (tg e : Expr) (t : T) : Prop := PI X tg e (tI S X W ((den t).i C))
def RG (e : Expr) (t : T) : Prop := PG X e (tG S X W ((den t).tg C))
def RGs (e : List Expr) (t : T) : Prop := PGs X e (tGs S X W ((den t).tg C))
def RT (e : List Expr) (t : T) : Prop := PTs X e (tB S X W ((den t).b C))
def RS (st : Stmt) (t : T) : Prop := PS X st (tX S X W ((den t).s C))
def RL (sts : List Stmt) (t : T) : Prop := PSs X sts (tX S X W ((den t).s C))
/-- pairs of a display -/
def RD (ks : List (Option Expr)) (vs : List Expr) (t : T) : Prop := JD S X W ((den t).a C) ks vs
end
def binA : BOp → Operator
  | .add => .Add | .sub => .Sub | .mul => .Mult | .fdiv => .FloorDiv | .mod => .Mod | .pow => .Pow
def cmpA : COp → CmpOp
  | .eq => .Eq | .ne => .NotEq | .lt => .Lt | .le => .LtE | .gt => .Gt | .ge => .GtE | .is => .Is | .isn => .IsNot | .inn => .In | .nin => .NotIn
section
variable {S : Stat} {X : Cx} {W : WX} {d : Nat} {C : CallT} {B : Tabs} {pos p0 p1 p2 p3 : Pos} {a b c e : Expr} {es : List Expr} {t ta tb tc : T}
theorem lop_bin (E : CtxE S X) : ∀ op : BOp, LOp S X W (binaryOp (binA op)) (semBin op)
  | .add => lop_add E | .sub => lop_sub | .mul => lop_mul E | .fdiv => lop_fdiv | .mod => lop_mod | .pow => lop_pow
theorem lb_same {g g' : LV → LV → GH → Option Bool} {o : Value → Value → Sem Value} (h : LOp S X W o (lb g)) (e : g = g') : LOp S X W o (lb g') := e ▸ h
theorem lop_cmp (E : CtxE S X) : ∀ op : COp, LOp S X W (compareOp (cmpA op)) (lb (semCmp op))
  | .eq => lop_eq E | .ne => lop_ne E | .lt => lop_lt | .le => lop_le | .gt => lop_gt | .ge => lop_ge
  | .is => lb_same (lop_is false) (funext fun a => funext fun b => funext fun g => by
      show (match isL a b with | some k => some (false ^^ k) | none => none) = isL a b
      cases isL a b <;> simp)
  | .isn => lb_same (lop_is true) (funext fun a => funext fun b => funext fun g => by
      show (match isL a b with | some k => some (true ^^ k) | none => none) = notO (isL a b)
      cases isL a b <;> simp [notO])
  | .inn => lb_same (lop_in E false) (funext fun a => funext fun b => funext fun g => by
      show (match inL g a b with | some k => some (false ^^ k) | none => none) = inL g a b
      cases inL g a b <;> simp)
  | .nin => lb_same (lop_in E true) (funext fun a => funext fun b => funext fun g => by
      show (match inL g a b with | some k => some (true ^^ k) | none => none) = notO (inL g a b)
      cases inL g a b <;> simp [notO])
/-! names, constants -/
theorem r_var {i : Nat} {x : Str} (T : Cy S B X W d C) (hN : X.N[i]? = some x := by kernel_rfl) (hk : X.env.scope.names.lookup x = some .local := by kernel_rfl) (h1 : (x == ("__debug__" : Str)) = false := by kernel_rfl) (h2 : (x == ("__classdict__" : Str)) = false := by kernel_rfl) : RE S X W C (.Name x pos) (.var i) := e_var hN hk h1 h2
theorem r_cel {i : Nat} {x : Str} (T : Cy S B X W d C) (hN : X.N[i]? = some x := by kernel_rfl) (hk : X.env.scope.names.lookup x = some .cell := by kernel_rfl) (h1 : (x == ("__debug__" : Str)) = false := by kernel_rfl) (h2 : (x == ("__classdict__" : Str)) = false := by kernel_rfl) : RE S X W C (.Name x pos) (.cvar i) := e_cvar hN (.inl hk) h1 h2
theorem r_fre {i : Nat} {x : Str} (T : Cy S B X W d C) (hN : X.N[i]? = some x := by kernel_rfl) (hk : X.env.scope.names.lookup x = some .free := by kernel_rfl) (h1 : (x == ("__debug__" : Str)) = false := by kernel_rfl) (h2 : (x == ("__classdict__" : Str)) = false := by kernel_rfl) : RE S X W C (.Name x pos) (.cvar i) := e_cvar hN (.inr hk) h1 h2
theorem r_glo {k : Nat} {x : Str} (T : Cy S B X W d C) (hg : X.env.kindOf x = some .globalImplicit := by kernel_rfl) (hm : B.gt.lookup x = some k := by kernel_rfl) (h1 : (x == ("__debug__" : Str)) = false := by kernel_rfl) : RE S X W C (.Name x pos) (.glo k) := e_glo hg (T.m.fn _ _ hm).1 (T.m.fn _ _ hm).2 h1
theorem r_con {i : Int} {x : Str} (T : Cy S B X W d C) (hg : X.env.kindOf x = some .globalImplicit := by kernel_rfl) (hm : B.it.lookup x = some i := by kernel_rfl) (h1 : (x == ("__debug__" : Str)) = false := by kernel_rfl) : RE S X W C (.Name x pos) (.lit (.int i)) := by
  obtain ⟨k, e⟩ := T.m.it _ _ hm
  exact e_lit (pe_glob (v := .int i) hg e ⟨k, rfl⟩ h1) fun _ _ => rfl
theorem r_int {i : Int} {j : Nat} (T : Cy S B X W d C) : RE S X W C (.Constant (.int i) j pos) (.lit (.int i)) := e_lit pe_int fun _ _ => rfl
theorem r_bl {i : Bool} {j : Nat} (T : Cy S B X W d C) : RE S X W C (.Constant (.bool i) j pos) (.lit (.bl i)) := e_lit pe_bl fun _ _ => rfl
theorem r_non {j : Nat} (T : Cy S B X W d C) : RE S X W C (.Constant .none j pos) (.lit .non) := e_lit pe_non fun _ _ => rfl
theorem r_str {x : Str} {l : List Nat} {j : Nat} (T : Cy S B X W d C) (h : x = ⟨l.toArray⟩ := by kernel_rfl) : RE S X W C (.Constant (.str x) j pos) (.lit (.str l)) := e_lit pe_str fun _ _ => by rw [h]; rfl
/-! lists of expressions -/
theorem r_nil (T : Cy S B X W d C) : RA S X W C [] .nil := a_nil
theorem r_cons (T : Cy S B X W d C) (ha : RE S X W C e ta) (hb : RA S X W C es tb) (hs : notStar e = true := by rfl) : RA S X W C (e :: es) (.cons ta tb) := a_cons ha hb (star_cons hs)
theorem r_tup {k : Nat} (T : Cy S B X W d C) (h : RA S X W C es t) : RE S X W C (.Tuple es k pos) (.tup t) := e_tup T.t.e h
theorem r_lst (T : Cy S B X W d C) (h : RA S X W C es t) : RE S X W C (.List es pos) (.lst t) := e_lst T.t.e h
theorem r_dn (T : Cy S B X W d C) : RD S X W C [] [] .nil := jd_nil
theorem r_dc {ks : List (Option Expr)} {vs : List Expr} (T : Cy S B X W d C) (ha : RE S X W C a ta) (hb : RE S X W C b tb) (h : RD S X W C ks vs t) : RD S X W C (some a :: ks) (b :: vs) (.cons ta (.cons tb t)) := jd_cons ha (jv_cons hb h)
theorem r_dct {ks : List (Option Expr)} {vs : List Expr} (T : Cy S B X W d C) (h : RD S X W C ks vs t) (h1 : ks.all (·.isSome) = true := by rfl) (h2 : ks.length = vs.length := by rfl) (h3 : ks.isEmpty = false := by rfl) (h4 : Nat.ble ks.length 15 = true := by rfl) : RE S X W C (.Dict ks vs pos) (.dct t) :=
  e_dct T.t.e h h1 h2 (fun z => by rw [z] at h3; cases h3) (Nat.le_of_ble_eq_true h4)
/-! operations -/
theorem r_bin (op : BOp) (T : Cy S B X W d C) (ha : RE S X W C a ta) (hb : RE S X W C b tb) : RE S X W C (.BinOp a (binA op) b pos) (.bin op ta tb) := e_bin (lop_bin T.t.e op) ha hb
theorem r_neg (T : Cy S B X W d C) (ha : RE S X W C a ta) : RE S X W C (.UnaryOp .USub a pos) (.neg ta) := by
  refine ⟨fun pins s σ H Q I ⟨m, mc, G, σL, p, h⟩ => ?_⟩
  refine (pe_un un_neg (ta := tE S X W ((den ta).e C)) ha).run pins s σ H Q I ?_
  obtain ⟨m0, mc0, G0, σ0, q0, h0⟩ := one p h
  refine ⟨m0, mc0, G0, σ0, q0, Post.imp h0 fun v m1 mc1 G1 H1 _ _ _ _ _ f x rx => ?_⟩
  obtain ⟨la, m2, mc2, G2, q2, ra, q⟩ := f x rx
  cases la with
  | int i => exact ⟨i, ra, Post.ok q2 q _ rfl⟩
  | _ => exact q.elim
theorem r_not (T : Cy S B X W d C) (ha : RE S X W C a ta) : RE S X W C (.UnaryOp .Not a pos) (.no ta) := e_not T.t.e ha
theorem r_one {op : BoolOp} (T : Cy S B X W d C) (h : RE S X W C a t) : RE S X W C (.BoolOp op [a] pos) t := pe_one h
theorem r_and (T : Cy S B X W d C) (ha : RE S X W C a ta) (hb : RE S X W C (.BoolOp .And (b :: es) pos) tb) : RE S X W C (.BoolOp .And (a :: b :: es) pos) (.and ta tb) := e_and ha hb
theorem r_or (T : Cy S B X W d C) (ha : RE S X W C a ta) (hb : RE S X W C (.BoolOp .Or (b :: es) pos) tb) : RE S X W C (.BoolOp .Or (a :: b :: es) pos) (.or ta tb) := e_or ha hb
theorem r_cmp (op : COp) (T : Cy S B X W d C) (ha : RE S X W C a ta) (hb : RE S X W C b tb) (hm : behindInMarks (cmpA op) b = false := by kernel_rfl) : RE S X W C (.Compare a [cmpA op] [b] pos) (.cmp op ta tb) := e_cmp (lop_cmp T.t.e op) ha hb hm
theorem r_chn (op op' : COp) (T : Cy S B X W d C) (ha : RE S X W C a ta) (hb : RE S X W C b tb) (hc : RE S X W C c tc) (hm : lastMarks [cmpA op, cmpA op'] [b, c] = false := by kernel_rfl) : RE S X W C (.Compare a [cmpA op, cmpA op'] [b, c] pos) (.chn op op' ta tb tc) := e_chn (lop_cmp T.t.e op) (lop_cmp T.t.e op') ha hb hc hm
theorem r_ife (T : Cy S B X W d C) (hc : RB S X W C c tc) (ha : RE S X W C a ta) (hb : RE S X W C b tb) : RE S X W C (.IfExp c a b pos) (.ife tc ta tb) := e_ife hc ha hb
theorem r_ix (T : Cy S B X W d C) (ha : RE S X W C a ta) (hb : RE S X W C b tb) (hs : PlainIx b := by intro _ _; rfl) : RE S X W C (.Subscript a b pos) (.ix ta tb) := e_ix T.t.e ha hb hs
/-- a slice's part -/
def RP (S : Stat) (X : Cx) (W : WX) (C : CallT) (e : Option Expr) (t : T) : Prop := PO X e (tO S X W fun σ g => ((den t).e C σ g).bind fun y g => ofO (part y) g)
theorem r_on (T : Cy S B X W d C) : RP S X W C none (.lit .non) := o_none
theorem r_os (T : Cy S B X W d C) (h : RE S X W C e t) : RP S X W C (some e) t := o_some h
theorem r_sl {lo hi : Option Expr} (T : Cy S B X W d C) (ha : RE S X W C a ta) (hb : RP S X W C lo tb) (hc : RP S X W C hi tc) : RE S X W C (.Subscript a (.Slice lo hi none p2) pos) (.sl ta tb tc) := e_sl T.t.e ha hb hc
/-! tests -/
theorem b_val (T : Cy S B X W d C) (h : RE S X W C e t) (hb : (den t).b = (D.ex (den t).e).b := by rfl) (he : ∀ whole, isTrue e X.env whole = (do let v ← whole; standAt e.pos; holding [v] (truthy v)) := by intro _; rfl) : RB S X W C e t := by
  unfold RB
  rw [hb]
  exact t_val T.t.e h he
theorem b_cmp (op : COp) (T : Cy S B X W d C) (ha : RE S X W C a ta) (hb : RE S X W C b tb) (hm : behindInMarks (cmpA op) b = false := by kernel_rfl) : RB S X W C (.Compare a [cmpA op] [b] pos) (.cmp op ta tb) := t_cmp (lop_cmp T.t.e op) ha hb hm
theorem b_chn (op op' : COp) (T : Cy S B X W d C) (ha : RE S X W C a ta) (hb : RE S X W C b tb) (hc : RE S X W C c tc) (hm : lastMarks [cmpA op, cmpA op'] [b, c] = false := by kernel_rfl) : RB S X W C (.Compare a [cmpA op, cmpA op'] [b, c] pos) (.chn op op' ta tb tc) := t_chn (lop_cmp T.t.e op) (lop_cmp T.t.e op') ha hb hc hm
theorem b_not (T : Cy S B X W d C) (ha : RB S X W C a ta) : RB S X W C (.UnaryOp .Not a pos) (.no ta) := t_not ha
theorem b_ife (T : Cy S B X W d C) (hc : RB S X W C c tc) (ha : RB S X W C a ta) (hb : RB S X W C b tb) : RB S X W C (.IfExp c a b pos) (.ife tc ta tb) := t_ife hc ha hb
theorem b_and1 (T : Cy S B X W d C) (h : RB S X W C a t) : RW S X W C (.BoolOp .And [a] pos) t := pw_and1 h
theorem b_or1 (T : Cy S B X W d C) (h : RB S X W C a t) : RW S X W C (.BoolOp .Or [a] pos) t := pw_or1 h
theorem b_and (T : Cy S B X W d C) (ha : RB S X W C a ta) (hb : RW S X W C (.BoolOp .And (b :: es) pos) tb) : RW S X W C (.BoolOp .And (a :: b :: es) pos) (.and ta tb) := w_and ha hb
theorem b_or (T : Cy S B X W d C) (ha : RB S X W C a ta) (hb : RW S X W C (.BoolOp .Or (b :: es) pos) tb) : RW S X W C (.BoolOp .Or (a :: b :: es) pos) (.or ta tb) := w_or ha hb
theorem b_pt (T : Cy S B X W d C) (h : RW S X W C e t) : RB S X W C e t := h.pt
/-! calls -/
theorem den_nil (σ : SL) (g : GH) : (den .nil).a C σ g = .ok [] g := rfl
def nilOk (es : List Expr) (t : T) : Bool := match es, t with
  | [], .nil => true
  | [], _ => false
  | _, _ => true
theorem nil_at (h : nilOk es t = true) : es = [] → ∀ σ g, (den t).a C σ g = .ok [] g := by
  rintro rfl σ g
  cases t with
  | nil => rfl
  | _ => cases h
theorem r_cav (p : Bool) (T : Cy S B X W d C) (hf : RE S X W C a ta) (ha : RA S X W C es tb) (h1 : notAttr a = true := by rfl) (h2 : es.all notStar = true := by rfl) (h3 : nilOk es tb = true := by rfl) : RE S X W C (.Call a es [] pos) (.cav p ta tb) := e_cav (T.t.pc p) hf ha h1 h2 (nil_at h3)
theorem r_cal (p : Bool) {k : Nat} {x : Str} (T : Cy S B X W d C) (ha : RA S X W C es tb) (hg : X.env.kindOf x = some .globalImplicit := by kernel_rfl) (hm : B.gt.lookup x = some k := by kernel_rfl) (h1 : (x == ("__debug__" : Str)) = false := by kernel_rfl) (h2 : es.all notStar = true := by rfl) (h3 : nilOk es tb = true := by rfl) : RE S X W C (.Call (.Name x p0) es [] pos) (.cal p k tb) :=
  e_cal (T.t.pc p) hg (T.m.fn _ _ hm).1 (T.m.fn _ _ hm).2 h1 ha h2 (nil_at h3)
theorem r_kn (T : Cy S B X W d C) : RK S X W C [] .nil := k_nil
theorem r_kc {nm : Option Str} {kws : List Keyword} (T : Cy S B X W d C) (ha : RE S X W C e ta) (hb : RK S X W C kws tb) : RK S X W C (⟨nm, e, p0⟩ :: kws) (.cons ta tb) := k_cons ha hb
theorem r_cak (p : Bool) {kws : List Keyword} {ks : List Str} {oks : List Nat} (T : Cy S B X W d C) (hf : RE S X W C a ta) (hk : RK S X W C kws tb) (h1 : notAttr a = true := by rfl) (h2 : (oks.all fun k => decide ((S.cs k).ps = ks) && S.gf k) = true := by kernel_rfl) (h3 : (backToKw pos (keywordEach kws X.env)).all (·.1.isSome) = true := by rfl) (h4 : (backToKw pos (keywordEach kws X.env)).filterMap (·.1) = ks := by rfl)
    (h5 : ((backTo pos (starEach [] X.env)).any (·.1) || (backToKw pos (keywordEach kws X.env)).any (·.1.isNone)) = false := by rfl) : RE S X W C (.Call a [] kws pos) (.cak p oks ta tb) :=
  e_cak0 (T.t.pc p) hf hk h1 (fun k hk => by
    have z := List.all_eq_true.mp h2 k hk
    rw [Bool.and_eq_true, decide_eq_true_eq] at z
    exact ⟨z.1, T.m.kp k z.2⟩) h3 h4 h5
section
variable {x : Str}
theorem r_len (T : Cy S B X W d C) (ha : RA S X W C (e :: es) t) (hg : X.env.kindOf "len" = some .globalImplicit := by kernel_rfl) (hm : B.bt.contains "len" = true := by kernel_rfl) (hs : (e :: es).all notStar = true := by rfl) : RE S X W C (.Call (.Name "len" p0) (e :: es) [] pos) (.bi .len t) := e_biB T.t.e (lc_len T.t.e) hg (T.m.bt _ hm) PySem.boot_len ha hs (by decide) (by decide)
theorem r_abs (T : Cy S B X W d C) (ha : RA S X W C (e :: es) t) (hg : X.env.kindOf "abs" = some .globalImplicit := by kernel_rfl) (hm : B.bt.contains "abs" = true := by kernel_rfl) (hs : (e :: es).all notStar = true := by rfl) : RE S X W C (.Call (.Name "abs" p0) (e :: es) [] pos) (.bi .abs t) := e_biB T.t.e lc_abs hg (T.m.bt _ hm) PyProof.Rows.boot_abs ha hs (by decide) (by decide)
theorem r_all (T : Cy S B X W d C) (ha : RA S X W C (e :: es) t) (hg : X.env.kindOf "all" = some .globalImplicit := by kernel_rfl) (hm : B.bt.contains "all" = true := by kernel_rfl) (hs : (e :: es).all notStar = true := by rfl) : RE S X W C (.Call (.Name "all" p0) (e :: es) [] pos) (.bi .all t) := e_biB T.t.e (lc_all T.t.e) hg (T.m.bt _ hm) PyProof.Rows.boot_all ha hs (by decide) (by decide)
theorem r_repr (T : Cy S B X W d C) (ha : RA S X W C (e :: es) t) (hg : X.env.kindOf "repr" = some .globalImplicit := by kernel_rfl) (hm : B.bt.contains "repr" = true := by kernel_rfl) (hs : (e :: es).all notStar = true := by rfl) : RE S X W C (.Call (.Name "repr" p0) (e :: es) [] pos) (.bi .repr t) := e_biB T.t.e (lc_repr T.t.e T.t.gd) hg (T.m.bt _ hm) PyProof.Rows.boot_repr ha hs (by decide) (by decide)
theorem r_sorted (T : Cy S B X W d C) (ha : RA S X W C (e :: es) t) (hg : X.env.kindOf "sorted" = some .globalImplicit := by kernel_rfl) (hm : B.bt.contains "sorted" = true := by kernel_rfl) (hs : (e :: es).all notStar = true := by rfl) : RE S X W C (.Call (.Name "sorted" p0) (e :: es) [] pos) (.bi .sorted t) := e_biB T.t.e (lc_srt T.t.e) hg (T.m.bt _ hm) PyProof.Rows.boot_sorted ha hs (by decide) (by decide)
theorem r_sortedD (T : Cy S B X W d C) (ha : RA S X W C (e :: es) t) (hg : X.env.kindOf "sorted" = some .globalImplicit := by kernel_rfl) (hm : B.bt.contains "sorted" = true := by kernel_rfl) (hs : (e :: es).all notStar = true := by rfl) : RE S X W C (.Call (.Name "sorted" p0) (e :: es) [] pos) (.bi .sortedD t) := e_biB T.t.e (lc_srtD T.t.e) hg (T.m.bt _ hm) PyProof.Rows.boot_sorted ha hs (by decide) (by decide)
theorem r_min (T : Cy S B X W d C) (ha : RA S X W C (e :: es) t) (hg : X.env.kindOf "min" = some .globalImplicit := by kernel_rfl) (hm : B.bt.contains "min" = true := by kernel_rfl) (hs : (e :: es).all notStar = true := by rfl) : RE S X W C (.Call (.Name "min" p0) (e :: es) [] pos) (.bi .min t) := e_biB T.t.e (lc_min T.t.e) hg (T.m.bt _ hm) PyProof.Rows.boot_min ha hs (by decide) (by decide)
theorem r_tuple (T : Cy S B X W d C) (ha : RA S X W C (e :: es) t) (hg : X.env.kindOf "tuple" = some .globalImplicit := by kernel_rfl) (hm : B.bt.contains "tuple" = true := by kernel_rfl) (hs : (e :: es).all notStar = true := by rfl) : RE S X W C (.Call (.Name "tuple" p0) (e :: es) [] pos) (.bi .tuple t) := e_biT T.t.e (lc_tuple T.t.e) hg (T.m.bt _ hm) boot_tuple ha hs (by decide) (by decide)
theorem r_list (T : Cy S B X W d C) (ha : RA S X W C (e :: es) t) (hg : X.env.kindOf "list" = some .globalImplicit := by kernel_rfl) (hm : B.bt.contains "list" = true := by kernel_rfl) (hs : (e :: es).all notStar = true := by rfl) : RE S X W C (.Call (.Name "list" p0) (e :: es) [] pos) (.bi .list t) := e_biT T.t.e (lc_list T.t.e) hg (T.m.bt _ hm) boot_list ha hs (by decide) (by decide)
theorem r_intc (T : Cy S B X W d C) (ha : RA S X W C (e :: es) t) (hg : X.env.kindOf "int" = some .globalImplicit := by kernel_rfl) (hm : B.bt.contains "int" = true := by kernel_rfl) (hs : (e :: es).all notStar = true := by rfl) : RE S X W C (.Call (.Name "int" p0) (e :: es) [] pos) (.bi .int t) := e_biT T.t.e lc_int hg (T.m.bt _ hm) boot_int ha hs (by decide) (by decide)
theorem r_dict (T : Cy S B X W d C) (ha : RA S X W C (e :: es) t) (hg : X.env.kindOf "dict" = some .globalImplicit := by kernel_rfl) (hm : B.bt.contains "dict" = true := by kernel_rfl) (hs : (e :: es).all notStar = true := by rfl) : RE S X W C (.Call (.Name "dict" p0) (e :: es) [] pos) (.bi .dict t) := e_biT T.t.e (lc_dict T.t.e) hg (T.m.bt _ hm) boot_dict ha hs (by decide) (by decide)
end
end
end MP
namespace MP
open PySem PySem.Spec L2
open PyProof.Rows hiding St

section
variable {S : Stat} {X : Cx} {W : WX} {d : Nat} {C : CallT} {B : Tabs} {pos p0 p1 p2 p3 apos : Pos} {a b c e te : Expr} {es : List Expr} {t ta tb tc : T} {x : Str}
theorem PE_same {f f' : SL → GH → Res LV} (h : PE X e (tE S X W f)) (q : ∀ σ g, f' σ g = f σ g) : PE X e (tE S X W f') := by
  rw [show f' = f from funext fun σ => funext fun g => q σ g]
  exact h
/-! isinstance -/
theorem pe_ty {n : String} {x : Str} (T : Cy S B X W d C) (hg : X.env.kindOf x = some .globalImplicit) (hm : B.bt.contains x = true) (hv : bootBuiltins x = some (.type n)) (hn : x ≠ "__name__") (h1 : (x == ("__debug__" : Str)) = false) : PE X (.Name x pos) (tC (.ty n)) := pe_bltn hg (T.m.bt _ hm) hv rfl hn h1
theorem r_isi {ic : Ic} (T : Cy S B X W d C) (hX : ∀ k, ic = .cls k → XOk S k) (ha : RE S X W C a ta) (hec : PE X e (tC (icV S ic).1)) (hg : X.env.kindOf "isinstance" = some .globalImplicit) (hm : B.bt.contains "isinstance" = true) (hs : notStar a = true) (hs2 : notStar e = true) : RE S X W C (.Call (.Name "isinstance" p0) [a, e] [] pos) (.isi ic ta) := e_isi T.t.e hX hg (T.m.bt _ hm) ha hs hs2 hec
theorem r_isInt (T : Cy S B X W d C) (ha : RE S X W C a ta) (hg : X.env.kindOf "isinstance" = some .globalImplicit := by kernel_rfl) (hm : B.bt.contains "isinstance" = true := by kernel_rfl) (hg2 : X.env.kindOf "int" = some .globalImplicit := by kernel_rfl) (hm2 : B.bt.contains "int" = true := by kernel_rfl) (hs : notStar a = true := by rfl) : RE S X W C (.Call (.Name "isinstance" p0) [a, .Name "int" p1] [] pos) (.isi .int ta) :=
  r_isi T (fun _ z => nomatch z) ha (pe_ty T hg2 hm2 boot_int (by decide) (by decide)) hg hm hs rfl
theorem r_isBool (T : Cy S B X W d C) (ha : RE S X W C a ta) (hg : X.env.kindOf "isinstance" = some .globalImplicit := by kernel_rfl) (hm : B.bt.contains "isinstance" = true := by kernel_rfl) (hg2 : X.env.kindOf "bool" = some .globalImplicit := by kernel_rfl) (hm2 : B.bt.contains "bool" = true := by kernel_rfl) (hs : notStar a = true := by rfl) : RE S X W C (.Call (.Name "isinstance" p0) [a, .Name "bool" p1] [] pos) (.isi .bool ta) :=
  r_isi T (fun _ z => nomatch z) ha (pe_ty T hg2 hm2 (by decide +kernel) (by decide) (by decide)) hg hm hs rfl
theorem r_isTup (T : Cy S B X W d C) (ha : RE S X W C a ta) (hg : X.env.kindOf "isinstance" = some .globalImplicit := by kernel_rfl) (hm : B.bt.contains "isinstance" = true := by kernel_rfl) (hg2 : X.env.kindOf "tuple" = some .globalImplicit := by kernel_rfl) (hm2 : B.bt.contains "tuple" = true := by kernel_rfl) (hs : notStar a = true := by rfl) : RE S X W C (.Call (.Name "isinstance" p0) [a, .Name "tuple" p1] [] pos) (.isi .tuple ta) :=
  r_isi T (fun _ z => nomatch z) ha (pe_ty T hg2 hm2 boot_tuple (by decide) (by decide)) hg hm hs rfl
theorem r_isStr (T : Cy S B X W d C) (ha : RE S X W C a ta) (hg : X.env.kindOf "isinstance" = some .globalImplicit := by kernel_rfl) (hm : B.bt.contains "isinstance" = true := by kernel_rfl) (hg2 : X.env.kindOf "str" = some .globalImplicit := by kernel_rfl) (hm2 : B.bt.contains "str" = true := by kernel_rfl) (hs : notStar a = true := by rfl) : RE S X W C (.Call (.Name "isinstance" p0) [a, .Name "str" p1] [] pos) (.isi .str ta) :=
  r_isi T (fun _ z => nomatch z) ha (pe_ty T hg2 hm2 (by decide +kernel) (by decide) (by decide)) hg hm hs rfl
theorem r_isX {k : Nat} {y : Str} (T : Cy S B X W d C) (ha : RE S X W C a ta) (hg : X.env.kindOf "isinstance" = some .globalImplicit := by kernel_rfl) (hm : B.bt.contains "isinstance" = true := by kernel_rfl) (hg2 : X.env.kindOf y = some .globalImplicit := by kernel_rfl) (hm2 : B.xt.lookup y = some k := by kernel_rfl) (hk : Nat.blt k B.xt.length = true := by kernel_rfl) (h1 : (y == ("__debug__" : Str)) = false := by kernel_rfl) (hs : notStar a = true := by rfl) : RE S X W C (.Call (.Name "isinstance" p0) [a, .Name y p1] [] pos) (.isi (.cls k) ta) :=
  r_isi T (fun k' z => by cases z; exact (T.m.xo k (by simpa [Nat.blt_eq] using hk)).1) ha (pe_glob (v := .ref (S.xa k)) hg2 (T.m.xt _ _ hm2) rfl h1) hg hm hs rfl
/-! list(range(..)), tuple(range(..)) -/
theorem r_rg1 (l : Bool) (T : Cy S B X W d C) (ha : RE S X W C a ta) (hg : X.env.kindOf (if l then "list" else "tuple") = some .globalImplicit := by kernel_rfl) (hm : B.bt.contains (if l then "list" else "tuple") = true := by kernel_rfl) (hg2 : X.env.kindOf "range" = some .globalImplicit := by kernel_rfl) (hm2 : B.bt.contains "range" = true := by kernel_rfl) (hs : notStar a = true := by rfl) :
    RE S X W C (.Call (.Name (if l then "list" else "tuple") p0) [.Call (.Name "range" p1) [a] [] p2] [] pos) (.rg1 l ta) := by
  have h := e_rg (pos := pos) (p0 := p0) (l := l) T.t.e hg (T.m.bt _ hm) (e := .Call (.Name "range" p1) [a] [] p2) rfl (prg1 (pos := p2) (p0 := p1) hg2 (T.m.bt _ hm2) ha hs)
  refine PE_same h fun σ g => ?_
  show ((den ta).e C σ g).bind _ = (((den ta).e C σ g).bind _).bind _
  rw [Res.assoc]
  congr 1
  funext v g
  cases v <;> rfl
theorem r_rg2 (l : Bool) (T : Cy S B X W d C) (ha : RE S X W C a ta) (hb : RE S X W C b tb) (hg : X.env.kindOf (if l then "list" else "tuple") = some .globalImplicit := by kernel_rfl) (hm : B.bt.contains (if l then "list" else "tuple") = true := by kernel_rfl) (hg2 : X.env.kindOf "range" = some .globalImplicit := by kernel_rfl) (hm2 : B.bt.contains "range" = true := by kernel_rfl) (hs : notStar a = true := by rfl) (hs2 : notStar b = true := by rfl) :
    RE S X W C (.Call (.Name (if l then "list" else "tuple") p0) [.Call (.Name "range" p1) [a, b] [] p2] [] pos) (.rg2 l ta tb) := by
  have h := e_rg (pos := pos) (p0 := p0) (l := l) T.t.e hg (T.m.bt _ hm) (e := .Call (.Name "range" p1) [a, b] [] p2) rfl (prg2 (pos := p2) (p0 := p1) hg2 (T.m.bt _ hm2) ha hb hs hs2)
  refine PE_same h fun σ g => ?_
  show ((den ta).e C σ g).bind _ = (((den ta).e C σ g).bind _).bind _
  rw [Res.assoc]
  congr 1
  funext v g
  rw [Res.assoc]
  congr 1
  funext w g
  cases v <;> cases w <;> rfl
theorem r_srs (T : Cy S B X W d C) (ha : RE S X W C a ta) (hg : X.env.kindOf "sorted" = some .globalImplicit := by kernel_rfl) (hm : B.bt.contains "sorted" = true := by kernel_rfl) (hg2 : X.env.kindOf "set" = some .globalImplicit := by kernel_rfl) (hm2 : B.bt.contains "set" = true := by kernel_rfl) (hs : notStar a = true := by rfl) :
    RE S X W C (.Call (.Name "sorted" p0) [.Call (.Name "set" p1) [a] [] p2] [] pos) (.srs ta) := e_srs T.t.e hg (T.m.bt _ hm) hg2 (T.m.bt _ hm2) ha hs
/-! methods -/
theorem r_mt (mt : Mt) (T : Cy S B X W d C) (ha : RE S X W C a ta) (hb : RA S X W C [e] tb) (h1 : notStar e = true := by rfl) (h2 : notCall a = true := by rfl) (h3 : (apos.endLine == pos.line) = true := by kernel_rfl) : RE S X W C (.Call (.Attribute a (mtName mt) apos) [e] [] pos) (.mt mt ta tb) := e_mt T.t.e ha hb h1 h2 h3
/-! iterators -/
theorem r_itv (T : Cy S B X W d C) (ha : RE S X W C a ta) : RI S X W C te a (.itv ta) := i_val T.t.e ha
theorem r_itr (T : Cy S B X W d C) (ha : RE S X W C a ta) (hg : X.env.kindOf "range" = some .globalImplicit := by kernel_rfl) (hm : B.bt.contains "range" = true := by kernel_rfl) (hs : notStar a = true := by rfl) : RI S X W C te (.Call (.Name "range" p0) [a] [] pos) (.itr ta) := i_rng1 hg (T.m.bt _ hm) ha hs
theorem r_itr2 (T : Cy S B X W d C) (ha : RE S X W C a ta) (hb : RE S X W C b tb) (hg : X.env.kindOf "range" = some .globalImplicit := by kernel_rfl) (hm : B.bt.contains "range" = true := by kernel_rfl) (hs : notStar a = true := by rfl) (hs2 : notStar b = true := by rfl) : RI S X W C te (.Call (.Name "range" p0) [a, b] [] pos) (.itr2 ta tb) := i_rng2 hg (T.m.bt _ hm) ha hb hs hs2
theorem r_ite {k : Nat} (T : Cy S B X W d C) (ha : RE S X W C a ta) (hg : X.env.kindOf "enumerate" = some .globalImplicit := by kernel_rfl) (hm : B.bt.contains "enumerate" = true := by kernel_rfl) (hs : notStar a = true := by rfl) : RI S X W C (.Tuple es k p3) (.Call (.Name "enumerate" p0) [a] [] pos) (.ite ta) := i_enm T.t.e hg (T.m.bt _ hm) ha hs
/-! targets -/
theorem r_gv {i : Nat} (T : Cy S B X W d C) (hi : X.N[i]? = some x := by kernel_rfl) (hk : X.env.scope.names.lookup x = some .local := by kernel_rfl) : RG S X W C (.Name x pos) (.tgv i) := g_var T.t.ok.nd hi hk
theorem r_gc {i : Nat} (T : Cy S B X W d C) (hi : X.N[i]? = some x := by kernel_rfl) (hk : X.env.scope.names.lookup x = some .cell := by kernel_rfl) (hf : X.fn x = true := by kernel_rfl) : RG S X W C (.Name x pos) (.tgc i) := g_cell T.t.ok hi hk hf
theorem r_gi (T : Cy S B X W d C) (ha : RE S X W C a ta) (hb : RE S X W C b tb) (hs : notSlice b = true := by rfl) : RG S X W C (.Subscript a b pos) (.tgi ta tb) := g_sub T.t.e ha hb hs
theorem r_gn (T : Cy S B X W d C) : RGs S X W C [] .nil := gs_nil
theorem r_gs (T : Cy S B X W d C) (ha : RG S X W C e ta) (hb : RGs S X W C es tb) (hs : (assignEach (e :: es) X.env).map (·.2) = assign e X.env :: (assignEach es X.env).map (·.2) := by rfl) : RGs S X W C (e :: es) (.cons ta tb) := gs_cons ha hb hs
theorem r_gt {k n : Nat} (T : Cy S B X W d C) (h : RGs S X W C es t) (h1 : es.length = n := by rfl) (h2 : (assignEach es X.env).length = es.length := by rfl) (h3 : (assignEach es X.env).findIdx? (·.1) = none := by rfl) : RG S X W C (.Tuple es k pos) (.tgt n t) := by
  have h' : PGs X es (tGs S X W ((den (.tgt n t)).tg C)) := ⟨fun pins s σ H vs us Q I r ⟨m, mc, G, σL, lvs, p, rs, q⟩ => by
    refine h.run pins s σ H vs us Q I r ⟨m, mc, G, σL, lvs, p, rs, ?_⟩
    have q : PostS S X W m mc H (if (lvs.length == n) = true then (den t).tg C (.tup lvs) σL G else .stuck) id (fun _ _ _ _ H' σ' => Q σ' H') := q
    by_cases z : (lvs.length == n) = true
    · rw [if_pos z] at q
      exact q
    · rw [if_neg z] at q
      exact q.elim⟩
  refine g_tup (g_tupT T.t.ok.k T.t.calm h' (fun lvs σ g z => ?_) h2 h3) fun v σ g z => ?_
  · have z : (if (lvs.length == n) = true then (den t).tg C (.tup lvs) σ g else .stuck) ≠ .stuck := z
    by_cases w : (lvs.length == n) = true
    · rw [h1]
      exact beq_iff_eq.mp w
    · rw [if_neg w] at z
      exact absurd rfl z
  · cases v with
    | tup xs => exact absurd rfl (z xs)
    | _ => rfl
/-! comprehensions -/
theorem r_t0 (T : Cy S B X W d C) : RT S X W C [] (.lit (.bl true)) := ts_nil
theorem r_t1 (T : Cy S B X W d C) (h : RB S X W C e t) : RT S X W C [e] t := ts_one h
def blkB (nd : List Str) (sc scope : Scope) (own : List (Str × Nat)) (hid : List Nat) : Bool :=
  decide (scope.kind = .function) && (scope.names.all (fun y => decide (scope.names.lookup y.1 = some y.2) && (!decide (y.2 = .free) || (decide (sc.names.lookup y.1 = some .cell) || decide (sc.names.lookup y.1 = some .free)))) &&
    (own.all (fun p => decide (nd[p.2]? = some p.1) && decide (scope.names.lookup p.1 = some .local)) && (scope.names.all (fun y => !(decide (y.2 = .local) || decide (y.2 = .cell)) || ((own.map (·.1)).contains y.1 || !nd.contains y.1)) && (scope.names.all (fun y => !decide (y.2 = .cell)) &&
      ((List.range nd.length).all (fun i => match nd[i]? with
        | some x => !(decide (sc.names.lookup x = some .cell) || decide (sc.names.lookup x = some .free)) || (decide (scope.names.lookup x = some .free) || hid.contains i)
        | none => true) &&
      hid.all fun i => match nd[i]? with
        | some x => (decide (sc.names.lookup x = some .cell) || decide (sc.names.lookup x = some .free)) && decide (scope.names.lookup x = none)
        | none => false)))))
theorem blk_by {nd : List Str} {sc scope : Scope} {own : List (Str × Nat)} {hid : List Nat} (h : blkB nd sc scope own hid = true) : BlkS nd sc scope own hid := by
  unfold blkB at h
  simp only [Bool.and_eq_true, decide_eq_true_eq, List.all_eq_true, Bool.or_eq_true, Bool.not_eq_true', decide_eq_false_iff_not] at h
  obtain ⟨h1, h2, h3, h4, h5, h6, h7⟩ := h
  refine ⟨⟨h1, fun y hy => (h2 y hy).1, fun p hp => (h3 p hp).1, fun y hy e => ?_, fun y hy e => ?_⟩, h5, fun p hp => (h3 p hp).2, fun i x hi e => ?_, fun i hi => ?_, fun i hi x hx => ?_⟩
  · exact ((h2 y hy).2).elim (fun z => absurd e z) id
  · rcases h4 y hy with z | z | z
    · exfalso
      simp only [Bool.or_eq_false_iff, decide_eq_false_iff_not] at z
      exact e.elim z.1 z.2
    · exact .inl (by simpa using z)
    · exact .inr (by simpa using z)
  · have q := h6 i (List.mem_range.mpr (List.getElem?_eq_some_iff.mp hi).1)
    rw [hi] at q
    simp only [Bool.or_eq_true, Bool.not_eq_true', Bool.or_eq_false_iff, decide_eq_false_iff_not, decide_eq_true_eq] at q
    rcases q with z | z | z
    · exact absurd e (fun e => e.elim z.1 z.2)
    · exact .inl z
    · exact .inr (by simpa using z)
  · have q := h7 i hi
    cases e : nd[i]? with
    | none => rw [e] at q; cases q
    | some x =>
      rw [e] at q
      simp only [Bool.and_eq_true, Bool.or_eq_true, decide_eq_true_eq] at q
      exact ⟨x, rfl, q.1⟩
  · have q := h7 i hi
    rw [hx] at q
    simp only [Bool.and_eq_true, Bool.or_eq_true, decide_eq_true_eq] at q
    exact q.2
theorem Cy.blk {scope : Scope} {own : List (Str × Nat)} {hid : List Nat} {t3 : Shared} {K3 : Hp} {fp : List Addr} (T : Cy S B X W d C) (T' : Ctx S (XBk X scope t3 K3 fp) WF d C) : Cy S B (XBk X scope t3 K3 fp) WF d C := ⟨T', T.m⟩
theorem r_lc {elt iter : Expr} {ifs : List Expr} {scope : Scope} (own : List (Str × Nat)) {hid : List Nat} {ti tg : T} (T : Cy S B X W d C) (hi : RI S X W C te iter ti)
    (hr : ∀ (t3 : Shared) (K3 : Hp) (fp : List Addr), Cy S B (XBk X scope t3 K3 fp) WF d C → RG S (XBk X scope t3 K3 fp) WF C te tg ∧ RT S (XBk X scope t3 K3 fp) WF C ifs tc ∧ RE S (XBk X scope t3 K3 fp) WF C elt tb)
    (hB : blkB X.N X.env.scope scope own hid = true := by kernel_rfl) (hs : ∀ x, foldedSetIterable iter X.env x = pure x := by intro _; rfl) : RE S X W C (.ListComp elt [⟨te, iter, ifs, 0⟩] scope pos) (.lc (own.map (·.2)) hid tg ti tc tb) :=
  e_lc (n := fuel) T.t (blk_by hB) hi hs fun t3 K3 fp T' => hr t3 K3 fp ⟨T', T.m⟩
theorem r_setLc {i : Nat} {y : Str} {py spos : Pos} {elt iter : Expr} {ifs : List Expr} {scope : Scope} (own : List (Str × Nat)) {hid : List Nat} {ti tg : T} (T : Cy S B X W d C) (hi : RI S X W C te iter ti)
    (hr : ∀ (t3 : Shared) (K3 : Hp) (fp : List Addr), Cy S B (XBk X scope t3 K3 fp) WF d C → RG S (XBk X scope t3 K3 fp) WF C te tg ∧ RT S (XBk X scope t3 K3 fp) WF C ifs tc ∧ RE S (XBk X scope t3 K3 fp) WF C elt tb)
    (hB : blkB X.N X.env.scope scope own hid = true := by kernel_rfl) (hy : X.N[i]? = some y := by kernel_rfl) (hyl : X.env.scope.names.lookup y = some .local := by kernel_rfl) (hsw : swapsWith (.ListComp elt [⟨te, iter, ifs, 0⟩] scope pos) (some (.Name y py)) spos.line X.env = pure true := by kernel_rfl) (hs : ∀ x, foldedSetIterable iter X.env x = pure x := by intro _; rfl) :
    RS S X W C (.Assign [.Name y py] (.ListComp elt [⟨te, iter, ifs, 0⟩] scope pos) spos) (.asg (.tgv i) (.lc (own.map (·.2)) hid tg ti tc tb)) :=
  s_setLc (n := fuel) T.t (blk_by hB) hy hyl hsw hi hs fun t3 K3 fp T' => hr t3 K3 fp ⟨T', T.m⟩
/-! functions made -/
structure LamOk (S : Stat) (X : Cx) (k0 : Nat) : Prop where
  ex : ∃ c P, X.env.code = .ref c ∧ LamX.TabB X.base X.mg c P ∧ (P, S.nm k0) ∈ S.T ∧ ∀ p ∈ S.T, p.1 = P → p.2 = S.nm k0
def madeB (S : Stat) (X : Cx) (k : Nat) (js : List Nat) (name : Str) (scope : Scope) : Bool :=
  decide ((S.cs k).qual = X.env.qual ++ name) && (decide (js.map (fun j => X.N[j]?) = (S.cs k).fr.map some) && ((S.cs k).fr.all (fun y => decide ((y, NameKind.free) ∈ scope.names)) &&
    (scope.names.all (fun y => !decide (y.2 = .free) || ((S.cs k).fr.contains y.1 && (decide (X.env.scope.names.lookup y.1 = some .cell) || decide (X.env.scope.names.lookup y.1 = some .free)))) && (S.cc k).isNone)))
theorem made_by {k : Nat} {js : List Nat} {name : Str} {params : Arguments} {fb : FuncBody} {scope : Scope} (h : madeB S X k js name scope = true) (h1 : (S.cs k).params = params) (h2 : (S.cs k).body = fb) (h3 : (S.cs k).scope = scope) : MadeOk S X k js name params fb scope := by
  unfold madeB at h
  simp only [Bool.and_eq_true, decide_eq_true_eq, List.all_eq_true, Bool.or_eq_true, Bool.not_eq_true', decide_eq_false_iff_not, Option.isNone_iff_eq_none] at h
  obtain ⟨q1, q2, q3, q4, q5⟩ := h
  exact ⟨q1, h1, h2, h3, q2, q3, fun y hy e => (q4 y hy).elim (fun z => absurd e z) (fun z => by simpa using z.1), fun y hy e => (q4 y hy).elim (fun z => absurd e z) (fun z => z.2), q5⟩
theorem r_lam {k0 k : Nat} {js : List Nat} {params : Arguments} {body : Expr} {scope : Scope} (T : Cy S B X W d C) (L : LamOk S X k0) (hM : madeB S X k js "<lambda>" scope = true := by kernel_rfl) (h1 : (S.cs k).params = params := by kernel_rfl) (h2 : (S.cs k).body = .expr body := by kernel_rfl) (h3 : (S.cs k).scope = scope := by kernel_rfl)
    (hn : S.nm k0 pos.line pos.col = X.env.qual ++ "<lambda>" := by kernel_rfl) (hd : defaultsOf params X.env = ([], []) := by rfl) : RE S X W C (.Lambda params body scope pos) (.lam k js) := by
  obtain ⟨c, P, e1, e2, e3, e4⟩ := L.ex
  exact e_lam T.t.e e2 e1 e3 hn e4 hd (made_by hM h1 h2 h3)
theorem r_defv {k0 k i : Nat} {js : List Nat} {name : Str} {params : Arguments} {body : List Stmt} {scope : Scope} (T : Cy S B X W d C) (L : LamOk S X k0) (hM : madeB S X k js name scope = true := by kernel_rfl) (h1 : (S.cs k).params = params := by kernel_rfl) (h2 : (S.cs k).body = .stmts body := by kernel_rfl) (h3 : (S.cs k).scope = scope := by kernel_rfl)
    (hn : S.nm k0 pos.line pos.col = X.env.qual ++ name := by kernel_rfl) (hd0 : params.defaults = [] := by kernel_rfl) (hk0 : params.kw_defaults = [] := by kernel_rfl) (ha : annTrees params none X.env = [] := by rfl) (hi : X.N[i]? = some name := by kernel_rfl) (hk : X.env.scope.names.lookup name = some .local := by kernel_rfl) :
    RS S X W C (.FunctionDef name params body [] none [] scope none name pos) (.asg (.tgv i) (.lam k js)) := by
  obtain ⟨c, P, e1, e2, e3, e4⟩ := L.ex
  exact s_def T.t.e e2 e1 e3 hn e4 hd0 hk0 ha (.inl hk) (made_by hM h1 h2 h3) (st_var T.t.ok.nd hi hk)
theorem r_defc {k0 k i : Nat} {js : List Nat} {name : Str} {params : Arguments} {body : List Stmt} {scope : Scope} (T : Cy S B X W d C) (L : LamOk S X k0) (hM : madeB S X k js name scope = true := by kernel_rfl) (h1 : (S.cs k).params = params := by kernel_rfl) (h2 : (S.cs k).body = .stmts body := by kernel_rfl) (h3 : (S.cs k).scope = scope := by kernel_rfl)
    (hn : S.nm k0 pos.line pos.col = X.env.qual ++ name := by kernel_rfl) (hd0 : params.defaults = [] := by kernel_rfl) (hk0 : params.kw_defaults = [] := by kernel_rfl) (ha : annTrees params none X.env = [] := by rfl) (hi : X.N[i]? = some name := by kernel_rfl) (hk : X.env.scope.names.lookup name = some .cell := by kernel_rfl) (hf : X.fn name = true := by kernel_rfl) :
    RS S X W C (.FunctionDef name params body [] none [] scope none name pos) (.asg (.tgc i) (.lam k js)) := by
  obtain ⟨c, P, e1, e2, e3, e4⟩ := L.ex
  exact s_def T.t.e e2 e1 e3 hn e4 hd0 hk0 ha (.inr hk) (made_by hM h1 h2 h3) (st_cell T.t.ok hi hk hf)
/-! statements -/
theorem r_sn (T : Cy S B X W d C) : RL S X W C [] .nil := ss_nil
theorem r_sc {st : Stmt} {sts : List Stmt} (T : Cy S B X W d C) (h1 : RS S X W C st ta) (h2 : RL S X W C sts tb) : RL S X W C (st :: sts) (.cons ta tb) := ss_cons h1 h2
theorem r_pas (T : Cy S B X W d C) : RS S X W C (.Pass pos) .pas := s_pass
theorem r_ret (T : Cy S B X W d C) (h : RE S X W C e t) : RS S X W C (.Return (some e) pos) (.ret t) := s_ret h
theorem r_exs (T : Cy S B X W d C) (h : RE S X W C e t) (hs : swapsWith e none pos.line X.env = pure false := by rfl) : RS S X W C (.Expr e pos) (.exs t) := s_exs h hs
theorem r_if {sa sb : List Stmt} (T : Cy S B X W d C) (hc : RB S X W C c tc) (ha : RL S X W C sa ta) (hb : RL S X W C sb tb) : RS S X W C (.If c sa sb pos) (.iff tc ta tb) := s_if hc ha hb
theorem r_set (T : Cy S B X W d C) (hg : RG S X W C te ta) (h : RE S X W C e t) (h1 : swapsWithSole [te] e pos.line X.env = pure false := by rfl) (h2 : swappedStores [te] e X.env = pure none := by rfl) (h3 : (assignEach [te] X.env).map (·.2) = [assign te X.env] := by rfl) : RS S X W C (.Assign [te] e pos) (.asg ta t) := s_asg h hg h1 h2 h3
theorem r_par {i j : Nat} {x y : Str} {px py pt : Pos} {k1 k2 : Nat} (T : Cy S B X W d C) (ha : RE S X W C a ta) (hb : RE S X W C b tb) (hi : X.N[i]? = some x := by kernel_rfl) (hj : X.N[j]? = some y := by kernel_rfl) (hij : (i == j) = false := by kernel_rfl) (hx : X.env.scope.names.lookup x = some .local := by kernel_rfl) (hy : X.env.scope.names.lookup y = some .local := by kernel_rfl)
    (hw : swappedStores [.Tuple [.Name x px, .Name y py] k1 pt] (.Tuple [a, b] k2 p2) X.env = pure (some [x, y]) := by kernel_rfl) (hs : swapsWithSole [.Tuple [.Name x px, .Name y py] k1 pt] (.Tuple [a, b] k2 p2) pos.line X.env = pure false := by rfl) (h1 : notStar a = true := by rfl) (h2 : notStar b = true := by rfl) :
    RS S X W C (.Assign [.Tuple [.Name x px, .Name y py] k1 pt] (.Tuple [a, b] k2 p2) pos) (.asg (.tgt 2 (.cons (.tgv i) (.cons (.tgv j) .nil))) (.tup (.cons ta (.cons tb .nil)))) := by
  refine s_par' (fa := (den (.cons ta (.cons tb .nil))).a C) (gt := fun v σ g => (den (.tgt 2 (.cons (.tgv i) (.cons (.tgv j) .nil)))).tg C v σ g) T.t.calm T.t.ok.nd hi hj (by simpa using hij) hx hy (a_cons ha (a_cons hb a_nil (star_cons h2)) (star_cons h1)) (fun v w σ g => rfl) hw hs fun vs σ g hl => ?_
  show (if (vs.length == 2) = true then _ else Res.stuck) = Res.stuck
  rw [if_neg (by simpa using hl)]
theorem r_whl {sb : List Stmt} (T : Cy S B X W d C) (hc : RB S X W C c tc) (hb : RL S X W C sb tb) : RS S X W C (.While c sb [] pos) (.whl tc tb) := s_whl (n := fuel) (C := C) (cc := (den tc).b) (body := (den tb).s) T.t.own hc hb
theorem r_for {sb : List Stmt} {ti tg : T} (T : Cy S B X W d C) (hi : RI S X W C te e ti) (hg : RG S X W C te tg) (hb : RL S X W C sb tb) (hs : ∀ x, foldedSetIterable e X.env x = pure x := by intro _; rfl) : RS S X W C (.For te e sb [] pos) (.fr tg ti tb) := s_for (n := fuel) (C := C) (tg := (den tg).tg) (body := (den tb).s) T.t.ok.k T.t.own T.t.calm hi hg hb hs
theorem r_rai {k j : Nat} {m : Str} (T : Cy S B X W d C) (hg : X.env.kindOf x = some .globalImplicit := by kernel_rfl) (hm : B.xt.lookup x = some k := by kernel_rfl) (hk : Nat.blt k B.xt.length = true := by kernel_rfl) (h1 : (x == ("__debug__" : Str)) = false := by kernel_rfl) : RS S X W C (.Raise (some (.Call (.Name x p0) [.Constant (.str m) j p1] [] p2)) none pos) (.rai k) :=
  s_rai T.t (T.m.xo k (by simpa [Nat.blt_eq] using hk)).2 hg (T.m.xt _ _ hm) h1
end
end MP
namespace MP
open PySem PySem.Spec L2
open PyProof.Rows hiding St

section
variable {S : Stat} {X : Cx} {W : WX} {d : Nat} {C : CallT} {B : Tabs} {pos : Pos} {e : Expr} {t : T}
theorem r_try {i j k0 : Nat} {n y x : Str} {oks : List Nat} {np epos py pn2 apos pos' : Pos} (T : Cy S B X W d C) (he : ∀ (pn : List (Addr × Obj)) (xe : Value → Shared → Prop) (W' : WX), Cy S B (X.tr pn xe) W' d C → RE S (X.tr pn xe) W' C e t)
    (hm : B.xt.lookup x = some k0 := by kernel_rfl) (hk : (oks.all fun k => B.ex.contains (k, k0)) = true := by kernel_rfl) (hg : X.env.kindOf x = some .globalImplicit := by kernel_rfl) (hx : (x == ("__debug__" : Str)) = false := by kernel_rfl)
    (hs : X.stack = X.env :: X.outer := by rfl) (hf : X.env.frame = some X.env.locals := by rfl) (hi : X.N[i]? = some n := by kernel_rfl) (hin : X.env.scope.names.lookup n = some .local := by kernel_rfl) (hj : X.N[j]? = some y := by kernel_rfl) (hjn : X.env.scope.names.lookup y = some .local := by kernel_rfl)
    (hsw : swapsWith e none epos.line X.env = pure false := by rfl) (hd1 : (n == ("__debug__" : Str)) = false := by kernel_rfl) (hd2 : (n == ("__classdict__" : Str)) = false := by kernel_rfl)
    (hsa : swapsWithSole [.Name y py] (.Name n pn2) apos.line X.env = pure false := by rfl) (hwa : swappedStores [.Name y py] (.Name n pn2) X.env = pure none := by rfl) (ha1 : (assignEach [.Name y py] X.env).map (·.2) = [assign (.Name y py) X.env] := by rfl) :
    RS S X W C (.Try [.Expr e epos] [.ExceptHandler (some (.Name x np)) (some n) [.Assign [.Name y py] (.Name n pn2) apos] pos'] [] [] pos) (.try_ oks i j t) :=
  s_try (c := .ref (S.xa k0)) T.t hs hf hi hin hj hjn ⟨hg, hx, .inl (T.m.xt _ _ hm)⟩ (fun k hk' => T.m.ex (k, k0) (List.all_eq_true.mp hk k hk')) (fun pn xe W' T' => he pn xe W' ⟨T', T.m⟩) hsw hd1 hd2 hsa hwa ha1
theorem pss_tS {b : List Stmt} {f : SL → GH → Res (Fl × SL)} (h : PSs X b (tX S X W f)) : PSs X b (tS S X W f) := ⟨fun pins s σ H D I ⟨m, mc, G, σL, p, q⟩ => h.run pins s σ H D I ⟨m, mc, G, σL, p, by
  cases e : f σL G with
  | ok a G' =>
    obtain ⟨fl, σL'⟩ := a
    rw [e] at q
    intro m' mc' H' σ' e1 e2 kp r qq
    have z := q m' mc' H' σ' e1 e2 kp r qq
    cases fl <;> exact z
  | exn n G' =>
    rw [e] at q
    exact q
  | stuck =>
    rw [e] at q
    exact q⟩⟩
end
section
variable {S : Stat} {B : Tabs} {P : Program} {w : World} {mg : Str → Option Value} {base : Heap} {d : Nat} {C : CallT}
abbrev WE (E : XK) : WX := fun cls dd _ H' => E cls dd H'
theorem lam_ok {k : Nat} {A : CodeA} {cl : List (Str × Addr)} {f c : Addr} {Ar : Around} {outer : List Env} {s : Shared} {H : Hp} {E : XK} (hc : ∀ c0, S.cc k = some c0 → c = c0) (T : Ctx S (kcx P w S.K mg base A cl f c Ar outer s H E) (WE E) d C) (c0 : Addr) (e : S.cc k = some c0) : LamOk S (kcx P w S.K mg base A cl f c Ar outer s H E) k := by
  obtain ⟨Q, h1, h2, h3⟩ := T.tab k c0 e
  have := hc c0 e
  subst this
  exact ⟨_, Q, rfl, h1, h2, h3⟩
theorem body_s {k : Nat} {cd : Code} {b : List Stmt} (M : MdOk S B mg) (hb : (S.cs k).body = .stmts b) (h : ∀ (cl : List (Str × Addr)) (f c : Addr) (A : Around) (outer : List Env) (s : Shared) (H : Hp) (E : XK), Cy S B (kcx P w S.K mg base (S.cs k) cl f c A outer s H E) (WE E) d C → (∀ c0, S.cc k = some c0 → LamOk S (kcx P w S.K mg base (S.cs k) cl f c A outer s H E) k) →
    RL S (kcx P w S.K mg base (S.cs k) cl f c A outer s H E) (WE E) C b cd.body) : BodyOk S P w mg base d C k cd := by
  intro cl f c A outer s H E hc T
  rw [hb]
  exact pss_tS (h cl f c A outer s H E ⟨T, M⟩ (lam_ok hc T))
theorem body_e {k : Nat} {cd : Code} {e : Expr} {t : T} (M : MdOk S B mg) (hb : (S.cs k).body = .expr e) (ht : cd.body = .ret t) (h : ∀ (cl : List (Str × Addr)) (f c : Addr) (A : Around) (outer : List Env) (s : Shared) (H : Hp) (E : XK), Cy S B (kcx P w S.K mg base (S.cs k) cl f c A outer s H E) (WE E) d C → (∀ c0, S.cc k = some c0 → LamOk S (kcx P w S.K mg base (S.cs k) cl f c A outer s H E) k) →
    RE S (kcx P w S.K mg base (S.cs k) cl f c A outer s H E) (WE E) C e t) : BodyOk S P w mg base d C k cd := by
  intro cl f c A outer s H E hc T
  rw [hb]
  refine ⟨⟨t, ht⟩, PE_same (h cl f c A outer s H E ⟨T, M⟩ (lam_ok hc T)) fun σ g => ?_⟩
  rw [ht]
  show retOf (((den t).e C σ g).bind fun v g => .ok (.rt v, σ) g) = (den t).e C σ g
  cases (den t).e C σ g <;> rfl
end
end MP
namespace MP
open PySem PySem.Spec L2
open PyProof.Rows hiding St

/-! ### places in the text -/
inductive Nd where
  | e (x : Expr) | s (x : Stmt) | none
def Nd.kids : Nd → List Nd
  | .e (.BoolOp _ vs _) => vs.map Nd.e
  | .e (.BinOp l _ r _) => [.e l, .e r]
  | .e (.UnaryOp _ x _) => [.e x]
  | .e (.IfExp c a b _) => [.e c, .e a, .e b]
  | .e (.Dict ks vs _) => (ks.filterMap id ++ vs).map Nd.e
  | .e (.ListComp x gs _ _) => .e x :: gs.flatMap fun g => .e g.iter :: g.ifs.map Nd.e
  | .e (.Compare l _ cs _) => .e l :: cs.map Nd.e
  | .e (.Call f as ks _) => .e f :: (as.map Nd.e ++ ks.map fun k => .e k.value)
  | .e (.Attribute v _ _) => [.e v]
  | .e (.Subscript v i _) => [.e v, .e i]
  | .e (.List es _) => es.map Nd.e
  | .e (.Tuple es _ _) => es.map Nd.e
  | .e (.Lambda _ b _ _) => [.e b]
  | .s (.FunctionDef _ _ b _ _ _ _ _ _ _) => b.map Nd.s
  | .s (.Return (some v) _) => [.e v]
  | .s (.Assign _ v _) => [.e v]
  | .s (.For _ it b _ _) => .e it :: b.map Nd.s
  | .s (.While c b _ _) => .e c :: b.map Nd.s
  | .s (.If c a b _) => .e c :: (a.map Nd.s ++ b.map Nd.s)
  | .s (.Try b _ _ _ _) => b.map Nd.s
  | .s (.Expr v _) => [.e v]
  | _ => []
def Nd.at : Nd → List Nat → Nd
  | n, [] => n
  | n, i :: r => (n.kids.getD i .none).at r
def Nd.stmts : Nd → List Stmt
  | .s (.FunctionDef _ _ b _ _ _ _ _ _ _) => b
  | _ => []
def Nd.expr : Nd → Expr
  | .e (.Lambda _ b _ _) => b
  | _ => .Constant .none 0 ⟨0, 0, 0, 0⟩
def topNd (P : Program) (i : Nat) : Nd := .s (P.main.body.getD i (.Pass ⟨0, 0, 0, 0⟩))
/-- the code of a def, of a lambda -/
def cdA (n : Nd) (qual : Str) (N ps fr : List Str) : CodeA := match n with
  | .s (.FunctionDef _ a b _ _ _ sc _ _ _) => ⟨qual, a, .stmts b, sc, N, ps, fr⟩
  | .e (.Lambda a b sc _) => ⟨qual, a, .expr b, sc, N, ps, fr⟩
  | _ => ⟨qual, ⟨[], [], none, [], [], none, []⟩, .stmts [], ⟨.function, [], false, false, []⟩, N, ps, fr⟩
def codeB (A : CodeA) (np nc ns : Nat) (cells : List Nat) : Bool :=
  kscB A && (decide (np = A.ps.length) && (decide (nc = A.fr.length) && (decide (ns = A.N.length) && (decide cells.Nodup && (cells.all (fun i => match A.N[i]? with
    | some x => decide (A.scope.names.lookup x = some .cell)
    | none => false) && (List.range A.N.length).all fun i => match A.N[i]? with
    | some x => !decide (A.scope.names.lookup x = some .cell) || cells.contains i
    | none => true)))))
theorem code_by {A : CodeA} {cd : Code} (h : codeB A cd.np cd.nc cd.ns cd.cells = true) : CodeOk A cd := by
  unfold codeB at h
  simp only [Bool.and_eq_true, decide_eq_true_eq, List.all_eq_true] at h
  obtain ⟨h1, h2, h3, h4, h5, h6, h7⟩ := h
  refine ⟨kscope_by h1, h2, h3, h4, h5, fun i hi => ?_, fun i x hi hx => ?_⟩
  · have q := h6 i hi
    cases e : A.N[i]? with
    | none => rw [e] at q; cases q
    | some x =>
      rw [e] at q
      exact ⟨x, rfl, of_decide_eq_true q⟩
  · have q := h7 i (List.mem_range.mpr (List.getElem?_eq_some_iff.mp hi).1)
    rw [hi] at q
    have q : (!decide (A.scope.names.lookup x = some .cell) || cd.cells.contains i) = true := q
    rw [hx] at q
    simpa using q
end MP
namespace MP
open PySem PySem.Spec L2
open PyProof.Rows hiding St

/-- the heap at the law's call: the script alone -/
def g0 (ns : List Int) : GH := ⟨1, .nd (some (.fro (ns.map LV.int))) .nil .nil, 0, []⟩
abbrev tabO : Obj := { cls := .none, data := .fields #[] }
abbrev lstO (vs : List Value) : Obj := { cls := .type "list", data := .seq vs.toArray }
/-- the abstract heap there -/
def H0 (a : Addr) (ts : List Addr) (vs : List Value) (ns : List Int) : Hp := fun b => if b = a then some (.frz (lstO vs) (.lst (ns.map V.int))) else if b ∈ ts then some (.tbl #[]) else none
section
variable {S : Stat} {a : Addr} {vs : List Value} {ns : List Int} {ts : List Addr} {h : Heap}
theorem H0_a : H0 a ts vs ns a = some (.frz (lstO vs) (.lst (ns.map V.int))) := if_pos rfl
theorem H0_t {b : Addr} (h1 : b ≠ a) (h2 : b ∈ ts) : H0 a ts vs ns b = some (.tbl #[]) := (if_neg h1).trans (if_pos h2)
theorem H0_n {b : Addr} (h1 : b ≠ a) (h2 : b ∉ ts) : H0 a ts vs ns b = none := (if_neg h1).trans (if_neg h2)
/-- what is neither stays untracked -/
theorem H0_off {b : Addr} {o : Obj} (ha : h.get? a = some (lstO vs)) (hT : ∀ b ∈ ts, h.get? b = some tabO) (e : h.get? b = some o) (h1 : o ≠ lstO vs) (h2 : o ≠ tabO) : H0 a ts vs ns b = none := by
  refine H0_n (fun z => ?_) fun z => ?_
  · rw [z, ha] at e
    exact h1 (Option.some.inj e).symm
  · rw [hT b z] at e
    exact h2 (Option.some.inj e).symm
theorem g0_get (n : Nat) (o : GO) (e : (g0 ns).t.get n = some o) : n = 0 ∧ o = .fro (ns.map LV.int) := by
  have e : (if n = 0 then some (GO.fro (ns.map LV.int)) else if n % 2 = 1 then Tr.get .nil (n / 2) else Tr.get .nil (n / 2 - 1)) = some o := e
  by_cases h : n = 0
  · rw [if_pos h] at e
    exact ⟨h, (Option.some.inj e).symm⟩
  · rw [if_neg h] at e
    split at e <;> cases e
theorem rel0 (hF : S.F = fun _ => none) (hT : ∀ p ∈ S.T, p.1 ∈ ts) (aT : a ∉ ts) : Rel S (capt []) (fun n => if n = 0 then some a else none) (fun _ => none) (g0 ns) (H0 a ts vs ns) := by
  refine ⟨⟨fun n o e => ?_, fun n n' b e1 e2 => ?_, fun n b e => ?_, fun n hn => ?_, fun p hp => ?_, fun n b e => (nomatch e), fun b u e => (by rw [hF] at e; cases e), fun n b e => (by rw [hF])⟩, ⟨fun n ov e => (nomatch e), fun n n' ov ov' b e => (nomatch e)⟩⟩
  · obtain ⟨rfl, rfl⟩ := g0_get n o e
    exact ⟨a, rfl, ns.map V.int, .inr ⟨_, H0_a⟩, RVs_ints ns⟩
  · by_cases z : n = 0
    · by_cases z' : n' = 0
      · rw [z, z']
      · have e2 : (if n' = 0 then some a else none) = some b := e2
        rw [if_neg z'] at e2
        cases e2
    · have e1 : (if n = 0 then some a else none) = some b := e1
      rw [if_neg z] at e1
      cases e1
  · have e : (if n = 0 then some a else none) = some b := e
    by_cases z : n = 0
    · exact ⟨.fro (ns.map LV.int), by rw [z]; rfl⟩
    · rw [if_neg z] at e
      cases e
  · have hn : 1 ≤ n := hn
    show (if n = 0 then some (GO.fro (ns.map LV.int)) else if n % 2 = 1 then Tr.get .nil (n / 2) else Tr.get .nil (n / 2 - 1)) = none
    rw [if_neg (by omega)]
    split <;> rfl
  · have hb := hT p hp
    exact ⟨#[], H0_t (fun z => aT (by rw [← z]; exact hb)) hb, by trivial, fun pos cv e => by cases e⟩
end
/-- the law's call -/
theorem mp_call {P : Program} {w : World} {S : Stat} {mg mb : Str → Option Value} {s₁ : Shared} {a : Addr} {vs : List Value} {ns : List Int} {cs : List Code} {k d : Nat} {x : Str}
    (KX : S.K.In s₁.heap) (hns : s₁.heap.Ns mainGlobals mg) (hb : s₁.heap.Ns builtinsNs mb) (hbb : ∀ x : Str, x ≠ "__name__" → mb x = bootBuiltins x) (hlim : s₁.heap.NoLimit) (hg : s₁.gens = #[])
    (hT : ∀ p ∈ S.T, s₁.heap.get? p.1 = some tabO) (nT : ∀ p ∈ S.T, S.K.lookup p.1 = none) (hC : ∀ k c0, S.cc k = some c0 → ∃ P0, PySem.W.codeHdIn S.K c0 P0 = true ∧ (P0, S.nm k) ∈ S.T ∧ ∀ p ∈ S.T, p.1 = P0 → p.2 = S.nm k)
    (hCT : ∀ p ∈ S.T, ∃ c0, PySem.W.codeHdIn S.K c0 p.1 = true) (hbm : ∃ (bm : Addr) (ob : Obj), mg "__builtins__" = some (.ref bm) ∧ bm ≠ builtinsNs ∧ s₁.heap.get? bm = some ob ∧ ob.cls = .type "module" ∧ ob.dict = some builtinsNs ∧ ob.data = .plain)
    (ha : s₁.heap.get? a = some (lstO vs)) (hi : IntsAre vs ns) (hl : ns.length ≤ sizeLine) (nl : S.K.lookup a = none) (hr : Room (d + 1) callerA) (hG : ∀ k, S.gf k = true → GloFn S k) (hk : S.gf k = true)
    (hB : ∀ F base d k cd, cs[k]? = some cd → CodeOk (S.cs k) cd ∧ BodyOk (S.wF F) P w mg base d (callF cs d) k cd) (hF : S.F = fun _ => none) (plain : ∃ G', callF cs d k [] [.loc 0] (g0 ns) = .ok (.bl true) G') :
    codeAny (model P w) callerA (.call (.ref (S.ga k)) ⟨[.ref a], []⟩) (fun r s' => r = .ok (.ret (.bool true)) ∧ OldK s₁.heap s'.heap ∧ s'.os = s₁.os ∧ AllBare s'.gens) s₁ := by
  have rv := vals_ints hi
  generalize hts : S.T.map (·.1) = ts
  have inT : ∀ p ∈ S.T, p.1 ∈ ts := fun p hp => by rw [← hts]; exact List.mem_map.mpr ⟨p, hp, rfl⟩
  have tT : ∀ b ∈ ts, s₁.heap.get? b = some tabO ∧ S.K.lookup b = none := fun b h => by
    rw [← hts] at h
    obtain ⟨p, hp, rfl⟩ := List.mem_map.mp h
    exact ⟨hT p hp, nT p hp⟩
  have aT : a ∉ ts := fun z => by
    have q := (tT a z).1
    rw [ha] at q
    exact Data.noConfusion (congrArg Obj.data (Option.some.inj q))
  generalize hH : H0 a ts vs ns = H
  have Ha : H a = some (.frz (lstO vs) (.lst (ns.map V.int))) := by rw [← hH]; exact H0_a
  have Ht : ∀ b ∈ ts, H b = some (.tbl #[]) := fun b hb => by rw [← hH]; exact H0_t (fun z => aT (by rw [← z]; exact hb)) hb
  have Hn : ∀ b, H b = none ∨ b = a ∨ b ∈ ts := fun b => by
    by_cases z : b = a
    · exact .inr (.inl z)
    · by_cases z' : b ∈ ts
      · exact .inr (.inr z')
      · exact .inl (by rw [← hH]; exact H0_n z z')
  have off : ∀ {b : Addr} {o : Obj}, s₁.heap.get? b = some o → o ≠ lstO vs → o ≠ tabO → H b = none := fun e h1 h2 => by rw [← hH]; exact H0_off ha (fun b hb => (tT b hb).1) e h1 h2
  have hok : HOk P w H s₁.heap := fun b u e => by
    rcases Hn b with z | z | z
    · rw [z] at e
      cases e
    · rw [z, Ha] at e
      cases e
      rw [z]
      exact ⟨ha, by rw [List.length_map]; exact hl, vs, _, rv, ha⟩
    · rw [Ht b z] at e
      cases e
      exact (tT b z).1
  have into : ∀ {b : Addr} {o : Obj}, s₁.heap.get? b = some o → H b = none → (hidT s₁.heap H).get? b = some o := fun e n => hidT_get e n
  have nsK : ∀ {b : Addr} {m : Str → Option Value}, s₁.heap.Ns b m → (hidT s₁.heap H).Ns b m := fun {b m} ⟨o, es, ep, e, dd, r⟩ => ⟨o, es, ep, into e (off e (fun z => by rw [z] at dd; cases dd) fun z => by rw [z] at dd; cases dd), dd, r⟩
  have hKb : S.K.In (hidT s₁.heap H) := fun b o e => into (KX b o e) (by
    rcases Hn b with z | z | z
    · exact z
    · rw [z, nl] at e
      cases e
    · rw [(tT b z).2] at e
      cases e)
  have hM : L2.Mod S.K mg (hidT s₁.heap H) := ⟨hKb, nsK hns, ⟨mb, nsK hb, hbb⟩, let ⟨mc, h1, h2⟩ := hlim; ⟨mc, nsK h1, h2⟩⟩
  have TB : ∀ k c0, S.cc k = some c0 → ∃ P0, LamX.TabB (hidT s₁.heap H) mg c0 P0 ∧ (P0, S.nm k) ∈ S.T ∧ ∀ p ∈ S.T, p.1 = P0 → p.2 = S.nm k := fun k c0 e => by
    obtain ⟨P0, h1, h2, h3⟩ := hC k c0 e
    obtain ⟨bm, ob, b1, b2, b3, b4, b5, b6⟩ := hbm
    have oP := (tT P0 (inT _ h2)).1
    obtain ⟨oG, es, ep, eG, dG, _⟩ := id hns
    refine ⟨P0, NdefX.tabB_of_K hKb h1 ⟨bm, ob, b1, b2, fun q => ?_, fun q => ?_, into b3 (off b3 (fun z => by rw [z] at b6; cases b6) fun z => by rw [z] at b6; cases b6), b4, b5, b6⟩ fun q => ?_, h2, h3⟩
    · rw [q, eG] at b3
      cases b3
      rw [dG] at b6
      cases b6
    · rw [q, oP] at b3
      cases b3
      cases b6
    · rw [q, oP] at eG
      cases eG
      cases dG
  have e0 : Env0 P w S.K mg (hidT s₁.heap H) callerA [] s₁ H := ⟨rfl, hM, fun b o e => of_hidT e, Nat.le_of_eq (hidT_size _ _), trivial, fun b hb => (nomatch hb), hok, .of_eq hg⟩
  obtain ⟨od, fd, slo, c, f1, ic, f2, f3⟩ := hG k hk
  obtain ⟨G', hp⟩ := plain
  have SD : Sound S P w mg (hidT s₁.heap H) d (callF cs d) := sound_all (P := P) (w := w) (mg := mg) (base := hidT s₁.heap H) (fun F d k cd => hB F _ d k cd) hG TB d S.F
  obtain ⟨KS, lps⟩ := SD.ok k [] [.loc 0] (g0 ns) (by rw [hp]; intro z; cases z)
  have ndp : (S.cs k).ps.Nodup := by
    have q : ((S.cs k).ps ++ (S.cs k).fr).Nodup := by rw [← KS.pre]; exact KS.nd.sublist (List.take_sublist _ _)
    exact (List.nodup_append.mp q).1
  have R := rel0 (S := S) (ns := ns) (vs := vs) hF inT aT
  rw [hH] at R
  refine codeAny_mono (SD.run k [] [.loc 0] (g0 ns) callerA [] s₁ H (S.ga k) c [] od fd slo [.ref a] [.ref a] ⟨[.ref a], []⟩ (fun n => if n = 0 then some a else none) (fun _ => none) (fun v _ => v = .bl true) (fun _ _ _ => False) hr rfl e0 (KX _ _ f1) ic (PySem.W.codeRec_of KX f2)
    ⟨⟨by rw [f3]; rfl, fun i y n h2 => by rw [f3] at h2; simp at h2, fun y c h2 => (nomatch h2), fun x y c h2 => (nomatch h2), fun y b h2 => absurd h2 (by simp)⟩, fun j hj => absurd hj (by simp)⟩ (fun b n ov ⟨y, hy⟩ => (nomatch hy))
    (BindsTo.of_eq (bindArgs_plain (by rw [ic.params]; exact KS.p1) (by rw [ic.params]; exact KS.p2) (by rw [ic.params]; exact KS.p3) (by rw [ic.params]; exact KS.p4) (by rw [ic.params]; exact KS.p5) ic.dfl ndp lps)) (.cons rfl .nil) ⟨.ref a, [], rfl, ⟨a, rfl, rfl⟩, rfl⟩ R ?_) fun r s' q => ?_
  · rw [hp]
    exact fun m' mc' H' v _ _ _ _ rv => rv
  · cases r with
    | error e =>
      obtain ⟨_, _, _, _, _, _, _, _, _, _, _, _, z⟩ := q
      exact z.elim
    | ok fl =>
      cases fl with
      | next => exact False.elim q
      | brk => exact False.elim q
      | cont => exact False.elim q
      | ret u =>
        obtain ⟨v, H', os, bare, un, hok', rv', rfl⟩ := q
        obtain rfl : u = Value.bool true := rv'
        have grown : ∀ b ∈ ts, ∃ more : Array Value, s'.heap.get? b = some { cls := .none, data := .fields more } := fun b hb => by
          obtain ⟨more, z⟩ := un.tbls b #[] (Ht b hb)
          exact ⟨_, hok' b _ z⟩
        have kept : ∀ b o, b ∉ ts → s₁.heap.get? b = some o → s'.heap.get? b = some o := fun b o nb e => by
          rcases Hn b with z | z | z
          · exact un.keep b o e z (by intro y; exact absurd (show b ∈ ([] : List Addr) from y) (by simp)) (by simp)
          · rw [z] at e ⊢
            rw [ha] at e
            cases e
            exact (hok' a _ (un.frzs a _ _ Ha)).1
          · exact absurd z nb
        have isTab : ∀ b ∈ ts, isCodeTable s₁.heap b := fun b hb => by
          have z := (tT b hb).1
          rw [← hts] at hb
          obtain ⟨p, hp, rfl⟩ := List.mem_map.mp hb
          obtain ⟨c0, h0⟩ := hCT p hp
          exact ((PySem.W.codeHd_of_K KX h0).tab z).isCodeTable
        refine ⟨rfl, ⟨fun b o e => ?_, fun b o e => ?_⟩, os, bare⟩
        · by_cases z : b ∈ ts
          · obtain ⟨more, hm⟩ := grown b z
            rw [(tT b z).1] at e
            cases e
            exact .inr (.inl ⟨isTab b z, rfl, #[], more, rfl, by rw [Array.empty_append]; exact hm⟩)
          · exact .inl (kept b o z e)
        · by_cases z : b ∈ ts
          · obtain ⟨more, hm⟩ := grown b z
            exact ⟨_, hm⟩
          · exact ⟨o, kept b o z e⟩
end MP
namespace MP
open PySem PySem.Spec L2
open PyProof.Rows hiding St

/-- all tables of one program -/
structure Tx where
  cas : List CodeA
  dflt : CodeA
  fn : List Str
  xn : List Str
  ne : List Nat
  nms : List (Nat × List ((Nat × Nat) × Str))
  tb : Tabs
def Tx.fa (t : Tx) (K : PySem.W.Frag) (k : Nat) : Addr := He.ga K (t.fn.getD k "")
def Tx.cd (t : Tx) (K : PySem.W.Frag) (k : Nat) : Addr × Addr := He.cT K (t.fn.getD k "", none)
def Tx.nm (t : Tx) (k : Nat) : Nat → Nat → Str := fun l c => (((t.nms.lookup k).getD []).lookup (l, c)).getD ""
def Tx.st (t : Tx) (K : PySem.W.Frag) : Stat where
  K := K
  cs := fun k => t.cas.getD k t.dflt
  ga := t.fa K
  xa := fun k => He.ga K (t.xn.getD k "")
  gf := fun k => Nat.blt k t.fn.length
  cc := fun k => if t.ne.contains k then some (t.cd K k).1 else none
  nm := t.nm
  T := t.ne.map fun k => ((t.cd K k).2, t.nm k)
  F := fun _ => none
/-! what is asked of the head -/
def defOf (A : CodeA) (x : Str) : He.DefD := ⟨(x, none), x, x, A.params, (match A.body with | .stmts b => b | .expr _ => []), A.scope, [], []⟩
def Tx.defs (t : Tx) : List He.DefD := (List.range t.fn.length).map fun k => defOf (t.cas.getD k t.dflt) (t.fn.getD k "")
def Tx.facts (t : Tx) : List He.Fa :=
  t.fn.map He.Fa.glo ++ (t.xn.map He.Fa.glo ++ (t.tb.bt.map He.Fa.free ++ (t.tb.it.map (fun p => He.Fa.int p.1 p.2) ++ (t.xn.map He.Fa.exc ++ (t.tb.ex.map (fun p => He.Fa.exm (t.xn.getD p.1 "") (t.xn.getD p.2 "") true) ++ t.fn.map He.Fa.keep)))))
def eqOO (a b : Option (Option Value)) : Bool := decide (a = b)
def excCB (K : PySem.W.Frag) (D : Addr) : Bool :=
  eqOO (PySem.W.findIn K (.ref D) "__getattribute__") (some (some (.builtin "BaseException.__getattribute__"))) && (eqOO (PySem.W.findIn K (.ref D) "__getattr__") (some none) && (decide (PySem.W.subIn K (.ref D) (.type "BaseException") = some true) && (PySem.W.hasDictIn K D &&
    (eqOO (PySem.W.findIn K (.ref D) "__class__") (some (some (.builtin "object.__class__"))) && (eqOO (PySem.W.specialIn K (.builtin "object.__class__") "__get__") (some (some (.builtin "getset_descriptor.__get__"))) && (decide (PySem.W.takesIn K (.builtin "object.__class__") = some true) && decide (PySem.W.mroIn K D (.type "object") = some true)))))))
theorem excC_by {K : PySem.W.Frag} {D : Addr} (h : excCB K D = true) : ExcC K D := by
  unfold excCB eqOO at h
  simp only [Bool.and_eq_true, decide_eq_true_eq] at h
  obtain ⟨h1, h2, h3, h4, h5, h6, h7, h8⟩ := h
  exact ⟨h1, h2, h3, h4, h5, h6, h7, h8⟩
def tys : List Ty := [.non, .bl, .int, .str, .tup, .lst, .dic]
def xoB (K : PySem.W.Frag) (D : Addr) : Bool := excCB K D && (decide (PySem.W.kitOne K (.ref D) (.ref D) = some true) && tys.all fun t => decide (PySem.W.kitOne K (tyV t) (.ref D) = some false))
theorem xo_by {S : Stat} {k : Nat} (h : xoB S.K (S.xa k) = true) : XOk S k := by
  unfold xoB at h
  simp only [Bool.and_eq_true, decide_eq_true_eq, List.all_eq_true] at h
  obtain ⟨h1, h2, h3⟩ := h
  refine ⟨excC_by h1, h2, fun t ht => h3 t ?_⟩
  cases t with
  | exc j => exact absurd rfl (ht j)
  | _ => simp [tys]
def fnB (K : PySem.W.Frag) (a : Addr) : Bool := match K.lookup a with
  | some ⟨.type c, _, .func fd, _⟩ => decide (c = "function") && (match fd.defaults with | .none => true | _ => false)
  | _ => false
def noLists (K : PySem.W.Frag) : Bool := K.all fun p => match p.2.cls with
  | .type c => !decide (c = "list")
  | _ => true
/-- what else is asked -/
def Tx.more (t : Tx) (K : PySem.W.Frag) : Bool := noLists K && (t.xn.all (fun x => xoB K (He.ga K x)) && (t.fn.all (fun x => fnB K (He.ga K x)) && decide ((t.ne.map fun k => (t.cd K k).2).Nodup)))
/-- the nested ones' tables -/
def Tx.tf (t : Tx) : List He.Defn := t.ne.map fun k => (t.fn.getD k "", none)
/-- the tables agree with one another -/
def Tx.okB (t : Tx) : Bool := t.ne.all (fun k => Nat.blt k t.fn.length) && (decide (t.tb.gt = (List.range t.fn.length).map fun k => (t.fn.getD k "", k)) && (decide (t.tb.xt = (List.range t.xn.length).map fun k => (t.xn.getD k "", k)) &&
  (List.range t.fn.length).all fun k => decide ((t.cas.getD k t.dflt).qual = t.fn.getD k "") && ((t.cas.getD k t.dflt).fr.isEmpty && (match (t.cas.getD k t.dflt).body with | .stmts _ => true | .expr _ => false))))
theorem lookup_range {x : Str} {n k : Nat} {f : Nat → Str} (h : ((List.range n).map fun k => (f k, k)).lookup x = some k) : k < n ∧ f k = x := by
  have m := PySem.mem_of_lookup h
  obtain ⟨j, hj, e⟩ := List.mem_map.mp m
  cases e
  exact ⟨List.mem_range.mp hj, rfl⟩
section
variable {t : Tx} {w : World} {h : Heap} {K : PySem.W.Frag} {mg : Str → Option Value}
theorem getD_mem {α : Type} {l : List α} {k : Nat} {d : α} (h : k < l.length) : l.getD k d ∈ l := by
  rw [List.getD_eq_getElem?_getD, List.getElem?_eq_getElem h]
  exact List.getElem_mem h
theorem md_of (ok : t.okB = true) (X : K.In h) (G : h.Ns mainGlobals mg) (c : He.SaysX t.facts t.defs [] t.tf t.more w h K) : MdOk (t.st K) t.tb mg := by
  unfold Tx.okB at ok
  simp only [Bool.and_eq_true, decide_eq_true_eq] at ok
  obtain ⟨_, o2, o3, _⟩ := ok
  have cd := c.t.d
  have cm := c.more
  unfold Tx.more at cm
  simp only [Bool.and_eq_true, List.all_eq_true] at cm
  obtain ⟨_, m2, _, _⟩ := cm
  have fact : ∀ {f : He.Fa}, f ∈ t.facts → f.ok K = true := fun hf => cd.facts hf
  refine ⟨fun x k e => ?_, fun k e => ?_, fun x e => ?_, fun x i e => ?_, fun x k e => ?_, fun k e => ⟨xo_by (m2 _ ?_), ?_⟩, fun p e => ?_⟩
  · rw [o2] at e
    obtain ⟨hk, rfl⟩ := lookup_range e
    have gf : Nat.blt k t.fn.length = true := by rw [Nat.blt_eq]; exact hk
    exact ⟨He.glo_ok X G (fact (List.mem_append_left _ (List.mem_map.mpr ⟨_, getD_mem hk, rfl⟩))), gf⟩
  · have hk : k < t.fn.length := by
      have e : Nat.blt k t.fn.length = true := e
      rwa [Nat.blt_eq] at e
    refine He.keep_ok (fact ?_)
    unfold Tx.facts
    simp only [List.mem_append, List.mem_map]
    exact .inr (.inr (.inr (.inr (.inr (.inr ⟨_, getD_mem hk, rfl⟩)))))
  · refine He.free_ok X G (fact ?_)
    unfold Tx.facts
    simp only [List.mem_append, List.mem_map]
    exact .inr (.inr (.inl ⟨x, by simpa using e, rfl⟩))
  · refine He.int_ok X G (fact ?_)
    unfold Tx.facts
    simp only [List.mem_append, List.mem_map]
    exact .inr (.inr (.inr (.inl ⟨(x, i), PySem.mem_of_lookup e, rfl⟩)))
  · rw [o3] at e
    obtain ⟨hk, rfl⟩ := lookup_range e
    refine He.glo_ok X G (fact ?_)
    unfold Tx.facts
    simp only [List.mem_append, List.mem_map]
    exact .inr (.inl ⟨_, getD_mem hk, rfl⟩)
  · rw [o3, List.length_map, List.length_range] at e
    exact getD_mem e
  · rw [o3, List.length_map, List.length_range] at e
    obtain ⟨q1, q2, q3, q4⟩ := He.exc_ok (K := K) (x := t.xn.getD k "") (fact (by
      unfold Tx.facts
      simp only [List.mem_append, List.mem_map]
      exact .inr (.inr (.inr (.inr (.inl ⟨_, getD_mem e, rfl⟩))))))
    exact ⟨⟨_, _, _, _, PySem.F.excBase_ValueError, q1⟩, q2, q3, q4⟩
  · refine He.exm_ok (K := K) (x := t.xn.getD p.1 "") (y := t.xn.getD p.2 "") (fact ?_)
    unfold Tx.facts
    simp only [List.mem_append, List.mem_map]
    exact .inr (.inr (.inr (.inr (.inr (.inl ⟨p, by simpa using e, rfl⟩)))))
theorem fn_of (ok : t.okB = true) (c : He.SaysX t.facts t.defs [] t.tf t.more w h K) (k : Nat) (hk : (t.st K).gf k = true) : GloFn (t.st K) k := by
  have hk : k < t.fn.length := by
    have e : Nat.blt k t.fn.length = true := hk
    rwa [Nat.blt_eq] at e
  unfold Tx.okB at ok
  simp only [Bool.and_eq_true, decide_eq_true_eq, List.all_eq_true] at ok
  obtain ⟨o1, _, _, o4⟩ := ok
  obtain ⟨z1, z2, z3⟩ := o4 k (List.mem_range.mpr hk)
  have cm := c.more
  unfold Tx.more at cm
  simp only [Bool.and_eq_true, List.all_eq_true] at cm
  obtain ⟨_, _, m3, _⟩ := cm
  have f0 := m3 (t.fn.getD k "") (getD_mem hk)
  obtain ⟨fd, F⟩ := c.t.d.defs (d := defOf (t.cas.getD k t.dflt) (t.fn.getD k "")) (List.mem_map.mpr ⟨k, List.mem_range.mpr hk, rfl⟩)
  obtain ⟨⟨oc, od, dV, kV, doc, pm, an, cdv, ct, osl, e1, e2, e3, e4, _⟩, kp⟩ := F
  have e2 : K.lookup (He.ga K (t.fn.getD k "")) = some ⟨oc, od, .func fd, osl⟩ := e2
  unfold fnB at f0
  rw [e2] at f0
  obtain ⟨c0, rfl⟩ := He.codeIn_ref e3
  cases oc with
  | type cn =>
    have f0 : (decide (cn = "function") && (match fd.defaults with | .none => true | _ => false)) = true := f0
    rw [Bool.and_eq_true, decide_eq_true_eq] at f0
    obtain ⟨rfl, f1⟩ := f0
    have ed : fd.defaults = .none := by
      cases q : fd.defaults with
      | none => rfl
      | _ => rw [q] at f1; cases f1
    refine ⟨od, fd, osl, c0, e2, ⟨?_, ?_, ?_, ?_, ?_, ?_, ed, ?_, ?_, fun c1 z => ?_⟩, ?_, ?_⟩
    · rw [e1]; exact z1.symm
    · rw [e1]; rfl
    · rw [e1]
      show FuncBody.stmts (match (t.cas.getD k t.dflt).body with | .stmts b => b | .expr _ => []) = (t.cas.getD k t.dflt).body
      cases q : (t.cas.getD k t.dflt).body with
      | stmts b => rfl
      | expr e => rw [q] at z3; cases z3
    · rw [e1]; rfl
    · rw [e1]
    · rw [e1]
    · rw [e1]
    · rw [e1]
    · have z : (if t.ne.contains k = true then some (t.cd K k).1 else none) = some c1 := z
      by_cases y : t.ne.contains k = true
      · rw [if_pos y] at z
        cases z
        exact (He.codeOf_eq (K := K) (p := (t.fn.getD k "", none)) e2 (by rw [e1])).symm
      · rw [if_neg y] at z
        cases z
    · show PySem.W.codeIn K (.ref c0) (t.cas.getD k t.dflt).qual = true
      rw [z1]
      exact e3
    · exact List.isEmpty_iff.mp z2
  | _ => cases f0
theorem md_wF {S : Stat} {B : Tabs} {mg : Str → Option Value} {F : Hp} (M : MdOk S B mg) : MdOk (S.wF F) B mg :=
  ⟨M.fn, M.kp, M.bt, M.it, M.xt, fun k hk => ⟨⟨(M.xo k hk).1.c, (M.xo k hk).1.me, (M.xo k hk).1.no⟩, ⟨(M.xo k hk).2.f, (M.xo k hk).2.kp, (M.xo k hk).2.sb, (M.xo k hk).2.ty⟩⟩, M.ex⟩
/-- the tables' distinctness -/
theorem tab_uniq {l : List Nat} {f : Nat → Addr} : (l.map f).Nodup → ∀ {j k : Nat}, j ∈ l → k ∈ l → f j = f k → j = k := by
  induction l with
  | nil => intro _ j k hj; cases hj
  | cons x r ih =>
    intro nd j k hj hk e
    obtain ⟨n1, n2⟩ := List.nodup_cons.mp nd
    rcases List.mem_cons.mp hj with z1 | z1
    · rcases List.mem_cons.mp hk with z2 | z2
      · rw [z1, z2]
      · exact absurd (List.mem_map.mpr ⟨k, z2, by rw [← e, z1]⟩) n1
    · rcases List.mem_cons.mp hk with z2 | z2
      · exact absurd (List.mem_map.mpr ⟨j, z1, by rw [e, z2]⟩) n1
      · exact ih n2 z1 z2 e
/-- the whole: from the head's facts and the plain law to the walk's end -/
theorem law_at {l : PySem.W.OpenLaw} {k d : Nat} {cs : List Code} {s₁ : Shared} {mb : Str → Option Value} {a : Addr} {vs : List Value} {ns : List Int} (ok : t.okB = true) (X : K.In s₁.heap) (G : s₁.heap.Ns mainGlobals mg) (c : He.SaysX t.facts t.defs [] t.tf t.more w s₁.heap K)
    (hb : s₁.heap.Ns builtinsNs mb) (hbb : ∀ x : Str, x ≠ "__name__" → mb x = bootBuiltins x) (hlim : s₁.heap.NoLimit) (hg : s₁.gens = #[])
    (hbm : ∃ (bm : Addr) (ob : Obj), mg "__builtins__" = some (.ref bm) ∧ bm ≠ builtinsNs ∧ s₁.heap.get? bm = some ob ∧ ob.cls = .type "module" ∧ ob.dict = some builtinsNs ∧ ob.data = .plain)
    (ha : s₁.heap.get? a = some (lstO vs)) (hi : IntsAre vs ns) (hl : ns.length ≤ sizeLine) (hr : Room (d + 1) callerA) (hk : k < t.fn.length)
    (hB : ∀ F base d k cd, cs[k]? = some cd → CodeOk ((t.st K).cs k) cd ∧ BodyOk ((t.st K).wF F) l.prog w mg base d (callF cs d) k cd) (plain : ∃ G', callF cs d k [] [.loc 0] (g0 ns) = .ok (.bl true) G') :
    codeAny (model l.prog w) callerA (.call (.ref (He.ga K (t.fn.getD k ""))) ⟨[.ref a], []⟩) (fun r s' => r = .ok (.ret (.bool true)) ∧ OldK s₁.heap s'.heap ∧ s'.os = s₁.os ∧ AllBare s'.gens) s₁ := by
  have ok2 := ok
  unfold Tx.okB at ok2
  simp only [Bool.and_eq_true, decide_eq_true_eq, List.all_eq_true] at ok2
  have cm := c.more
  unfold Tx.more at cm
  simp only [Bool.and_eq_true, List.all_eq_true, decide_eq_true_eq] at cm
  obtain ⟨m1, _, _, m4⟩ := cm
  have tfm : ∀ j ∈ t.ne, (t.fn.getD j "", none) ∈ t.tf := fun j hj => List.mem_map.mpr ⟨j, hj, rfl⟩
  have inT : ∀ p ∈ (t.st K).T, ∃ j ∈ t.ne, p = ((t.cd K j).2, t.nm j) := fun p hp => by
    obtain ⟨j, hj, e⟩ := List.mem_map.mp hp
    exact ⟨j, hj, e.symm⟩
  refine mp_call (S := t.st K) (cs := cs) (x := "") X G hb hbb hlim hg (fun p hp => ?_) (fun p hp => ?_) (fun j c0 e => ?_) (fun p hp => ?_) hbm ha hi hl ?_ hr (fn_of ok c) (show Nat.blt k t.fn.length = true by rw [Nat.blt_eq]; exact hk) hB rfl plain
  · obtain ⟨j, hj, rfl⟩ := inT p hp
    exact c.empty _ (tfm j hj)
  · obtain ⟨j, hj, rfl⟩ := inT p hp
    exact c.out _ (tfm j hj)
  · have e : (if t.ne.contains j = true then some (t.cd K j).1 else none) = some c0 := e
    by_cases y : t.ne.contains j = true
    · rw [if_pos y] at e
      cases e
      have hj : j ∈ t.ne := by simpa using y
      refine ⟨(t.cd K j).2, c.hd _ (tfm j hj), List.mem_map.mpr ⟨j, hj, rfl⟩, fun p hp ep => ?_⟩
      obtain ⟨i, hi, rfl⟩ := inT p hp
      rw [tab_uniq m4 hi hj ep]
      rfl
    · rw [if_neg y] at e
      cases e
  · obtain ⟨j, hj, rfl⟩ := inT p hp
    exact ⟨_, c.hd _ (tfm j hj)⟩
  · cases q : (t.st K).K.lookup a with
    | none => rfl
    | some o =>
      have q : K.lookup a = some o := q
      have e := X a o q
      rw [ha] at e
      cases e
      have z := List.all_eq_true.mp m1 _ (He.lookup_mem q)
      cases z
end
end MP
namespace MP
open PySem PySem.Spec L2
open PyProof.Rows hiding St

theorem walk_mp {l : PySem.W.OpenLaw} {t : Tx} {cs : List Code} {k d n : Nat} {q : Program} {loose : List Str} {XP : (Str → Option Value) → Heap → Prop} {dd : DefRec} (hn : l.most = some n) (hn2 : n ≤ sizeLine) (hdf : dd.params.defaults = []) (ok : t.okB = true) (hk : k < t.fn.length) (hname : t.fn.getD k "" = dd.name) (hr : Room (d + 1) callerA)
    (hB : ∀ (K : PySem.W.Frag) (F : Hp) (w : World) (mg : Str → Option Value) (base : Heap) (d k : Nat) (cd : Code), MdOk ((t.st K).wF F) t.tb mg → cs[k]? = some cd → CodeOk ((t.st K).cs k) cd ∧ BodyOk ((t.st K).wF F) l.prog w mg base d (callF cs d) k cd)
    (plain : ∀ ns : List Int, ns.length ≤ n → ∃ G', callF cs d k [] [.loc 0] (g0 ns) = .ok (.bl true) G') :
    PySem.W.WalkO q loose XP (fun w h => ∃ K : PySem.W.Frag, K.In h ∧ He.SaysX t.facts t.defs [] t.tf t.more w h K) l.row.toRowW dd [] (fun f vs => PySem.call f vs) := by
  refine Att.attach_callB hn hdf fun w s₀ s₁ mg mb fa o pm cd doc a vs ns G Y ho hd hcd hmg hobj hints hlen hbits hg => ?_
  obtain ⟨K, KX, c⟩ := Y
  have gl : mg (t.fn.getD k "") = some (.ref (He.ga K (t.fn.getD k ""))) := He.glo_ok KX G.T.g (c.t.d.facts (List.mem_append_left _ (List.mem_map.mpr ⟨_, getD_mem hk, rfl⟩)))
  rw [hname, hmg, ← hname] at gl
  have e : fa = He.ga K (t.fn.getD k "") := by
    have := Option.some.inj gl
    injection this
  rw [e]
  exact law_at ok KX G.T.g c G.T.b G.T.builtins G.T.nolimit hg G.T.bmain hobj hints (Nat.le_trans hlen hn2) hr hk (fun F base d k cd e => hB K F w mg base d k cd (md_wF (md_of ok KX G.T.g c)) e) (plain ns hlen)
end MP
namespace MP

/-! ### the trie, with total writing -/
def Tr.o : Tr → Option GO
  | .nil => none
  | .nd o _ _ => o
def Tr.l : Tr → Tr
  | .nil => .nil
  | .nd _ l _ => l
def Tr.r : Tr → Tr
  | .nil => .nil
  | .nd _ _ r => r
def W : Nat → Tr → Nat → GO → Tr
  | 0, _, _, _ => .nil
  | f + 1, t, n, a => if n = 0 then .nd (some a) t.l t.r else if n % 2 = 1 then .nd t.o (W f t.l (n / 2) a) t.r else .nd t.o t.l (W f t.r (n / 2 - 1) a)
theorem set_W : ∀ (f : Nat) (t : Tr) (n : Nat) (a : GO), n + 1 < 2 ^ f → Tr.set f t n a = some (W f t n a)
  | 0, t, n, a, h => by simp at h
  | f + 1, t, n, a, h => by
    have hp : 2 ^ (f + 1) = 2 * 2 ^ f := by rw [Nat.pow_succ, Nat.mul_comm]
    cases t with
    | nil =>
      unfold Tr.set W
      by_cases h0 : n = 0
      · simp [h0, Tr.l, Tr.r]
      · by_cases h1 : n % 2 = 1
        · simp [h0, h1, Tr.l, Tr.r, Tr.o, set_W f .nil (n / 2) a (by omega)]
        · simp [h0, h1, Tr.l, Tr.r, Tr.o, set_W f .nil (n / 2 - 1) a (by omega)]
    | nd o l r =>
      unfold Tr.set W
      by_cases h0 : n = 0
      · simp [h0, Tr.l, Tr.r]
      · by_cases h1 : n % 2 = 1
        · simp [h0, h1, Tr.l, Tr.r, Tr.o, set_W f l (n / 2) a (by omega)]
        · simp [h0, h1, Tr.l, Tr.r, Tr.o, set_W f r (n / 2 - 1) a (by omega)]
theorem W_W : ∀ (f : Nat) (t : Tr) (n : Nat) (a b : GO), W f (W f t n a) n b = W f t n b
  | 0, _, _, _, _ => rfl
  | f + 1, t, n, a, b => by
    by_cases h0 : n = 0
    · simp [W, h0, Tr.l, Tr.r]
    · by_cases h1 : n % 2 = 1
      · simp [W, h0, h1, Tr.l, Tr.r, Tr.o, W_W f]
      · simp [W, h0, h1, Tr.l, Tr.r, Tr.o, W_W f]
theorem W_comm : ∀ (f : Nat) (t : Tr) (n m : Nat) (a b : GO), n ≠ m → W f (W f t n a) m b = W f (W f t m b) n a
  | 0, _, _, _, _, _, _ => rfl
  | f + 1, t, n, m, a, b, h => by
    by_cases h0 : n = 0
    · have hm : m ≠ 0 := fun z => h (by rw [h0, z])
      by_cases k1 : m % 2 = 1
      · simp [W, h0, hm, k1, Tr.l, Tr.r, Tr.o]
      · simp [W, h0, hm, k1, Tr.l, Tr.r, Tr.o]
    · by_cases k0 : m = 0
      · by_cases h1 : n % 2 = 1
        · simp [W, h0, k0, h1, Tr.l, Tr.r, Tr.o]
        · simp [W, h0, k0, h1, Tr.l, Tr.r, Tr.o]
      · by_cases h1 : n % 2 = 1
        · by_cases k1 : m % 2 = 1
          · simp [W, h0, k0, h1, k1, Tr.l, Tr.r, Tr.o]
            exact W_comm f _ (n / 2) (m / 2) a b (by omega)
          · simp [W, h0, k0, h1, k1, Tr.l, Tr.r, Tr.o]
        · by_cases k1 : m % 2 = 1
          · simp [W, h0, k0, h1, k1, Tr.l, Tr.r, Tr.o]
          · simp [W, h0, k0, h1, k1, Tr.l, Tr.r, Tr.o]
            exact W_comm f _ (n / 2 - 1) (m / 2 - 1) a b (by omega)
abbrev S1 (t : Tr) (n : Nat) (o : GO) : Tr := W 40 t n o
theorem S1_get {t : Tr} {n : Nat} {o : GO} (h : n < 1073741824) (k : Nat) : (S1 t n o).get k = if k = n then some o else t.get k := Tr.get_set 40 t n o _ (set_W 40 t n o (by omega)) k
theorem alloc_S {g : GH} {o : GO} (h : g.size < 1073741824) : alloc o g = .ok (.loc g.size) ⟨g.size + 1, S1 g.t g.size o, g.cn, g.cs⟩ := by
  unfold alloc
  rw [set_W 40 g.t g.size o (by omega)]
theorem store_S {g : GH} {n : Nat} {o : GO} (h : n < 1073741824) : store n o g = .ok () ⟨g.size, S1 g.t n o, g.cn, g.cs⟩ := by
  unfold store
  rw [set_W 40 g.t n o (by omega)]
/-- several new objects -/
def al (g : GH) : List GO → GH
  | [] => g
  | o :: r => al ⟨g.size + 1, S1 g.t g.size o, g.cn, g.cs⟩ r
theorem al_size : ∀ (as : List GO) (g : GH), (al g as).size = g.size + as.length ∧ (al g as).cn = g.cn ∧ (al g as).cs = g.cs
  | [], g => ⟨rfl, rfl, rfl⟩
  | o :: r, g => by
    obtain ⟨h1, h2, h3⟩ := al_size r ⟨g.size + 1, S1 g.t g.size o, g.cn, g.cs⟩
    exact ⟨by rw [al, h1]; simp; omega, h2, h3⟩
theorem al_app : ∀ (as bs : List GO) (g : GH), al g (as ++ bs) = al (al g as) bs
  | [], bs, g => rfl
  | o :: r, bs, g => al_app r bs _
/-- an old object is written, behind or ahead -/
theorem al_wr {n : Nat} {d : GO} : ∀ (as : List GO) (g : GH), n < g.size → al ⟨g.size, S1 g.t n d, g.cn, g.cs⟩ as = ⟨(al g as).size, S1 (al g as).t n d, (al g as).cn, (al g as).cs⟩
  | [], g, _ => rfl
  | o :: r, g, h => by
    have e := al_wr (n := n) (d := d) r ⟨g.size + 1, S1 g.t g.size o, g.cn, g.cs⟩ (by show n < g.size + 1; omega)
    show al ⟨g.size + 1, S1 (S1 g.t n d) g.size o, g.cn, g.cs⟩ r = _
    rw [show S1 (S1 g.t n d) g.size o = S1 (S1 g.t g.size o) n d from W_comm 40 g.t n g.size d o (by omega)]
    exact e
theorem al_get : ∀ (as : List GO) (g : GH) (k : Nat), k < g.size → g.size + as.length < 1073741824 → (al g as).t.get k = g.t.get k
  | [], g, k, _, _ => rfl
  | o :: r, g, k, h, h2 => by
    rw [al, al_get r _ k (by show k < g.size + 1; omega) (by show g.size + 1 + r.length < _; simp at h2; omega)]
    show (S1 g.t g.size o).get k = _
    rw [S1_get (by simp at h2; omega), if_neg (by omega)]
end MP
namespace MP

/-! ### the reading, step by step -/
section
variable {C : CallT} {σ : SL} {g : GH} {a b c d t : T} {v : LV}
theorem bd {α β : Type} {x : α} {f : α → GH → Res β} : (Res.ok x g).bind f = f x g := rfl
theorem d_var {i : Nat} : (den (.var i)).e C σ g = ofO (slot σ i) g := rfl
theorem d_lit : (den (.lit v)).e C σ g = .ok v g := rfl
theorem d_tup : (den (.tup a)).e C σ g = ((den a).a C σ g).bind fun vs g => if lenOk vs then .ok (.tup vs) g else .stuck := rfl
theorem d_lst : (den (.lst a)).e C σ g = ((den a).a C σ g).bind fun vs g => if lenOk vs then alloc (.lst vs) g else .stuck := rfl
theorem d_nila : (den .nil).a C σ g = .ok [] g := rfl
theorem d_consa : (den (.cons a b)).a C σ g = ((den a).e C σ g).bind fun v g => ((den b).a C σ g).bind fun vs g => .ok (v :: vs) g := rfl
theorem d_nils : (den .nil).s C σ g = .ok (.nx, σ) g := rfl
theorem d_conss : (den (.cons a b)).s C σ g = ((den a).s C σ g).bind fun r g => match r with | (.nx, σ) => (den b).s C σ g | r => .ok r g := rfl
theorem d_bin {op : BOp} : (den (.bin op a b)).e C σ g = ((den a).e C σ g).bind fun x g => ((den b).e C σ g).bind fun y g => semBin op x y g := rfl
theorem d_cmpb {op : COp} : (den (.cmp op a b)).b C σ g = ((den a).e C σ g).bind fun x g => ((den b).e C σ g).bind fun y g => ofO (semCmp op x y g) g := rfl
theorem d_ife : (den (.ife c a b)).e C σ g = ((den c).b C σ g).bind fun x g => match x with | true => (den a).e C σ g | false => (den b).e C σ g := rfl
theorem d_ix : (den (.ix a b)).e C σ g = ((den a).e C σ g).bind fun x g => ((den b).e C σ g).bind fun y g => ofO (semIx x y g) g := rfl
theorem d_cal {k : Nat} : (den (.cal false k a)).e C σ g = ((den a).a C σ g).bind fun vs g => C k [] vs g := rfl
theorem d_bi {x : Bi} : (den (.bi x a)).e C σ g = ((den a).a C σ g).bind fun vs g => biF x vs g := rfl
theorem d_mt {m : Mt} : (den (.mt m a b)).e C σ g = ((den a).e C σ g).bind fun x g => if recv m g x then ((den b).a C σ g).bind fun vs g => semMt m x vs g else .stuck := rfl
theorem d_itv : (den (.itv a)).i C σ g = ((den a).e C σ g).bind fun v g => valI v g := rfl
theorem d_asg : (den (.asg a b)).s C σ g = ((den b).e C σ g).bind fun v g => ((den a).tg C v σ g).bind fun σ g => .ok (.nx, σ) g := rfl
theorem d_tgv {i : Nat} : (den (.tgv i)).tg C v σ g = .ok (σ.set i (some v)) g := rfl
theorem d_tgi : (den (.tgi a b)).tg C v σ g = ((den a).e C σ g).bind fun x g => ((den b).e C σ g).bind fun y g => (setI x y v g).bind fun _ g => .ok σ g := rfl
theorem d_ret : (den (.ret a)).s C σ g = ((den a).e C σ g).bind fun v g => .ok (.rt v, σ) g := rfl
theorem d_iff : (den (.iff c a b)).s C σ g = ((den c).b C σ g).bind fun x g => match x with | true => (den a).s C σ g | false => (den b).s C σ g := rfl
theorem d_fr : (den (.fr t a b)).s C σ g = ((den a).i C σ g).bind fun itr g => forL C (den t).tg (den b).s fuel itr σ g := rfl
theorem d_lc {own hid : List Nat} : (den (.lc own hid t a c d)).e C σ g = ((den a).i C σ g).bind fun itr g => lcD C (den t).tg (den c).b (den d).e own hid fuel itr σ g := rfl
theorem d_dct : (den (.dct a)).e C σ g = (alloc (.dic []) g).bind fun d g1 => ((den a).a C σ g1).bind fun vs g2 => match pairUp vs, g2.t.get g.size with
    | some ps, some (.dic []) => if decide (ps.length ≤ 15) then (store g.size (.dic (mkD ps [])) g2).bind fun _ g3 => .ok d g3 else .stuck
    | _, _ => .stuck := rfl
end
/-- a call's end -/
def retC (cs : List (Nat × Option LV)) (r : Res (Fl × SL)) : Res LV := match r with
  | .ok (.nx, _) g2 => .ok .non ⟨g2.size, g2.t, g2.cn, cs⟩
  | .ok (.rt v, _) g2 => .ok v ⟨g2.size, g2.t, g2.cn, cs⟩
  | .ok _ _ => .stuck
  | .exn k g2 => .exn k ⟨g2.size, g2.t, g2.cn, cs⟩
  | .stuck => .stuck
theorem call1 {cs : List Code} {n k : Nat} {c : Code} {args : List LV} {g : GH} (e : cs[k]? = some c) (h : args.length = c.np) (h0 : c.nc = 0) (hc : c.cells = []) : callF cs (n + 1) k [] args g = retC g.cs ((den c.body).s (callF cs n) (args.map some ++ List.replicate (c.ns - c.np) none) g) := by
  show (match cs[k]? with | none => Res.stuck | some c => _) = _
  rw [e]
  dsimp only
  rw [if_pos ⟨h, by rw [h0]; rfl⟩, hc]
  have : args.map some ++ (([] : List Nat).map (fun n => some (LV.loc n)) ++ List.replicate (c.ns - c.np - c.nc) none) = args.map some ++ List.replicate (c.ns - c.np) none := by rw [h0]; rfl
  rw [this]
  show (match (den c.body).s (callF cs n) (args.map some ++ List.replicate (c.ns - c.np) none) g with | .ok (.nx, _) g2 => _ | .ok (.rt v, _) g2 => _ | .ok _ _ => _ | .exn k g2 => _ | .stuck => _) = _
  unfold retC
  generalize (den c.body).s (callF cs n) (args.map some ++ List.replicate (c.ns - c.np) none) g = r
  cases r with
  | ok a g2 =>
    obtain ⟨fl, σ⟩ := a
    cases fl <;> rfl
  | exn k g2 => rfl
  | stuck => rfl
/-! ### the draw -/
abbrev kLarge : List Nat := [108, 97, 114, 103, 101]
abbrev kRest : List Nat := [114, 101, 115, 116]
abbrev kCells : List Nat := [99, 101, 108, 108, 115]
abbrev kTurn : List Nat := [116, 117, 114, 110]
def DD (r t : Int) : List (LV × LV) := [(.str kLarge, .loc 1), (.str kRest, .int r), (.str kCells, .loc 3), (.str kTurn, .int t)]
/-- the draw's objects stand in g -/
structure Dr (g : GH) (r t : Int) (L Cl : List Int) : Prop where
  d : g.t.get 2 = some (.dic (DD r t))
  l : g.t.get 1 = some (.lst (L.map LV.int))
  c : g.t.get 3 = some (.lst (Cl.map LV.int))
  s4 : 4 ≤ g.size
  sz : g.size < 1000000
  ll : L.length ≤ 63
  lc : Cl.length ≤ 63
/-- .. written anew -/
def wr (g : GH) (r t : Int) (L : List Int) : GH := ⟨g.size, S1 (S1 g.t 2 (.dic (DD r t))) 1 (.lst (L.map LV.int)), g.cn, g.cs⟩
section
variable {g : GH} {r t r' t' : Int} {L Cl L' : List Int}
theorem wr_dr (h : Dr g r t L Cl) (hl : L'.length ≤ 63) : Dr (wr g r' t' L') r' t' L' Cl := by
  refine ⟨?_, ?_, ?_, h.s4, h.sz, hl, h.lc⟩
  · show (S1 (S1 g.t 2 (.dic (DD r' t'))) 1 (.lst (L'.map LV.int))).get 2 = _
    rw [S1_get (by omega), if_neg (by omega), S1_get (by omega), if_pos rfl]
  · show (S1 (S1 g.t 2 (.dic (DD r' t'))) 1 (.lst (L'.map LV.int))).get 1 = _
    rw [S1_get (by omega), if_pos rfl]
  · show (S1 (S1 g.t 2 (.dic (DD r' t'))) 1 (.lst (L'.map LV.int))).get 3 = _
    rw [S1_get (by omega), if_neg (by omega), S1_get (by omega), if_neg (by omega)]
    exact h.c
theorem wr_wr {r2 t2 : Int} {L2 : List Int} : wr (wr g r t L) r2 t2 L2 = wr g r2 t2 L2 := by
  unfold wr
  dsimp only
  rw [show S1 (S1 (S1 g.t 2 (.dic (DD r t))) 1 (.lst (L.map LV.int))) 2 (.dic (DD r2 t2)) = S1 (S1 g.t 2 (.dic (DD r2 t2))) 1 (.lst (L.map LV.int)) from (W_comm 40 _ 1 2 _ _ (by omega)).trans (congrArg (fun z => W 40 z 1 _) (W_W 40 _ 2 _ _))]
  exact congrArg (fun z => (⟨g.size, z, g.cn, g.cs⟩ : GH)) (W_W 40 _ 1 _ _)
theorem al_dr {as : List GO} (h : Dr g r t L Cl) (hs : g.size + as.length < 1000000) : Dr (al g as) r t L Cl := by
  obtain ⟨s1, s2, s3⟩ := al_size as g
  have h4 := h.s4
  exact ⟨by rw [al_get as g 2 (by omega) (by omega)]; exact h.d, by rw [al_get as g 1 (by omega) (by omega)]; exact h.l, by rw [al_get as g 3 (by omega) (by omega)]; exact h.c, by omega, by omega, h.ll, h.lc⟩
theorem al_wr2 {as : List GO} (h : 4 ≤ g.size) : al (wr g r t L) as = wr (al g as) r t L := by
  have e1 := al_wr (n := 1) (d := .lst (L.map LV.int)) as ⟨g.size, S1 g.t 2 (.dic (DD r t)), g.cn, g.cs⟩ (by show 1 < g.size; omega)
  have e2 := al_wr (n := 2) (d := .dic (DD r t)) as g (by omega)
  unfold wr
  rw [e2] at e1
  exact e1
end
end MP
namespace MP
theorem W_self : ∀ (f : Nat) (t : Tr) (n : Nat) (a : GO), n + 1 < 2 ^ f → t.get n = some a → W f t n a = t
  | 0, t, n, a, h, _ => by simp at h
  | f + 1, .nil, n, a, h, e => by cases e
  | f + 1, .nd o l r, n, a, h, e => by
    have hp : 2 ^ (f + 1) = 2 * 2 ^ f := by rw [Nat.pow_succ, Nat.mul_comm]
    unfold Tr.get at e
    unfold W
    by_cases h0 : n = 0
    · rw [if_pos h0] at e ⊢
      rw [← e]
      rfl
    · rw [if_neg h0] at e ⊢
      by_cases h1 : n % 2 = 1
      · rw [if_pos h1] at e ⊢
        show Tr.nd o (W f l (n / 2) a) r = _
        rw [W_self f l (n / 2) a (by omega) e]
      · rw [if_neg h1] at e ⊢
        show Tr.nd o l (W f r (n / 2 - 1) a) = _
        rw [W_self f r (n / 2 - 1) a (by omega) e]
section
variable {C : CallT} {σ : SL} {g : GH} {r t r' t' : Int} {L Cl L' : List Int} {i : Nat}
theorem st2 (h : Dr g r t L Cl) : store 2 (.dic (DD r' t')) g = .ok () (wr g r' t' L) := by
  rw [store_S (by omega)]
  have e : S1 (S1 g.t 2 (.dic (DD r' t'))) 1 (.lst (L.map LV.int)) = S1 g.t 2 (.dic (DD r' t')) := W_self 40 _ 1 _ (by omega) (by rw [S1_get (by omega), if_neg (by omega)]; exact h.l)
  unfold wr
  rw [e]
theorem st1 (h : Dr g r t L Cl) : store 1 (.lst (L'.map LV.int)) g = .ok () (wr g r t L') := by
  rw [store_S (by omega)]
  have e : S1 g.t 2 (.dic (DD r t)) = g.t := W_self 40 _ 2 _ (by omega) h.d
  unfold wr
  rw [e]
theorem ix_d (h : Dr g r t L Cl) (hs : slot σ i = some (.loc 2)) {k : List Nat} {v : LV} (hv : dLook (.str k) (DD r t) = some v) : (den (.ix (.var i) (.lit (.str k)))).e C σ g = .ok v g := by
  rw [d_ix, d_var, hs]
  show ofO (semIx (.loc 2) (.str k) g) g = _
  have : semIx (.loc 2) (.str k) g = some v := by
    show (match g.t.get 2 with | some (.lst xs) => atV xs (.str k) | some (.fro xs) => atV xs (.str k) | some (.dic kvs) => if isKey (.str k) = true then dLook (.str k) kvs else none | _ => none) = _
    rw [h.d]
    exact hv
  rw [this]
  rfl
theorem ix_rest (h : Dr g r t L Cl) (hs : slot σ i = some (.loc 2)) : (den (.ix (.var i) (.lit (.str kRest)))).e C σ g = .ok (.int r) g := ix_d h hs rfl
theorem ix_turn (h : Dr g r t L Cl) (hs : slot σ i = some (.loc 2)) : (den (.ix (.var i) (.lit (.str kTurn)))).e C σ g = .ok (.int t) g := ix_d h hs rfl
theorem ix_large (h : Dr g r t L Cl) (hs : slot σ i = some (.loc 2)) : (den (.ix (.var i) (.lit (.str kLarge)))).e C σ g = .ok (.loc 1) g := ix_d h hs rfl
theorem ix_cells (h : Dr g r t L Cl) (hs : slot σ i = some (.loc 2)) : (den (.ix (.var i) (.lit (.str kCells)))).e C σ g = .ok (.loc 3) g := ix_d h hs rfl
theorem tg_d (h : Dr g r t L Cl) (hs : slot σ i = some (.loc 2)) {k : List Nat} {v : LV} (hk : dPut (.str k) v (DD r t) = DD r' t') : (den (.tgi (.var i) (.lit (.str k)))).tg C v σ g = .ok σ (wr g r' t' L) := by
  rw [d_tgi, d_var, hs]
  show (setI (.loc 2) (.str k) v g).bind (fun _ g => .ok σ g) = _
  have : setI (.loc 2) (.str k) v g = store 2 (.dic (DD r' t')) g := by
    show (match g.t.get 2 with | some (.lst xs) => setL 2 xs (.str k) v g | some (.dic kvs) => if isKey (.str k) && lenOk (LV.str k :: kvs.map Prod.fst) then store 2 (.dic (dPut (.str k) v kvs)) g else .stuck | _ => .stuck) = _
    rw [h.d]
    show (if isKey (.str k) && lenOk (LV.str k :: (DD r t).map Prod.fst) then store 2 (.dic (dPut (.str k) v (DD r t))) g else .stuck) = _
    rw [hk]
    rfl
  rw [this, st2 h]
  rfl
theorem tg_rest (h : Dr g r t L Cl) (hs : slot σ i = some (.loc 2)) : (den (.tgi (.var i) (.lit (.str kRest)))).tg C (.int r') σ g = .ok σ (wr g r' t L) := tg_d h hs rfl
theorem tg_turn (h : Dr g r t L Cl) (hs : slot σ i = some (.loc 2)) : (den (.tgi (.var i) (.lit (.str kTurn)))).tg C (.int t') σ g = .ok σ (wr g r t' L) := tg_d h hs rfl
/-! arithmetic -/
theorem sb_add {i j : Int} : semBin .add (.int i) (.int j) g = .ok (.int (i + j)) g := rfl
theorem sb_mulr {i j : Int} (h : word j = true) : semBin .mul (.int i) (.int j) g = .ok (.int (i * j)) g := by
  show (if word i || word j then Res.ok (LV.int (i * j)) g else .stuck) = _
  rw [h, Bool.or_true]
  rfl
theorem sb_mod {i j : Int} (h : 0 < j) : semBin .mod (.int i) (.int j) g = .ok (.int (i % j)) g := if_pos h
theorem sb_fdiv {i j : Int} (h : 0 < j) (h2 : j < 1073741824) : semBin .fdiv (.int i) (.int j) g = .ok (.int (i / j)) g := by
  show (if decide (0 < j) && decide (j < 1073741824) then Res.ok (LV.int (i / j)) g else .stuck) = _
  rw [decide_eq_true h, decide_eq_true h2]
  rfl
theorem sb_pow5 {i : Int} (h1 : 0 ≤ i) (h2 : i < 2147483648) : semBin .pow (.int i) (.int 5) g = .ok (.int (i ^ 5)) g := by
  show (if decide ((0 : Int) ≤ 5) && (decide ((5 : Int) ≤ 1000000) && word i) then Res.ok (LV.int (i ^ (5 : Int).toNat)) g else .stuck) = _
  have : word i = true := by
    unfold word
    rw [decide_eq_true (show (-18446744073709551616 : Int) < i by omega), decide_eq_true (show i < 18446744073709551616 by omega)]
    rfl
  rw [this]
  rfl
/-! steps in a row -/
section
variable {σ' σ1 : SL} {g1 g2 g3 : GH} {a b e t0 c0 : T} {x y z v : LV} {vs : List LV}
theorem ev_bin {op : BOp} (ha : (den a).e C σ g = .ok x g1) (hb : (den b).e C σ g1 = .ok y g2) (h : semBin op x y g2 = .ok z g3) : (den (.bin op a b)).e C σ g = .ok z g3 := by
  rw [d_bin, ha, bd, hb, bd]; exact h
theorem ev_bi {bi : Bi} (ha : (den a).a C σ g = .ok vs g1) (h : biF bi vs g1 = .ok z g2) : (den (.bi bi a)).e C σ g = .ok z g2 := by
  rw [d_bi, ha, bd]; exact h
theorem ev_one (ha : (den a).e C σ g = .ok x g1) : (den (.cons a .nil)).a C σ g = .ok [x] g1 := by
  rw [d_consa, ha, bd, d_nila, bd]
theorem ev_cons (ha : (den a).e C σ g = .ok x g1) (hb : (den b).a C σ g1 = .ok vs g2) : (den (.cons a b)).a C σ g = .ok (x :: vs) g2 := by
  rw [d_consa, ha, bd, hb, bd]
theorem st_asg (he : (den e).e C σ g = .ok v g1) (ht : (den t0).tg C v σ g1 = .ok σ' g2) : (den (.asg t0 e)).s C σ g = .ok (.nx, σ') g2 := by
  rw [d_asg, he, bd, ht, bd]
theorem st_ret (he : (den e).e C σ g = .ok v g1) : (den (.ret e)).s C σ g = .ok (.rt v, σ) g1 := by
  rw [d_ret, he, bd]
theorem sq {r : Res (Fl × SL)} (ha : (den a).s C σ g = .ok (.nx, σ1) g1) (hb : (den b).s C σ1 g1 = r) : (den (.cons a b)).s C σ g = r := by
  rw [d_conss, ha, bd]; exact hb
theorem sq_rt (ha : (den a).s C σ g = .ok (.rt v, σ1) g1) : (den (.cons a b)).s C σ g = .ok (.rt v, σ1) g1 := by
  rw [d_conss, ha, bd]
theorem ev_cal {k : Nat} {r : Res LV} (ha : (den a).a C σ g = .ok vs g1) (h : C k [] vs g1 = r) : (den (.cal false k a)).e C σ g = r := by
  rw [d_cal, ha, bd]; exact h
theorem ev_tup (ha : (den a).a C σ g = .ok vs g1) (h : lenOk vs = true) : (den (.tup a)).e C σ g = .ok (.tup vs) g1 := by
  rw [d_tup, ha, bd, if_pos h]
theorem ev_lst (ha : (den a).a C σ g = .ok vs g1) (h : lenOk vs = true) (hs : g1.size < 1000000) : (den (.lst a)).e C σ g = .ok (.loc g1.size) (al g1 [.lst vs]) := by
  rw [d_lst, ha, bd, if_pos h, alloc_S (by omega)]; rfl
end
/-! mixed -/
abbrev inB : T := .cons (.asg (.tgv 4) (.bin .mod (.bi .int (.cons (.bin .add (.bin .add (.bin .mul (.var 4) (.lit (.int 48271))) (.bi .int (.cons (.var 5) .nil))) (.lit (.int 1))) .nil)) (.var 3))) .nil
abbrev sg (T0 F0 G b : Int) (y : Option LV) : SL := [some (.loc 2), some (.int T0), some (.int F0), some (.int G), some (.int b), y]
theorem inB_run {T0 F0 G b c : Int} (hG : 0 < G) : (den inB).s C (sg T0 F0 G b (some (.int c))) g = .ok (.nx, sg T0 F0 G ((b * 48271 + c + 1) % G) (some (.int c))) g :=
  sq (st_asg (ev_bin (ev_bi (ev_one (ev_bin (ev_bin (ev_bin rfl rfl (sb_mulr rfl)) rfl sb_add) rfl sb_add)) rfl) rfl (sb_mod hG)) rfl) rfl
theorem forL_succ {tg : CallT → LV → SL → GH → Res SL} {body : CallT → SL → GH → Res (Fl × SL)} {f : Nat} {it : MP.Itr} : forL C tg body (f + 1) it σ g = (match stepI g it with
    | none => .stuck
    | some none => .ok (.nx, σ) g
    | some (some (x, it')) => (tg C x σ g).bind fun σ g => (body C σ g).bind fun r g => match r with
      | (.nx, σ) => forL C tg body f it' σ g
      | (.ct, σ) => forL C tg body f it' σ g
      | (.bk, σ) => .ok (.nx, σ) g
      | (.rt v, σ) => .ok (.rt v, σ) g) := rfl
theorem forL_go {tg : CallT → LV → SL → GH → Res SL} {body : CallT → SL → GH → Res (Fl × SL)} {f : Nat} {it it' : MP.Itr} {x : LV} {σ1 σ2 : SL} {g2 : GH} {g1 : GH} (h : stepI g it = some (some (x, it'))) (ht : tg C x σ g = .ok σ1 g1) (hb : body C σ1 g1 = .ok (.nx, σ2) g2) : forL C tg body (f + 1) it σ g = forL C tg body f it' σ2 g2 := by
  rw [forL_succ, h]
  dsimp only
  rw [ht, bd, hb, bd]
theorem forL_end {tg : CallT → LV → SL → GH → Res SL} {body : CallT → SL → GH → Res (Fl × SL)} {f : Nat} {it : MP.Itr} (h : stepI g it = some none) : forL C tg body (f + 1) it σ g = .ok (.nx, σ) g := by
  rw [forL_succ, h]
theorem step_l {n j : Nat} {xs : List LV} (h : g.t.get n = some (.lst xs)) : stepI g (.lst n j) = match xs[j]? with | some x => some (some (x, .lst n (j + 1))) | none => some none := by
  show (match listAt g n with | some xs => _ | none => _) = _
  unfold listAt
  rw [h]
  all_goals rfl
theorem inner (h : Dr g r t L Cl) {T0 F0 G : Int} (hG : 0 < G) : ∀ (k i f : Nat), Cl.length - i = k → k < f → ∀ (b : Int) (y : Option LV), 0 ≤ b → b < G → ∃ b' y', 0 ≤ b' ∧ b' < G ∧ forL C (den (.tgv 5)).tg (den inB).s f (.lst 3 i) (sg T0 F0 G b y) g = .ok (.nx, sg T0 F0 G b' y') g
  | k, i, 0, _, hf, _, _, _, _ => absurd hf (Nat.not_lt_zero _)
  | k, i, f + 1, hk, hf, b, y, h1, h2 => by
    have st := step_l (j := i) h.c
    by_cases hi : i < Cl.length
    · have e : (Cl.map LV.int)[i]? = some (.int Cl[i]) := by
        rw [List.getElem?_map, List.getElem?_eq_getElem hi]
        rfl
      rw [e] at st
      have h3 := Int.emod_nonneg (b * 48271 + Cl[i] + 1) (Int.ne_of_gt hG)
      have h4 := Int.emod_lt_of_pos (b * 48271 + Cl[i] + 1) hG
      obtain ⟨b', y', q1, q2, q3⟩ := inner h (T0 := T0) (F0 := F0) hG (k - 1) (i + 1) f (by omega) (by omega) _ (some (.int Cl[i])) h3 h4
      exact ⟨b', y', q1, q2, (forL_go st (rfl : (den (.tgv 5)).tg C (.int Cl[i]) (sg T0 F0 G b y) g = .ok (sg T0 F0 G b (some (.int Cl[i]))) g) (inB_run hG)).trans q3⟩
    · have e : (Cl.map LV.int)[i]? = none := List.getElem?_eq_none_iff.mpr (by rw [List.length_map]; omega)
      rw [e] at st
      exact ⟨b, y, h1, h2, forL_end st⟩
abbrev outB : T := .cons (.asg (.tgv 4) (.bin .mod (.bi .int (.cons (.bin .add (.bin .mul (.var 1) (.lit (.int 69621))) (.bin .fdiv (.var 3) (.lit (.int 7)))) .nil)) (.var 3)))
    (.cons (.fr (.tgv 5) (.itv (.ix (.var 0) (.lit (.str [99, 101, 108, 108, 115])))) inB)
    (.cons (.asg (.tgv 2) (.bin .add (.bin .mul (.var 2) (.lit (.int 2147483647))) (.bin .mod (.bi .int (.cons (.bin .pow (.var 4) (.lit (.int 5))) .nil)) (.var 3))))
    .nil))
theorem outB_run (h : Dr g r t L Cl) {T0 F0 G : Int} (hG : 0 < G) (hG2 : G < 2147483648) (x y : Option LV) : ∃ F' b' y', (den outB).s C [some (.loc 2), some (.int T0), some (.int F0), some (.int G), x, y] g = .ok (.nx, sg T0 F' G b' y') g := by
  have h3 := Int.emod_nonneg (T0 * 69621 + G / 7) (Int.ne_of_gt hG)
  have h4 := Int.emod_lt_of_pos (T0 * 69621 + G / 7) hG
  obtain ⟨b', y', q1, q2, q3⟩ := inner (C := C) h (T0 := T0) (F0 := F0) hG (Cl.length - 0) 0 fuel rfl (by have := h.lc; unfold fuel; omega) _ y h3 h4
  refine ⟨F0 * 2147483647 + b' ^ 5 % G, b', y', ?_⟩
  refine sq (st_asg (ev_bin (ev_bi (ev_one (ev_bin (ev_bin rfl rfl (sb_mulr rfl)) (ev_bin rfl rfl (sb_fdiv (by omega) (by omega))) sb_add)) rfl) rfl (sb_mod hG)) rfl) ?_
  refine sq (σ1 := sg T0 F0 G b' y') (g1 := g) ?_ (sq (st_asg (ev_bin (ev_bin rfl rfl (sb_mulr rfl)) (ev_bin (ev_bi (ev_one (ev_bin rfl rfl (sb_pow5 q1 (by omega)))) rfl) rfl (sb_mod hG)) sb_add) rfl) rfl)
  rw [d_fr, d_itv]
  rw [show (den (.ix (.var 0) (.lit (.str [99, 101, 108, 108, 115])))).e C ([some (LV.loc 2), some (.int T0), some (.int F0), some (.int G), x, y].set 4 (some (.int ((T0 * 69621 + G / 7) % G)))) g = .ok (.loc 3) g from ix_cells h rfl, bd]
  have hv : valI (.loc 3) g = .ok (.lst 3 0) g := by
    show (match listAt g 3 with | some _ => Res.ok (MP.Itr.lst 3 0) g | none => .stuck) = _
    unfold listAt
    rw [h.c]
  rw [hv, bd]
  exact q3
end
end MP
namespace MP
abbrev consts : GO := .lst [.int 2147483629, .int 2147483587, .int 2147483579]
abbrev mixC : Code := ⟨1, 0, 6, [], .cons (.asg (.tgi (.var 0) (.lit (.str [116, 117, 114, 110]))) (.bin .add (.ix (.var 0) (.lit (.str [116, 117, 114, 110]))) (.lit (.int 1))))
    (.cons (.asg (.tgt 2 (.cons (.tgv 1) (.cons (.tgv 2) .nil))) (.tup (.cons (.bi .int (.cons (.ix (.var 0) (.lit (.str [116, 117, 114, 110]))) .nil)) (.cons (.lit (.int 0)) .nil))))
    (.cons (.fr (.tgv 3) (.itv (.lst (.cons (.lit (.int 2147483629)) (.cons (.lit (.int 2147483587)) (.cons (.lit (.int 2147483579)) .nil))))) outB)
    (.cons (.ret (.var 2)) .nil)))⟩
abbrev takC (km : Nat) : Code := ⟨2, 0, 3, [], .cons (.iff (.cmp .eq (.ix (.var 0) (.lit (.str [114, 101, 115, 116]))) (.lit (.int 0))) (.cons (.asg (.tgi (.var 0) (.lit (.str [114, 101, 115, 116]))) (.ife (.cmp .ne (.ix (.var 0) (.lit (.str [108, 97, 114, 103, 101]))) (.lst .nil)) (.mt .pop (.ix (.var 0) (.lit (.str [108, 97, 114, 103, 101]))) (.cons (.lit (.int 0)) .nil)) (.cal false km (.cons (.var 0) .nil))))
    .nil) .nil)
    (.cons (.asg (.tgv 2) (.bin .mod (.bi .int (.cons (.ix (.var 0) (.lit (.str [114, 101, 115, 116]))) .nil)) (.var 1)))
    (.cons (.asg (.tgi (.var 0) (.lit (.str [114, 101, 115, 116]))) (.bin .fdiv (.bi .int (.cons (.ix (.var 0) (.lit (.str [114, 101, 115, 116]))) .nil)) (.var 1)))
    (.cons (.ret (.var 2)) .nil)))⟩
section
variable {cs : List Code} {n k km : Nat} {C : CallT} {g : GH} {r t : Int} {L Cl : List Int}
theorem al1_get {o : GO} (h : g.size < 1000000) : (al g [o]).t.get g.size = some o := by
  show (S1 g.t g.size o).get g.size = _
  rw [S1_get (by omega), if_pos rfl]
theorem mixed_run (hc : cs[k]? = some mixC) (h : Dr g r t L Cl) (hs : g.size + 1 < 1000000) : ∃ F, callF cs (n + 1) k [] [.loc 2] g = .ok (.int F) (al (wr g r (t + 1) L) [consts]) := by
  have h1 : Dr (wr g r (t + 1) L) r (t + 1) L Cl := wr_dr h h.ll
  have h2 : Dr (al (wr g r (t + 1) L) [consts]) r (t + 1) L Cl := al_dr h1 hs
  have hg : (al (wr g r (t + 1) L) [consts]).t.get (wr g r (t + 1) L).size = some consts := al1_get h1.sz
  generalize hC : callF cs n = C
  obtain ⟨F1, b1, y1, e1⟩ := outB_run (C := C) h2 (T0 := t + 1) (F0 := 0) (G := 2147483629) (by omega) (by omega) none none
  obtain ⟨F2, b2, y2, e2⟩ := outB_run (C := C) h2 (T0 := t + 1) (F0 := F1) (G := 2147483587) (by omega) (by omega) (some (.int b1)) y1
  obtain ⟨F3, b3, y3, e3⟩ := outB_run (C := C) h2 (T0 := t + 1) (F0 := F2) (G := 2147483579) (by omega) (by omega) (some (.int b2)) y2
  refine ⟨F3, ?_⟩
  rw [call1 hc rfl rfl rfl, hC]
  have key : (den mixC.body).s C [some (.loc 2), none, none, none, none, none] g = .ok (.rt (.int F3), sg (t + 1) F3 2147483579 b3 y3) (al (wr g r (t + 1) L) [consts]) := by
    refine sq (st_asg (ev_bin (ix_turn h rfl) rfl sb_add) (tg_turn h rfl)) ?_
    refine sq (st_asg (ev_tup (ev_cons (ev_bi (ev_one (ix_turn h1 rfl)) rfl) (ev_one rfl)) rfl) rfl) ?_
    refine sq (σ1 := sg (t + 1) F3 2147483579 b3 y3) (g1 := al (wr g r (t + 1) L) [consts]) ?_ (sq_rt (st_ret rfl))
    rw [d_fr, d_itv, ev_lst (g1 := wr g r (t + 1) L) (vs := [.int 2147483629, .int 2147483587, .int 2147483579]) rfl rfl h1.sz, bd]
    have hv : valI (.loc (wr g r (t + 1) L).size) (al (wr g r (t + 1) L) [consts]) = .ok (.lst (wr g r (t + 1) L).size 0) (al (wr g r (t + 1) L) [consts]) := by
      show (match listAt _ _ with | some _ => Res.ok (MP.Itr.lst (wr g r (t + 1) L).size 0) _ | none => .stuck) = _
      unfold listAt
      rw [hg]
    rw [hv, bd]
    refine (forL_go (f := 999999) (step_l (j := 0) hg) rfl e1).trans ?_
    refine (forL_go (f := 999998) (step_l (j := 1) hg) rfl e2).trans ?_
    refine (forL_go (f := 999997) (step_l (j := 2) hg) rfl e3).trans ?_
    exact forL_end (f := 999996) (step_l (j := 3) hg)
  exact (congrArg (retC g.cs) key).trans (by rw [retC]; rfl)
/-! take -/
theorem wr_size (g : GH) (r t : Int) (L : List Int) : (wr g r t L).size = g.size := rfl
theorem rei_ints {d : Nat} {g : GH} : ∀ L : List Int, mapO (rei (d + 1) g) (L.map LV.int) = some (L.map PD.int)
  | [] => rfl
  | x :: r => by
    have e : rei (d + 1) g (.int x) = some (.int x) := rfl
    simp only [List.map_cons, mapO, e, rei_ints r]
theorem rei_lst {g : GH} {n : Nat} {L : List Int} (h : g.t.get n = some (.lst (L.map LV.int))) : rei dep g (.loc n) = some (.lst (L.map PD.int)) := by
  show (match g.t.get n with
      | some (.lst xs) => (match mapO (rei 15 g) xs with | some ys => some (PD.lst ys) | none => none)
      | some (.fro xs) => (match mapO (rei 15 g) xs with | some ys => some (PD.lst ys) | none => none)
      | _ => none) = _
  rw [h]
  dsimp only
  rw [rei_ints]
theorem ne_nil (h : Dr g r t L Cl) {n : Nat} (hn : g.t.get n = some (.lst [])) : ofO (semCmp .ne (.loc 1) (.loc n) g) g = .ok (!L.isEmpty) g := by
  have e : semCmp .ne (.loc 1) (.loc n) g = some (!L.isEmpty) := by
    show notO (eqL g (.loc 1) (.loc n)) = _
    show notO (match rei dep g (.loc 1) with | some d => (match rei dep g (.loc n) with | some e => some (PD.eqv d e) | none => none) | none => none) = _
    rw [rei_lst h.l, rei_lst (L := []) hn]
    cases L <;> rfl
  rw [e]
  rfl
theorem take_tail {a : Int} (h : Dr g r t L Cl) (ha : 0 < a) (ha2 : a < 1073741824) (y : Option LV) : (den (.cons (.asg (.tgv 2) (.bin .mod (.bi .int (.cons (.ix (.var 0) (.lit (.str [114, 101, 115, 116]))) .nil)) (.var 1)))
    (.cons (.asg (.tgi (.var 0) (.lit (.str [114, 101, 115, 116]))) (.bin .fdiv (.bi .int (.cons (.ix (.var 0) (.lit (.str [114, 101, 115, 116]))) .nil)) (.var 1)))
    (.cons (.ret (.var 2)) .nil)))).s C [some (.loc 2), some (.int a), y] g = .ok (.rt (.int (r % a)), [some (.loc 2), some (.int a), some (.int (r % a))]) (wr g (r / a) t L) :=
  sq (st_asg (ev_bin (ev_bi (ev_one (ix_rest h rfl)) rfl) rfl (sb_mod ha)) rfl) (sq (st_asg (ev_bin (ev_bi (ev_one (ix_rest h rfl)) rfl) rfl (sb_fdiv ha ha2)) (tg_rest h rfl)) (sq_rt (st_ret rfl)))
theorem take_run {a : Int} (hm : cs[km]? = some mixC) (hc : cs[k]? = some (takC km)) (h : Dr g r t L Cl) (ha : 0 < a) (ha2 : a < 1073741824) (hs : g.size + 3 < 1000000) :
    ∃ v r' t' L' as, 0 ≤ v ∧ v < a ∧ List.length as ≤ 2 ∧ List.length L' ≤ 63 ∧ callF cs (n + 2) k [] [.loc 2, .int a] g = .ok (.int v) (wr (al g as) r' t' L') := by
  rw [call1 hc rfl rfl rfl]
  have fin : ∀ {r1 t1 : Int} {L1 : List Int} {as : List GO}, List.length as ≤ 2 → Dr (wr (al g as) r1 t1 L1) r1 t1 L1 Cl → (den (.iff (.cmp .eq (.ix (.var 0) (.lit (.str [114, 101, 115, 116]))) (.lit (.int 0))) (.cons (.asg (.tgi (.var 0) (.lit (.str [114, 101, 115, 116]))) (.ife (.cmp .ne (.ix (.var 0) (.lit (.str [108, 97, 114, 103, 101]))) (.lst .nil)) (.mt .pop (.ix (.var 0) (.lit (.str [108, 97, 114, 103, 101]))) (.cons (.lit (.int 0)) .nil)) (.cal false km (.cons (.var 0) .nil))))
    .nil) .nil)).s (callF cs (n + 1)) [some (.loc 2), some (.int a), none] g = .ok (.nx, [some (.loc 2), some (.int a), none]) (wr (al g as) r1 t1 L1) →
      ∃ v r' t' L' as, 0 ≤ v ∧ v < a ∧ List.length as ≤ 2 ∧ List.length L' ≤ 63 ∧ retC g.cs ((den (takC km).body).s (callF cs (n + 1)) [some (.loc 2), some (.int a), none] g) = .ok (.int v) (wr (al g as) r' t' L') := fun {r1 t1 L1 as} hl d e => by
    refine ⟨r1 % a, r1 / a, t1, L1, as, Int.emod_nonneg _ (Int.ne_of_gt ha), Int.emod_lt_of_pos _ ha, hl, d.ll, ?_⟩
    have key := sq e (take_tail (C := callF cs (n + 1)) d ha ha2 none)
    rw [wr_wr] at key
    refine (congrArg (retC g.cs) key).trans ?_
    have hcs := (al_size as g).2.2
    show Res.ok (LV.int (r1 % a)) (⟨(al g as).size, _, (al g as).cn, g.cs⟩ : GH) = _
    rw [← hcs]
    rfl
  have cond : (den (.cmp .eq (.ix (.var 0) (.lit (.str [114, 101, 115, 116]))) (.lit (.int 0)))).b (callF cs (n + 1)) [some (.loc 2), some (.int a), none] g = .ok (r == 0) g := by
    rw [d_cmpb, ix_rest h rfl, bd, d_lit, bd]
    rfl
  by_cases hr : r = 0
  · subst hr
    -- something new is drawn
    have hA : Dr (al g [.lst []]) 0 t L Cl := al_dr h (by simp; omega)
    have gA : (al g [.lst []]).t.get g.size = some (.lst []) := al1_get h.sz
    have test : (den (.cmp .ne (.ix (.var 0) (.lit (.str [108, 97, 114, 103, 101]))) (.lst .nil))).b (callF cs (n + 1)) [some (.loc 2), some (.int a), none] g = .ok (!L.isEmpty) (al g [.lst []]) := by
      rw [d_cmpb, ix_large h rfl, bd, ev_lst (g1 := g) (vs := []) rfl rfl h.sz, bd]
      exact ne_nil hA gA
    cases L with
    | cons x L1 =>
      have hB : Dr (wr (al g [.lst []]) 0 t L1) 0 t L1 Cl := wr_dr hA (by have := h.ll; simp at this; omega)
      have hC : Dr (wr (al g [.lst []]) x t L1) x t L1 Cl := wr_dr hA (by have := h.ll; simp at this; omega)
      refine fin (r1 := x) (t1 := t) (L1 := L1) (as := [.lst []]) (by simp) hC ?_
      rw [d_iff, cond, bd]
      refine sq (st_asg (v := .int x) (g1 := wr (al g [.lst []]) 0 t L1) ?_ ?_) rfl
      · rw [d_ife, test, bd]
        show (den (.mt .pop (.ix (.var 0) (.lit (.str [108, 97, 114, 103, 101]))) (.cons (.lit (.int 0)) .nil))).e (callF cs (n + 1)) _ _ = _
        rw [d_mt, ix_large hA rfl, bd]
        have hrv : recv .pop (al g [.lst []]) (.loc 1) = true := by
          show (listAt _ _).isSome = true
          unfold listAt
          rw [hA.l]
          rfl
        rw [if_pos hrv, ev_one (x := .int 0) (g1 := al g [.lst []]) rfl, bd]
        show (match (al g [.lst []]).t.get 1 with
          | some (.lst xs) => (match ixN xs.length 0 with
            | some j => (match xs[j]? with
              | some v => (store 1 (.lst (xs.eraseIdx j)) (al g [.lst []])).bind fun _ g => .ok v g
              | none => .stuck)
            | none => .stuck)
          | _ => .stuck) = _
        rw [hA.l]
        have hix : ixN ((x :: L1).map LV.int).length 0 = some 0 := by
          unfold ixN
          rw [if_pos (by omega), if_pos (by simp)]
          rfl
        dsimp only
        rw [hix]
        show (store 1 (.lst (L1.map LV.int)) (al g [.lst []])).bind (fun _ g => Res.ok (LV.int x) g) = _
        rw [st1 hA]
        rfl
      · have e := tg_rest (C := callF cs (n + 1)) (σ := [some (.loc 2), some (.int a), none]) (i := 0) (r' := x) hB rfl
        rw [wr_wr] at e
        exact e
    | nil =>
      have hs2 : (al g [.lst []]).size = g.size + 1 := (al_size [.lst []] g).1
      have hB : Dr (wr (al g [.lst []]) 0 (t + 1) []) 0 (t + 1) [] Cl := wr_dr hA (by simp)
      obtain ⟨F, eF⟩ := mixed_run (n := n) hm hA (by omega)
      have hAA : Dr (al g ([.lst []] ++ [consts])) 0 t [] Cl := al_dr h (by simp; omega)
      have hD : Dr (al (wr (al g [.lst []]) 0 (t + 1) []) [consts]) 0 (t + 1) [] Cl := al_dr hB (by show (al g [.lst []]).size + 1 < _; omega)
      refine fin (r1 := F) (t1 := t + 1) (L1 := []) (as := [.lst []] ++ [consts]) (by simp) (wr_dr hAA (by simp)) ?_
      rw [d_iff, cond, bd]
      refine sq (st_asg (v := .int F) (g1 := al (wr (al g [.lst []]) 0 (t + 1) []) [consts]) ?_ ?_) rfl
      · rw [d_ife, test, bd]
        exact ev_cal (ev_one rfl) eF
      · have e := tg_rest (C := callF cs (n + 1)) (σ := [some (.loc 2), some (.int a), none]) (i := 0) (r' := F) hD rfl
        have eq : al (wr (al g [.lst []]) 0 (t + 1) []) [consts] = wr (al g ([.lst []] ++ [consts])) 0 (t + 1) [] := by rw [al_wr2 hA.s4, ← al_app]
        rw [eq] at e ⊢
        rw [wr_wr] at e
        exact e
  · have hb : (r == 0) = false := by simpa using hr
    rw [hb] at cond
    have h0 : wr (al g []) r t L = g := by
      have e2 : S1 g.t 2 (.dic (DD r t)) = g.t := W_self 40 _ 2 _ (by omega) h.d
      have e1 : S1 g.t 1 (.lst (L.map LV.int)) = g.t := W_self 40 _ 1 _ (by omega) h.l
      show (⟨g.size, S1 (S1 g.t 2 (.dic (DD r t))) 1 (.lst (L.map LV.int)), g.cn, g.cs⟩ : GH) = g
      rw [e2, e1]
    refine fin (r1 := r) (t1 := t) (L1 := L) (as := []) (by simp) (by rw [h0]; exact h) ?_
    rw [d_iff, cond, bd, h0]
    rfl
end
end MP
namespace MP
abbrev big : T := .bin .pow (.lit (.int 10)) (.lit (.int 18))
abbrev absT : T := .bi .abs (.cons (.var 2) .nil)
abbrev lc1 : T := .lc [2] [] (.tgv 2) (.itv (.var 0)) (.cmp .ge absT big) (.bin .sub absT big)
abbrev lc2 : T := .lc [2] [] (.tgv 2) (.itv (.var 0)) (.lit (.bl true)) absT
abbrev begC : Code := ⟨1, 0, 3, [], .cons (.asg (.tgv 1) lc1) (.cons (.ret (.dct (.cons (.lit (.str [108, 97, 114, 103, 101])) (.cons (.var 1) (.cons (.lit (.str [114, 101, 115, 116])) (.cons (.lit (.int 0)) (.cons (.lit (.str [99, 101, 108, 108, 115])) (.cons lc2 (.cons (.lit (.str [116, 117, 114, 110])) (.cons (.lit (.int 0)) .nil)))))))))) .nil)⟩
section
variable {cs : List Code} {n k : Nat} {C : CallT} {ns : List Int}
theorem lcL_succ {tg : CallT → LV → SL → GH → Res SL} {c : CallT → SL → GH → Res Bool} {e : CallT → SL → GH → Res LV} {own : List Nat} {d f : Nat} {it : MP.Itr} {σ : SL} {g : GH} : lcL C tg c e own d (f + 1) it σ g = (match stepI g it with
    | none => .stuck
    | some none => .ok (.loc d) g
    | some (some (x, it')) => (tg C x σ g).bind fun σ' g => (c C σ' g).bind fun b g => match b with
      | false => lcL C tg c e own d f it' (wipe σ' own) g
      | true => (e C σ' g).bind fun v g => match lstAt g d with
        | some acc => if lenOk (v :: acc) then (store d (.lst (acc ++ [v])) g).bind fun _ g => lcL C tg c e own d f it' (wipe σ' own) g else .stuck
        | none => .stuck) := rfl
/-- a comprehension of ints over the script -/
theorem lc_loop {tg : CallT → LV → SL → GH → Res SL} {c : CallT → SL → GH → Res Bool} {e : CallT → SL → GH → Res LV} {own : List Nat} {d : Nat} {σ : SL} {Hp : List LV → GH} (p1 : ∀ acc, (Hp acc).t.get 0 = some (.fro (ns.map LV.int))) (p2 : ∀ acc, lstAt (Hp acc) d = some acc) (p3 : ∀ acc v, store d (.lst (acc ++ [v])) (Hp acc) = .ok () (Hp (acc ++ [v])))
    (q : ∀ (x : Int) acc, ∃ σ' b h, tg C (.int x) σ (Hp acc) = .ok σ' (Hp acc) ∧ c C σ' (Hp acc) = .ok b (Hp acc) ∧ (b = true → e C σ' (Hp acc) = .ok (.int h) (Hp acc)) ∧ wipe σ' own = σ) :
    ∀ (k i f : Nat) (acc : List Int), ns.length - i = k → k < f → acc.length + k ≤ 63 → ∃ acc' : List Int, acc'.length ≤ 63 ∧ lcL C tg c e own d f (.lst 0 i) σ (Hp (acc.map LV.int)) = .ok (.loc d) (Hp (acc'.map LV.int))
  | k, i, 0, _, _, hf, _ => absurd hf (Nat.not_lt_zero _)
  | k, i, f + 1, acc, hk, hf, hl => by
    have st : stepI (Hp (acc.map LV.int)) (.lst 0 i) = match (ns.map LV.int)[i]? with | some x => some (some (x, .lst 0 (i + 1))) | none => some none := by
      show (match listAt _ 0 with | some xs => _ | none => _) = _
      unfold listAt
      rw [p1]
      all_goals rfl
    by_cases hi : i < ns.length
    · have e1 : (ns.map LV.int)[i]? = some (.int ns[i]) := by
        rw [List.getElem?_map, List.getElem?_eq_getElem hi]
        rfl
      rw [e1] at st
      obtain ⟨σ', b, h, t1, t2, t3, t4⟩ := q ns[i] (acc.map LV.int)
      cases b with
      | false =>
        obtain ⟨acc', z1, z2⟩ := lc_loop p1 p2 p3 q (k - 1) (i + 1) f acc (by omega) (by omega) (by omega)
        refine ⟨acc', z1, ?_⟩
        rw [lcL_succ, st]
        dsimp only
        rw [t1, bd, t2, bd]
        dsimp only
        rw [t4]
        exact z2
      | true =>
        obtain ⟨acc', z1, z2⟩ := lc_loop p1 p2 p3 q (k - 1) (i + 1) f (acc ++ [h]) (by omega) (by omega) (by simp; omega)
        refine ⟨acc', z1, ?_⟩
        rw [lcL_succ, st]
        dsimp only
        rw [t1, bd, t2, bd]
        dsimp only
        rw [t3 rfl, bd, p2]
        have hz : lenOk (LV.int h :: acc.map LV.int) = true := by
          unfold lenOk
          refine decide_eq_true ?_
          simp
          omega
        dsimp only
        rw [if_pos hz, p3, bd, t4]
        rw [List.map_append] at z2
        exact z2
    · have e1 : (ns.map LV.int)[i]? = none := List.getElem?_eq_none_iff.mpr (by rw [List.length_map]; omega)
      rw [e1] at st
      refine ⟨acc, by omega, ?_⟩
      rw [lcL_succ, st]
abbrev cs2 : List (Nat × Option LV) := [(1, none), (0, none)]
def G1 (ns : List Int) : GH := ⟨1, .nd (some (.fro (ns.map LV.int))) .nil .nil, 2, cs2⟩
def HA (ns : List Int) (acc : List LV) : GH := ⟨2, .nd (some (.fro (ns.map LV.int))) (.nd (some (.lst acc)) .nil .nil) .nil, 2, cs2⟩
def HB (ns L : List Int) (acc : List LV) : GH := ⟨4, .nd (some (.fro (ns.map LV.int))) (.nd (some (.lst (L.map LV.int))) (.nd (some (.lst acc)) .nil .nil) .nil) (.nd (some (.dic [])) .nil .nil), 2, cs2⟩
def HC (ns L Cl : List Int) : GH := ⟨4, .nd (some (.fro (ns.map LV.int))) (.nd (some (.lst (L.map LV.int))) (.nd (some (.lst (Cl.map LV.int))) .nil .nil) .nil) (.nd (some (.dic (DD 0 0))) .nil .nil), 2, cs2⟩
theorem big_ok {σ : SL} {g : GH} : (den big).e C σ g = .ok (.int 1000000000000000000) g := rfl
theorem abs_ok {x : Int} {a b : Option LV} {g : GH} : (den absT).e C [a, b, some (.int x)] g = .ok (.int (if x < 0 then -x else x)) g := rfl
theorem alA : alloc (.lst []) (hide [] (G1 ns)) = .ok (.loc 1) (HA ns []) := by kernel_rfl
abbrev HD (ns L : List Int) : GH := ⟨3, .nd (some (.fro (ns.map LV.int))) (.nd (some (.lst (L.map LV.int))) .nil .nil) (.nd (some (.dic [])) .nil .nil), 2, cs2⟩
theorem alD {L : List Int} : alloc (.dic []) (HA ns (L.map LV.int)) = .ok (.loc 2) (HD ns L) := by kernel_rfl
theorem alB {L : List Int} : alloc (.lst []) (hide [] (HD ns L)) = .ok (.loc 3) (HB ns L []) := by kernel_rfl
theorem stC {L Cl : List Int} {ps : List (LV × LV)} (h : mkD ps [] = DD 0 0) : store 2 (.dic (mkD ps [])) (HB ns L (Cl.map LV.int)) = .ok () (HC ns L Cl) := by rw [h]; kernel_rfl
theorem begun_run (hc : cs[k]? = some begC) (hn : ns.length ≤ 63) : ∃ L Cl : List Int, L.length ≤ 63 ∧ Cl.length ≤ 63 ∧ callF cs (n + 1) k [] [.loc 0] (G1 ns) = .ok (.loc 2) (HC ns L Cl) := by
  rw [call1 hc rfl rfl rfl]
  generalize callF cs n = C
  obtain ⟨L, l1, l2⟩ := lc_loop (C := C) (ns := ns) (tg := (den (.tgv 2)).tg) (c := (den (.cmp .ge absT big)).b) (e := (den (.bin .sub absT big)).e) (own := [2]) (d := 1) (σ := [some (.loc 0), none, none]) (Hp := HA ns) (fun acc => rfl) (fun acc => rfl) (fun acc v => rfl)
    (fun x acc => ⟨[some (.loc 0), none, some (.int x)], decide (1000000000000000000 ≤ if x < 0 then -x else x), (if x < 0 then -x else x) - 1000000000000000000, rfl, rfl, fun _ => rfl, rfl⟩) ns.length 0 fuel [] rfl (by unfold fuel; omega) (by simpa using hn)
  obtain ⟨Cl, c1, c2⟩ := lc_loop (C := C) (ns := ns) (tg := (den (.tgv 2)).tg) (c := (den (.lit (.bl true))).b) (e := (den absT).e) (own := [2]) (d := 3) (σ := [some (.loc 0), some (.loc 1), none]) (Hp := HB ns L) (fun acc => rfl) (fun acc => rfl) (fun acc v => rfl)
    (fun x acc => ⟨[some (.loc 0), some (.loc 1), some (.int x)], true, if x < 0 then -x else x, rfl, rfl, fun _ => rfl, rfl⟩) ns.length 0 fuel [] rfl (by unfold fuel; omega) (by simpa using hn)
  refine ⟨L, Cl, l1, c1, ?_⟩
  have s1 : (den (.asg (.tgv 1) lc1)).s C [some (.loc 0), none, none] (G1 ns) = .ok (.nx, [some (.loc 0), some (.loc 1), none]) (HA ns (L.map LV.int)) := by
    refine st_asg (v := .loc 1) (g1 := HA ns (L.map LV.int)) ?_ rfl
    rw [d_lc, d_itv, show (den (.var 0)).e C [some (LV.loc 0), none, none] (G1 ns) = .ok (.loc 0) (G1 ns) from rfl, bd, show valI (.loc 0) (G1 ns) = .ok (.lst 0 0) (G1 ns) from rfl, bd]
    rw [lcD, show cellsOf [some (LV.loc 0), none, none] [] = some [] from rfl]
    dsimp only
    rw [alA, bd]
    have l2 : lcL C (den (.tgv 2)).tg (den (.cmp .ge absT big)).b (den (.bin .sub absT big)).e [2] 1 fuel (.lst 0 0) [some (.loc 0), none, none] (HA ns []) = .ok (.loc 1) (HA ns (L.map LV.int)) := l2
    exact (congrArg (back cs2) l2).trans rfl
  have s2 : (den lc2).e C [some (.loc 0), some (.loc 1), none] (HD ns L) = .ok (.loc 3) (HB ns L (Cl.map LV.int)) := by
    rw [d_lc, d_itv, show (den (.var 0)).e C [some (LV.loc 0), some (.loc 1), none] (HD ns L) = .ok (.loc 0) (HD ns L) from rfl, bd, show valI (.loc 0) (HD ns L) = .ok (.lst 0 0) (HD ns L) from rfl, bd]
    rw [lcD, show cellsOf [some (LV.loc 0), some (.loc 1), none] [] = some [] from rfl]
    dsimp only
    rw [alB, bd]
    have c2 : lcL C (den (.tgv 2)).tg (den (.lit (.bl true))).b (den absT).e [2] 3 fuel (.lst 0 0) [some (.loc 0), some (.loc 1), none] (HB ns L []) = .ok (.loc 3) (HB ns L (Cl.map LV.int)) := c2
    exact (congrArg (back cs2) c2).trans rfl
  have s3 : (den begC.body).s C [some (.loc 0), none, none] (G1 ns) = .ok (.rt (.loc 2), [some (.loc 0), some (.loc 1), none]) (HC ns L Cl) := by
    refine sq s1 (sq_rt (st_ret ?_))
    rw [d_dct, alD, bd]
    rw [ev_cons rfl (ev_cons rfl (ev_cons rfl (ev_cons rfl (ev_cons rfl (ev_cons s2 (ev_cons rfl (ev_one rfl)))))))]
    rw [bd]
    have hp : pairUp [LV.str [108, 97, 114, 103, 101], .loc 1, .str [114, 101, 115, 116], .int 0, .str [99, 101, 108, 108, 115], .loc 3, .str [116, 117, 114, 110], .int 0] = some [(.str [108, 97, 114, 103, 101], .loc 1), (.str [114, 101, 115, 116], .int 0), (.str [99, 101, 108, 108, 115], .loc 3), (.str [116, 117, 114, 110], .int 0)] := rfl
    have hg : (HB ns L (Cl.map LV.int)).t.get (HA ns (L.map LV.int)).size = some (.dic []) := by kernel_rfl
    rw [hp, hg]
    dsimp only
    rw [if_pos (by rfl), show (HA ns (L.map LV.int)).size = 2 from rfl, stC rfl, bd]
  exact congrArg (retC cs2) s3
end
end MP
namespace MP
theorem call2 {cs : List Code} {n k : Nat} {c : Code} {args : List LV} {g g1 : GH} {σ1 : SL} (e : cs[k]? = some c) (h : args.length = c.np) (h0 : c.nc = 0) (hm : mkCells c.cells (args.map some ++ List.replicate (c.ns - c.np) none) g = (σ1, g1)) : callF cs (n + 1) k [] args g = retC g.cs ((den c.body).s (callF cs n) σ1 g1) := by
  show (match cs[k]? with | none => Res.stuck | some c => _) = _
  rw [e]
  dsimp only
  rw [if_pos ⟨h, by rw [h0]; rfl⟩]
  have : args.map some ++ (([] : List Nat).map (fun n => some (LV.loc n)) ++ List.replicate (c.ns - c.np - c.nc) none) = args.map some ++ List.replicate (c.ns - c.np) none := by rw [h0]; rfl
  rw [this, hm]
  show (match (den c.body).s (callF cs n) σ1 g1 with | .ok (.nx, _) g2 => _ | .ok (.rt v, _) g2 => _ | .ok _ _ => _ | .exn k g2 => _ | .stuck => _) = _
  unfold retC
  generalize (den c.body).s (callF cs n) σ1 g1 = r
  cases r with
  | ok a g2 =>
    obtain ⟨fl, σ⟩ := a
    cases fl <;> rfl
  | exn k g2 => rfl
  | stuck => rfl
/-! pick -/
abbrev picC (kt : Nat) : Code := ⟨2, 0, 2, [], .cons (.ret (.ix (.var 1) (.cal false kt (.cons (.var 0) (.cons (.bi .len (.cons (.var 1) .nil)) .nil))))) .nil⟩
theorem pick_run {cs : List Code} {n k kt km : Nat} {g : GH} {r t : Int} {L Cl : List Int} {xs : List LV} {p : Nat} (hm : cs[km]? = some mixC) (ht : cs[kt]? = some (takC km)) (hc : cs[k]? = some (picC kt)) (h : Dr g r t L Cl) (hp : g.t.get p = some (.lst xs)) (p4 : 4 ≤ p) (p5 : p < g.size) (hx : 0 < xs.length) (hx2 : xs.length < 1000000) (hs : g.size + 3 < 1000000) :
    ∃ (i : Nat) (hi : i < xs.length) (r' t' : Int) (L' : List Int) (as : List GO), as.length ≤ 2 ∧ L'.length ≤ 63 ∧ callF cs (n + 3) k [] [.loc 2, .loc p] g = .ok xs[i] (wr (al g as) r' t' L') := by
  obtain ⟨v, r', t', L', as, v1, v2, al1, ll, e⟩ := take_run (n := n) hm ht h (a := (xs.length : Int)) (by omega) (by omega) hs
  have hi : v.toNat < xs.length := by omega
  refine ⟨v.toNat, hi, r', t', L', as, al1, ll, ?_⟩
  rw [call1 hc rfl rfl rfl]
  have hlen : (den (.bi .len (.cons (.var 1) .nil))).e (callF cs (n + 2)) [some (.loc 2), some (.loc p)] g = .ok (.int xs.length) g := by
    refine ev_bi (ev_one (x := .loc p) (g1 := g) rfl) ?_
    show (match g.t.get p with
      | some (.lst xs) => Res.ok (LV.int xs.length) g
      | some (.fro xs) => .ok (.int xs.length) g
      | some (.dic xs) => .ok (.int xs.length) g
      | some (.set xs) => .ok (.int xs.length) g
      | _ => .stuck) = _
    rw [hp]
  have gp : (wr (al g as) r' t' L').t.get p = some (.lst xs) := by
    show (S1 (S1 (al g as).t 2 _) 1 _).get p = _
    rw [S1_get (by omega), if_neg (by omega), S1_get (by omega), if_neg (by omega), al_get as g p p5 (by omega)]
    exact hp
  have key : (den (picC kt).body).s (callF cs (n + 2)) [some (.loc 2), some (.loc p)] g = .ok (.rt xs[v.toNat], [some (.loc 2), some (.loc p)]) (wr (al g as) r' t' L') := by
    refine sq_rt (st_ret ?_)
    rw [d_ix, show (den (.var 1)).e (callF cs (n + 2)) [some (LV.loc 2), some (.loc p)] g = .ok (.loc p) g from rfl, bd]
    rw [ev_cal (ev_cons (x := .loc 2) (g1 := g) rfl (ev_one hlen)) e, bd]
    have : semIx (.loc p) (.int v) (wr (al g as) r' t' L') = some xs[v.toNat] := by
      show (match (wr (al g as) r' t' L').t.get p with | some (.lst xs) => atV xs (.int v) | some (.fro xs) => atV xs (.int v) | some (.dic kvs) => if isKey (.int v) = true then dLook (.int v) kvs else none | _ => none) = _
      rw [gp]
      show (match ixN xs.length v with | some j => xs[j]? | none => none) = _
      unfold ixN
      rw [if_pos v1, if_pos (by omega)]
      exact List.getElem?_eq_getElem hi
    rw [this]
    rfl
  refine (congrArg (retC g.cs) key).trans ?_
  have hcs := (al_size as g).2.2
  show Res.ok xs[v.toNat] (⟨(al g as).size, _, (al g as).cn, g.cs⟩ : GH) = _
  rw [← hcs]
  rfl
end MP
namespace MP
open PySem PySem.Spec L2
open PyProof.Rows hiding St

/-! the texts of one program: printed by gen.py -/
abbrev PG : Program := PySem.Challenge.pw_everypolicy_k00_made_policies
/-- is_integer: value -/
def c0 : Code := ⟨1, 0, 1, [], (.cons (.ret (.and (.isi .int (.var 0)) (.no (.isi .bool (.var 0)))))
    .nil)⟩
/-- is_from_to: value least most -/
def c1 : Code := ⟨3, 0, 3, [], (.cons (.ret (.and (.cal true 0 (.cons (.var 0) .nil)) (.chn .le .le (.var 1) (.var 0) (.var 2))))
    .nil)⟩
/-- is_row: value ways size row -/
def c2 : Code := ⟨3, 0, 4, [2], (.cons (.iff (.or (.no (.isi .tuple (.var 0))) (.or (.cmp .ne (.bi .len (.cons (.var 0) .nil)) (.lit (.int 3))) (.or (.no (.isi .tuple (.ix (.var 0) (.lit (.int 0))))) (.cmp .ne (.bi .len (.cons (.ix (.var 0) (.lit (.int 0))) .nil)) (.var 1))))) (.cons (.ret (.lit (.bl false)))
    .nil) .nil)
    (.cons (.iff (.cmp .ne (.lc [3] [] (.tgv 3) (.itv (.ix (.var 0) (.lit (.int 0)))) (.no (.cal true 1 (.cons (.var 3) (.cons (.lit (.int 0)) (.cons (.bin .sub (.cvar 2) (.lit (.int 1))) .nil))))) (.var 3)) (.lst .nil)) (.cons (.ret (.lit (.bl false)))
    .nil) .nil)
    (.cons (.ret (.and (.cal true 1 (.cons (.ix (.var 0) (.lit (.int 1))) (.cons (.lit (.int 0)) (.cons (.bin .sub (.var 1) (.lit (.int 1))) .nil)))) (.cal true 1 (.cons (.ix (.var 0) (.lit (.int 2))) (.cons (.lit (.int 0)) (.cons (.bin .sub (.cvar 2) (.lit (.int 1))) .nil))))))
    .nil)))⟩
/-- is_policy: value size row -/
def c3 : Code := ⟨1, 0, 3, [0, 1], (.cons (.iff (.or (.no (.isi .tuple (.cvar 0))) (.or (.cmp .ne (.bi .len (.cons (.cvar 0) .nil)) (.lit (.int 3))) (.or (.no (.isi .str (.ix (.cvar 0) (.lit (.int 0))))) (.cmp .ne (.ix (.cvar 0) (.lit (.int 0))) (.lit (.str [112, 111, 108, 105, 99, 121])))))) (.cons (.ret (.lit (.bl false)))
    .nil) .nil)
    (.cons (.iff (.or (.no (.cal true 1 (.cons (.ix (.cvar 0) (.lit (.int 1))) (.cons (.lit (.int 1)) (.cons (.lit (.int 4)) .nil))))) (.no (.isi .tuple (.ix (.cvar 0) (.lit (.int 2)))))) (.cons (.ret (.lit (.bl false)))
    .nil) .nil)
    (.cons (.asg (.tgc 1) (.bi .len (.cons (.ix (.cvar 0) (.lit (.int 2))) .nil)))
    (.cons (.ret (.and (.chn .le .le (.lit (.int 1)) (.cvar 1) (.lit (.int 64))) (.cmp .eq (.lc [2] [] (.tgv 2) (.itv (.ix (.cvar 0) (.lit (.int 2)))) (.no (.cal true 2 (.cons (.var 2) (.cons (.ix (.cvar 0) (.lit (.int 1))) (.cons (.cvar 1) .nil))))) (.var 2)) (.lst .nil))))
    .nil))))⟩
/-- need_policy_ways: value -/
def c4 : Code := ⟨1, 0, 1, [], (.cons (.iff (.no (.cal true 1 (.cons (.var 0) (.cons (.lit (.int 1)) (.cons (.lit (.int 4)) .nil))))) (.cons (.rai 1)
    .nil) .nil)
    .nil)⟩
/-- made: ways begin hit missed states rows here victim behind later state way -/
def c5 : Code := ⟨4, 0, 12, [2, 4, 6], (.cons (.asg (.tgt 2 (.cons (.tgc 4) (.cons (.tgv 5) .nil))) (.tup (.cons (.lst (.cons (.var 1) .nil)) (.cons (.lst .nil) .nil))))
    (.cons (.whl (.cmp .lt (.bi .len (.cons (.var 5) .nil)) (.bi .len (.cons (.cvar 4) .nil))) (.cons (.asg (.tgc 6) (.ix (.cvar 4) (.bi .len (.cons (.var 5) .nil))))
    (.cons (.asg (.tgt 2 (.cons (.tgv 7) (.cons (.tgv 8) .nil))) (.cav true (.var 3) (.cons (.cvar 6) .nil)))
    (.cons (.asg (.tgv 9) (.bin .add (.lc [11] [4] (.tgv 11) (.itr (.var 0)) (.lit (.bl true)) (.cav true (.cvar 2) (.cons (.cvar 6) (.cons (.var 11) .nil)))) (.lst (.cons (.var 8) .nil))))
    (.cons (.fr (.tgv 10) (.itv (.var 9)) (.cons (.iff (.cmp .nin (.var 10) (.cvar 4)) (.cons (.exs (.mt .append (.cvar 4) (.cons (.var 10) .nil)))
    .nil) .nil)
    .nil))
    (.cons (.exs (.mt .append (.var 5) (.cons (.tup (.cons (.bi .tuple (.cons (.lc [10] [2, 6] (.tgv 10) (.itv (.sl (.var 9) (.lit .non) (.var 0))) (.lit (.bl true)) (.mt .index (.cvar 4) (.cons (.var 10) .nil))) .nil)) (.cons (.var 7) (.cons (.mt .index (.cvar 4) (.cons (.var 8) .nil)) .nil)))) .nil)))
    .nil))))))
    (.cons (.ret (.tup (.cons (.lit (.str [112, 111, 108, 105, 99, 121])) (.cons (.var 0) (.cons (.bi .tuple (.cons (.var 5) .nil)) .nil)))))
    .nil)))⟩
/-- moved_first: order way one -/
def c6 : Code := ⟨2, 0, 3, [1], (.cons (.ret (.bin .add (.tup (.cons (.cvar 1) .nil)) (.bi .tuple (.cons (.lc [2] [] (.tgv 2) (.itv (.var 0)) (.cmp .ne (.var 2) (.cvar 1)) (.var 2)) .nil))))
    .nil)⟩
/-- lru_policy: ways -/
def c7 : Code := ⟨1, 0, 1, [], (.cons (.exs (.cal true 4 (.cons (.var 0) .nil)))
    (.cons (.ret (.cal false 5 (.cons (.var 0) (.cons (.rg1 false (.var 0)) (.cons (.glo 6) (.cons (.lam 31 []) .nil))))))
    .nil))⟩
/-- fifo_policy: ways -/
def c8 : Code := ⟨1, 0, 1, [0], (.cons (.exs (.cal true 4 (.cons (.cvar 0) .nil)))
    (.cons (.ret (.cal false 5 (.cons (.cvar 0) (.cons (.lit (.int 0)) (.cons (.lam 33 []) (.cons (.lam 32 [0]) .nil))))))
    .nil))⟩
/-- marked: marks way found place mark -/
def c9 : Code := ⟨2, 0, 5, [1], (.cons (.asg (.tgv 2) (.bi .tuple (.cons (.lc [3, 4] [] (.tgt 2 (.cons (.tgv 3) (.cons (.tgv 4) .nil))) (.ite (.var 0)) (.lit (.bl true)) (.or (.var 4) (.cmp .eq (.var 3) (.cvar 1)))) .nil)))
    (.cons (.ret (.ife (.and (.bi .all (.cons (.var 2) .nil)) (.cmp .gt (.bi .len (.cons (.var 0) .nil)) (.lit (.int 1)))) (.bi .tuple (.cons (.lc [3] [] (.tgv 3) (.itr (.bi .len (.cons (.var 0) .nil))) (.lit (.bl true)) (.cmp .eq (.var 3) (.cvar 1))) .nil)) (.var 2)))
    .nil))⟩
/-- mark_policy: ways -/
def c10 : Code := ⟨1, 0, 1, [], (.cons (.exs (.cal true 4 (.cons (.var 0) .nil)))
    (.cons (.iff (.cmp .eq (.var 0) (.lit (.int 1))) (.cons (.ret (.tup (.cons (.lit (.str [112, 111, 108, 105, 99, 121])) (.cons (.lit (.int 1)) (.cons (.tup (.cons (.tup (.cons (.tup (.cons (.lit (.int 0)) .nil)) (.cons (.lit (.int 0)) (.cons (.lit (.int 0)) .nil)))) .nil)) .nil)))))
    .nil) .nil)
    (.cons (.ret (.cal false 5 (.cons (.var 0) (.cons (.bin .mul (.tup (.cons (.lit (.bl false)) .nil)) (.var 0)) (.cons (.glo 9) (.cons (.lam 34 []) .nil))))))
    .nil)))⟩
/-- tree_way: bits ways -/
def c11 : Code := ⟨2, 0, 2, [], (.cons (.iff (.cmp .eq (.var 1) (.lit (.int 1))) (.cons (.ret (.lit (.int 0)))
    .nil) .nil)
    (.cons (.iff (.cmp .eq (.var 1) (.lit (.int 2))) (.cons (.ret (.ix (.var 0) (.lit (.int 0))))
    .nil) .nil)
    (.cons (.ret (.bin .add (.bin .mul (.lit (.int 2)) (.ix (.var 0) (.lit (.int 0)))) (.ix (.var 0) (.bin .add (.lit (.int 1)) (.ix (.var 0) (.lit (.int 0)))))))
    .nil)))⟩
/-- tree_behind: bits way ways half low found -/
def c12 : Code := ⟨3, 0, 6, [], (.cons (.iff (.cmp .eq (.var 2) (.lit (.int 1))) (.cons (.ret (.var 0))
    .nil) .nil)
    (.cons (.iff (.cmp .eq (.var 2) (.lit (.int 2))) (.cons (.ret (.tup (.cons (.bin .sub (.lit (.int 1)) (.var 1)) .nil)))
    .nil) .nil)
    (.cons (.asg (.tgt 2 (.cons (.tgv 3) (.cons (.tgv 4) .nil))) (.tup (.cons (.bin .fdiv (.var 1) (.lit (.int 2))) (.cons (.bin .mod (.var 1) (.lit (.int 2))) .nil))))
    (.cons (.asg (.tgv 5) (.bi .list (.cons (.var 0) .nil)))
    (.cons (.asg (.tgt 2 (.cons (.tgi (.var 5) (.lit (.int 0))) (.cons (.tgi (.var 5) (.bin .add (.lit (.int 1)) (.var 3))) .nil))) (.tup (.cons (.bin .sub (.lit (.int 1)) (.var 3)) (.cons (.bin .sub (.lit (.int 1)) (.var 4)) .nil))))
    (.cons (.ret (.bi .tuple (.cons (.var 5) .nil)))
    .nil))))))⟩
/-- tree_policy: ways missed -/
def c13 : Code := ⟨1, 0, 2, [0], (.cons (.exs (.cal true 4 (.cons (.cvar 0) .nil)))
    (.cons (.iff (.cmp .eq (.cvar 0) (.lit (.int 3))) (.cons (.rai 1)
    .nil) .nil)
    (.cons (.asg (.tgv 1) (.lam 35 [0]))
    (.cons (.ret (.cal false 5 (.cons (.cvar 0) (.cons (.bin .mul (.tup (.cons (.lit (.int 0)) .nil)) (.bin .sub (.cvar 0) (.lit (.int 1)))) (.cons (.lam 36 [0]) (.cons (.var 1) .nil))))))
    .nil))))⟩
/-- swept: hand marks -/
def c14 : Code := ⟨2, 0, 2, [], (.cons (.asg (.tgv 1) (.bi .list (.cons (.var 1) .nil)))
    (.cons (.whl (.ix (.var 1) (.var 0)) (.cons (.asg (.tgi (.var 1) (.var 0)) (.lit (.bl false)))
    (.cons (.asg (.tgv 0) (.bin .mod (.bin .add (.var 0) (.lit (.int 1))) (.bi .len (.cons (.var 1) .nil))))
    .nil)))
    (.cons (.ret (.tup (.cons (.var 0) (.cons (.bi .tuple (.cons (.var 1) .nil)) .nil))))
    .nil)))⟩
/-- clock_policy: ways hit missed -/
def c15 : Code := ⟨1, 0, 3, [0], (.cons (.exs (.cal true 4 (.cons (.cvar 0) .nil)))
    (.cons (.asg (.tgv 1) (.lam 37 []))
    (.cons (.asg (.tgv 2) (.lam 38 [0]))
    (.cons (.ret (.cal false 5 (.cons (.cvar 0) (.cons (.tup (.cons (.lit (.int 0)) (.cons (.bin .mul (.tup (.cons (.lit (.bl false)) .nil)) (.cvar 0)) .nil))) (.cons (.var 1) (.cons (.var 2) .nil))))))
    .nil))))⟩
/-- _law_begun: script large grain -/
def c16 : Code := ⟨1, 0, 3, [], (.cons (.asg (.tgv 1) (.lc [2] [] (.tgv 2) (.itv (.var 0)) (.cmp .ge (.bi .abs (.cons (.var 2) .nil)) (.bin .pow (.lit (.int 10)) (.lit (.int 18)))) (.bin .sub (.bi .abs (.cons (.var 2) .nil)) (.bin .pow (.lit (.int 10)) (.lit (.int 18))))))
    (.cons (.ret (.dct (.cons (.lit (.str [108, 97, 114, 103, 101])) (.cons (.var 1) (.cons (.lit (.str [114, 101, 115, 116])) (.cons (.lit (.int 0)) (.cons (.lit (.str [99, 101, 108, 108, 115])) (.cons (.lc [2] [] (.tgv 2) (.itv (.var 0)) (.lit (.bl true)) (.bi .abs (.cons (.var 2) .nil))) (.cons (.lit (.str [116, 117, 114, 110])) (.cons (.lit (.int 0)) .nil))))))))))
    .nil))⟩
/-- _law_mixed: draw turn found great blend grain -/
def c17 : Code := ⟨1, 0, 6, [], (.cons (.asg (.tgi (.var 0) (.lit (.str [116, 117, 114, 110]))) (.bin .add (.ix (.var 0) (.lit (.str [116, 117, 114, 110]))) (.lit (.int 1))))
    (.cons (.asg (.tgt 2 (.cons (.tgv 1) (.cons (.tgv 2) .nil))) (.tup (.cons (.bi .int (.cons (.ix (.var 0) (.lit (.str [116, 117, 114, 110]))) .nil)) (.cons (.lit (.int 0)) .nil))))
    (.cons (.fr (.tgv 3) (.itv (.lst (.cons (.lit (.int 2147483629)) (.cons (.lit (.int 2147483587)) (.cons (.lit (.int 2147483579)) .nil))))) (.cons (.asg (.tgv 4) (.bin .mod (.bi .int (.cons (.bin .add (.bin .mul (.var 1) (.lit (.int 69621))) (.bin .fdiv (.var 3) (.lit (.int 7)))) .nil)) (.var 3)))
    (.cons (.fr (.tgv 5) (.itv (.ix (.var 0) (.lit (.str [99, 101, 108, 108, 115])))) (.cons (.asg (.tgv 4) (.bin .mod (.bi .int (.cons (.bin .add (.bin .add (.bin .mul (.var 4) (.lit (.int 48271))) (.bi .int (.cons (.var 5) .nil))) (.lit (.int 1))) .nil)) (.var 3)))
    .nil))
    (.cons (.asg (.tgv 2) (.bin .add (.bin .mul (.var 2) (.lit (.int 2147483647))) (.bin .mod (.bi .int (.cons (.bin .pow (.var 4) (.lit (.int 5))) .nil)) (.var 3))))
    .nil))))
    (.cons (.ret (.var 2))
    .nil))))⟩
/-- _law_take: draw amount found -/
def c18 : Code := ⟨2, 0, 3, [], (.cons (.iff (.cmp .eq (.ix (.var 0) (.lit (.str [114, 101, 115, 116]))) (.lit (.int 0))) (.cons (.asg (.tgi (.var 0) (.lit (.str [114, 101, 115, 116]))) (.ife (.cmp .ne (.ix (.var 0) (.lit (.str [108, 97, 114, 103, 101]))) (.lst .nil)) (.mt .pop (.ix (.var 0) (.lit (.str [108, 97, 114, 103, 101]))) (.cons (.lit (.int 0)) .nil)) (.cal false 17 (.cons (.var 0) .nil))))
    .nil) .nil)
    (.cons (.asg (.tgv 2) (.bin .mod (.bi .int (.cons (.ix (.var 0) (.lit (.str [114, 101, 115, 116]))) .nil)) (.var 1)))
    (.cons (.asg (.tgi (.var 0) (.lit (.str [114, 101, 115, 116]))) (.bin .fdiv (.bi .int (.cons (.ix (.var 0) (.lit (.str [114, 101, 115, 116]))) .nil)) (.var 1)))
    (.cons (.ret (.var 2))
    .nil))))⟩
/-- _law_pick: draw some -/
def c19 : Code := ⟨2, 0, 2, [], (.cons (.ret (.ix (.var 1) (.cal false 18 (.cons (.var 0) (.cons (.bi .len (.cons (.var 1) .nil)) .nil)))))
    .nil)⟩
/-- _law_caught: work caught error -/
def c20 : Code := ⟨1, 0, 3, [], (.cons (.asg (.tgv 1) (.lit .non))
    (.cons (.try_ [0, 1] 2 1 (.cav false (.var 0) .nil))
    (.cons (.ret (.var 1))
    .nil)))⟩
/-- _law_says: told_here due -/
def c21 : Code := ⟨2, 0, 2, [], (.cons (.ret (.cmp .eq (.bi .repr (.cons (.var 0) .nil)) (.bi .repr (.cons (.var 1) .nil))))
    .nil)⟩
/-- _law_met: ways begin hit missed states rows here victim behind later state way -/
def c22 : Code := ⟨4, 0, 12, [2, 4, 6], (.cons (.asg (.tgt 2 (.cons (.tgc 4) (.cons (.tgv 5) .nil))) (.tup (.cons (.lst (.cons (.var 1) .nil)) (.cons (.lst .nil) .nil))))
    (.cons (.whl (.cmp .lt (.bi .len (.cons (.var 5) .nil)) (.bi .len (.cons (.cvar 4) .nil))) (.cons (.asg (.tgc 6) (.ix (.cvar 4) (.bi .len (.cons (.var 5) .nil))))
    (.cons (.asg (.tgt 2 (.cons (.tgv 7) (.cons (.tgv 8) .nil))) (.cav false (.var 3) (.cons (.cvar 6) .nil)))
    (.cons (.asg (.tgv 9) (.lc [11] [4] (.tgv 11) (.itr (.var 0)) (.lit (.bl true)) (.cav false (.cvar 2) (.cons (.cvar 6) (.cons (.var 11) .nil)))))
    (.cons (.fr (.tgv 10) (.itv (.bin .add (.var 9) (.lst (.cons (.var 8) .nil)))) (.cons (.iff (.cmp .nin (.var 10) (.cvar 4)) (.cons (.asg (.tgc 4) (.bin .add (.cvar 4) (.lst (.cons (.var 10) .nil))))
    .nil) .nil)
    .nil))
    (.cons (.asg (.tgv 5) (.bin .add (.var 5) (.lst (.cons (.tup (.cons (.bi .tuple (.cons (.lc [10] [2, 6] (.tgv 10) (.itv (.var 9)) (.lit (.bl true)) (.mt .index (.cvar 4) (.cons (.var 10) .nil))) .nil)) (.cons (.var 7) (.cons (.mt .index (.cvar 4) (.cons (.var 8) .nil)) .nil)))) .nil))))
    .nil))))))
    (.cons (.ret (.tup (.cons (.lit (.str [112, 111, 108, 105, 99, 121])) (.cons (.var 0) (.cons (.bi .tuple (.cons (.var 5) .nil)) .nil)))))
    .nil)))⟩
/-- _law_lru: ways -/
def c23 : Code := ⟨1, 0, 1, [], (.cons (.ret (.cal false 22 (.cons (.var 0) (.cons (.rg1 true (.var 0)) (.cons (.lam 40 []) (.cons (.lam 39 []) .nil))))))
    .nil)⟩
/-- _law_fifo: ways -/
def c24 : Code := ⟨1, 0, 1, [0], (.cons (.ret (.cal false 22 (.cons (.cvar 0) (.cons (.lit (.int 0)) (.cons (.lam 42 []) (.cons (.lam 41 [0]) .nil))))))
    .nil)⟩
/-- _law_mark_of: marks way found -/
def c25 : Code := ⟨2, 0, 3, [], (.cons (.asg (.tgv 2) (.srs (.bin .add (.ix (.var 0) (.lit (.int 0))) (.lst (.cons (.var 1) .nil)))))
    (.cons (.ret (.tup (.cons (.ife (.cmp .eq (.bi .len (.cons (.var 2) .nil)) (.ix (.var 0) (.lit (.int 1)))) (.lst (.cons (.var 1) .nil)) (.var 2)) (.cons (.ix (.var 0) (.lit (.int 1))) .nil))))
    .nil))⟩
/-- _law_mark: ways _law_lowest -/
def c26 : Code := ⟨1, 0, 2, [0], (.cons (.iff (.cmp .eq (.cvar 0) (.lit (.int 1))) (.cons (.ret (.tup (.cons (.lit (.str [112, 111, 108, 105, 99, 121])) (.cons (.lit (.int 1)) (.cons (.tup (.cons (.tup (.cons (.tup (.cons (.lit (.int 0)) .nil)) (.cons (.lit (.int 0)) (.cons (.lit (.int 0)) .nil)))) .nil)) .nil)))))
    .nil) .nil)
    (.cons (.asg (.tgv 1) (.lam 43 [0]))
    (.cons (.ret (.cal false 22 (.cons (.cvar 0) (.cons (.tup (.cons (.lst .nil) (.cons (.cvar 0) .nil))) (.cons (.glo 25) (.cons (.var 1) .nil))))))
    .nil)))⟩
/-- _law_tree: ways nodes names _law_away _law_pointed node -/
def c27 : Code := ⟨1, 0, 6, [2, 3], (.cons (.asg (.tgv 1) (.ix (.dct (.cons (.lit (.int 1)) (.cons (.lst .nil) (.cons (.lit (.int 2)) (.cons (.lst (.cons (.lit (.str [])) .nil)) (.cons (.lit (.int 4)) (.cons (.lst (.cons (.lit (.str [])) (.cons (.lit (.str [48])) (.cons (.lit (.str [49])) .nil)))) .nil))))))) (.var 0)))
    (.cons (.asg (.tgc 2) (.ix (.dct (.cons (.lit (.int 1)) (.cons (.lst (.cons (.lit (.str [])) .nil)) (.cons (.lit (.int 2)) (.cons (.lst (.cons (.lit (.str [48])) (.cons (.lit (.str [49])) .nil))) (.cons (.lit (.int 4)) (.cons (.lst (.cons (.lit (.str [48, 48])) (.cons (.lit (.str [48, 49])) (.cons (.lit (.str [49, 48])) (.cons (.lit (.str [49, 49])) .nil))))) .nil))))))) (.var 0)))
    (.cons (.asg (.tgc 3) (.lam 44 [2]))
    (.cons (.asg (.tgv 4) (.lam 45 [2, 3]))
    (.cons (.ret (.cal false 22 (.cons (.var 0) (.cons (.lc [5] [2, 3] (.tgv 5) (.itv (.var 1)) (.lit (.bl true)) (.tup (.cons (.var 5) (.cons (.lit (.str [48])) .nil)))) (.cons (.cvar 3) (.cons (.var 4) .nil))))))
    .nil)))))⟩
/-- _law_clock: ways _law_marked _law_swept -/
def c28 : Code := ⟨1, 0, 3, [0], (.cons (.asg (.tgv 1) (.lam 46 []))
    (.cons (.asg (.tgv 2) (.lam 47 [0]))
    (.cons (.ret (.cal false 22 (.cons (.cvar 0) (.cons (.tup (.cons (.lit (.int 0)) (.cons (.lst .nil) .nil))) (.cons (.var 1) (.cons (.var 2) .nil))))))
    .nil)))⟩
/-- _law_made: name ways -/
def c29 : Code := ⟨2, 0, 2, [], (.cons (.ret (.cav false (.ix (.dct (.cons (.lit (.str [108, 114, 117])) (.cons (.glo 23) (.cons (.lit (.str [102, 105, 102, 111])) (.cons (.glo 24) (.cons (.lit (.str [109, 97, 114, 107])) (.cons (.glo 26) (.cons (.lit (.str [116, 114, 101, 101])) (.cons (.glo 27) (.cons (.lit (.str [99, 108, 111, 99, 107])) (.cons (.glo 28) .nil))))))))))) (.var 0)) (.cons (.var 1) .nil)))
    .nil)⟩
/-- law: script draw works name work ways due bad -/
def c30 : Code := ⟨1, 0, 8, [4, 7], (.cons (.asg (.tgv 1) (.cal false 16 (.cons (.var 0) .nil)))
    (.cons (.asg (.tgv 2) (.dct (.cons (.lit (.str [108, 114, 117])) (.cons (.glo 7) (.cons (.lit (.str [102, 105, 102, 111])) (.cons (.glo 8) (.cons (.lit (.str [109, 97, 114, 107])) (.cons (.glo 10) (.cons (.lit (.str [116, 114, 101, 101])) (.cons (.glo 13) (.cons (.lit (.str [99, 108, 111, 99, 107])) (.cons (.glo 15) .nil))))))))))))
    (.cons (.fr (.tgv 3) (.itv (.bi .sortedD (.cons (.var 2) .nil))) (.cons (.asg (.tgc 4) (.ix (.var 2) (.var 3)))
    (.cons (.fr (.tgv 5) (.itv (.ife (.cmp .eq (.var 3) (.lit (.str [116, 114, 101, 101]))) (.lst (.cons (.lit (.int 1)) (.cons (.lit (.int 2)) (.cons (.lit (.int 4)) .nil)))) (.lst (.cons (.lit (.int 1)) (.cons (.lit (.int 2)) (.cons (.lit (.int 3)) (.cons (.lit (.int 4)) .nil))))))) (.cons (.asg (.tgv 6) (.cal true 29 (.cons (.var 3) (.cons (.var 5) .nil))))
    (.cons (.iff (.or (.no (.cal false 21 (.cons (.lst (.cons (.cav true (.cvar 4) (.cons (.var 5) .nil)) (.cons (.cak true [7, 8, 10, 13, 15, 23, 24, 26, 27, 28] (.cvar 4) (.cons (.var 5) .nil)) .nil))) (.cons (.lst (.cons (.var 6) (.cons (.var 6) .nil))) .nil)))) (.cmp .isn (.cal true 3 (.cons (.cav true (.cvar 4) (.cons (.var 5) .nil)) .nil)) (.lit (.bl true)))) (.cons (.ret (.lit (.bl false)))
    .nil) .nil)
    .nil)))
    (.cons (.fr (.tgc 7) (.itv (.bin .add (.lst (.cons (.lit (.int 0)) (.cons (.lit (.int 5)) (.cons (.neg (.lit (.int 1))) (.cons (.lit (.bl true)) (.cons (.lit .non) (.cons (.lit (.str [50])) (.cons (.tup (.cons (.lit (.int 2)) .nil)) (.cons (.bin .pow (.lit (.int 2)) (.lit (.int 40))) .nil))))))))) (.ife (.cmp .eq (.var 3) (.lit (.str [116, 114, 101, 101]))) (.lst (.cons (.lit (.int 3)) .nil)) (.lst .nil)))) (.cons (.iff (.no (.isi (.cls 1) (.cal false 20 (.cons (.lam 48 [4, 7]) .nil)))) (.cons (.ret (.lit (.bl false)))
    .nil) .nil)
    .nil))
    .nil))))
    (.cons (.asg (.tgt 2 (.cons (.tgv 3) (.cons (.tgv 5) .nil))) (.tup (.cons (.cal false 19 (.cons (.var 1) (.cons (.lst (.cons (.lit (.str [108, 114, 117])) (.cons (.lit (.str [102, 105, 102, 111])) (.cons (.lit (.str [109, 97, 114, 107])) (.cons (.lit (.str [99, 108, 111, 99, 107])) .nil))))) .nil))) (.cons (.bin .add (.lit (.int 1)) (.cal false 18 (.cons (.var 1) (.cons (.lit (.int 4)) .nil)))) .nil))))
    (.cons (.ret (.cmp .eq (.bi .len (.cons (.ix (.cav true (.ix (.var 2) (.var 3)) (.cons (.var 5) .nil)) (.lit (.int 2))) .nil)) (.ix (.ix (.dct (.cons (.lit (.str [108, 114, 117])) (.cons (.lst (.cons (.lit (.int 1)) (.cons (.lit (.int 2)) (.cons (.lit (.int 6)) (.cons (.lit (.int 24)) .nil))))) (.cons (.lit (.str [102, 105, 102, 111])) (.cons (.lst (.cons (.lit (.int 1)) (.cons (.lit (.int 2)) (.cons (.lit (.int 3)) (.cons (.lit (.int 4)) .nil))))) (.cons (.lit (.str [109, 97, 114, 107])) (.cons (.lst (.cons (.lit (.int 1)) (.cons (.lit (.int 3)) (.cons (.lit (.int 7)) (.cons (.lit (.int 15)) .nil))))) (.cons (.lit (.str [99, 108, 111, 99, 107])) (.cons (.lst (.cons (.lit (.int 2)) (.cons (.lit (.int 6)) (.cons (.lit (.int 16)) (.cons (.lit (.int 40)) .nil))))) .nil))))))))) (.var 3)) (.bin .sub (.var 5) (.lit (.int 1))))))
    .nil)))))⟩
/-- lru_policy.<locals>.<lambda>: order -/
def c31 : Code := ⟨1, 0, 1, [], (.ret (.tup (.cons (.ix (.var 0) (.neg (.lit (.int 1)))) (.cons (.cal true 6 (.cons (.var 0) (.cons (.ix (.var 0) (.neg (.lit (.int 1)))) .nil))) .nil))))⟩
/-- fifo_policy.<locals>.<lambda>: turn ways -/
def c32 : Code := ⟨1, 1, 2, [], (.ret (.tup (.cons (.var 0) (.cons (.bin .mod (.bin .add (.var 0) (.lit (.int 1))) (.cvar 1)) .nil))))⟩
/-- fifo_policy.<locals>.<lambda>: turn way -/
def c33 : Code := ⟨2, 0, 2, [], (.ret (.var 0))⟩
/-- mark_policy.<locals>.<lambda>: marks -/
def c34 : Code := ⟨1, 0, 1, [], (.ret (.tup (.cons (.mt .index (.var 0) (.cons (.lit (.bl false)) .nil)) (.cons (.cal true 9 (.cons (.var 0) (.cons (.mt .index (.var 0) (.cons (.lit (.bl false)) .nil)) .nil))) .nil))))⟩
/-- tree_policy.<locals>.missed: bits ways way -/
def c35 : Code := ⟨1, 1, 3, [], (.cons (.asg (.tgv 2) (.cal true 11 (.cons (.var 0) (.cons (.cvar 1) .nil))))
    (.cons (.ret (.tup (.cons (.var 2) (.cons (.cal true 12 (.cons (.var 0) (.cons (.var 2) (.cons (.cvar 1) .nil)))) .nil))))
    .nil))⟩
/-- tree_policy.<locals>.<lambda>: bits way ways -/
def c36 : Code := ⟨2, 1, 3, [], (.ret (.cal true 12 (.cons (.var 0) (.cons (.var 1) (.cons (.cvar 2) .nil)))))⟩
/-- clock_policy.<locals>.hit: state way place mark -/
def c37 : Code := ⟨2, 0, 4, [1], (.cons (.ret (.tup (.cons (.ix (.var 0) (.lit (.int 0))) (.cons (.bi .tuple (.cons (.lc [2, 3] [] (.tgt 2 (.cons (.tgv 2) (.cons (.tgv 3) .nil))) (.ite (.ix (.var 0) (.lit (.int 1)))) (.lit (.bl true)) (.or (.var 3) (.cmp .eq (.var 2) (.cvar 1)))) .nil)) .nil))))
    .nil)⟩
/-- clock_policy.<locals>.missed: state ways way marks place mark -/
def c38 : Code := ⟨1, 1, 6, [2], (.cons (.asg (.tgt 2 (.cons (.tgc 2) (.cons (.tgv 3) .nil))) (.cal true 14 (.cons (.ix (.var 0) (.lit (.int 0))) (.cons (.ix (.var 0) (.lit (.int 1))) .nil))))
    (.cons (.ret (.tup (.cons (.cvar 2) (.cons (.tup (.cons (.bin .mod (.bin .add (.cvar 2) (.lit (.int 1))) (.cvar 1)) (.cons (.bi .tuple (.cons (.lc [4, 5] [1] (.tgt 2 (.cons (.tgv 4) (.cons (.tgv 5) .nil))) (.ite (.var 3)) (.lit (.bl true)) (.or (.var 5) (.cmp .eq (.var 4) (.cvar 2)))) .nil)) .nil))) .nil))))
    .nil))⟩
/-- _law_lru.<locals>.<lambda>: some -/
def c39 : Code := ⟨1, 0, 1, [], (.ret (.tup (.cons (.ix (.var 0) (.neg (.lit (.int 1)))) (.cons (.bin .add (.lst (.cons (.ix (.var 0) (.neg (.lit (.int 1)))) .nil)) (.sl (.var 0) (.lit .non) (.neg (.lit (.int 1))))) .nil))))⟩
/-- _law_lru.<locals>.<lambda>: order way one -/
def c40 : Code := ⟨2, 0, 3, [1], (.ret (.bin .add (.lst (.cons (.cvar 1) .nil)) (.lc [2] [] (.tgv 2) (.itv (.var 0)) (.cmp .ne (.var 2) (.cvar 1)) (.var 2))))⟩
/-- _law_fifo.<locals>.<lambda>: here ways -/
def c41 : Code := ⟨1, 1, 2, [], (.ret (.tup (.cons (.var 0) (.cons (.ife (.cmp .eq (.var 0) (.bin .sub (.cvar 1) (.lit (.int 1)))) (.lit (.int 0)) (.bin .add (.var 0) (.lit (.int 1)))) .nil))))⟩
/-- _law_fifo.<locals>.<lambda>: turn way -/
def c42 : Code := ⟨2, 0, 2, [], (.ret (.var 0))⟩
/-- _law_mark.<locals>._law_lowest: marks ways low way -/
def c43 : Code := ⟨1, 1, 4, [0], (.cons (.asg (.tgv 2) (.bi .min (.cons (.lc [3] [1] (.tgv 3) (.itr (.cvar 1)) (.cmp .nin (.var 3) (.ix (.cvar 0) (.lit (.int 0)))) (.var 3)) .nil)))
    (.cons (.ret (.tup (.cons (.var 2) (.cons (.cal false 25 (.cons (.cvar 0) (.cons (.var 2) .nil))) .nil))))
    .nil))⟩
/-- _law_tree.<locals>._law_away: bits way names path node side -/
def c44 : Code := ⟨2, 1, 6, [3], (.cons (.asg (.tgc 3) (.ix (.cvar 2) (.var 1)))
    (.cons (.ret (.lc [4, 5] [2] (.tgt 2 (.cons (.tgv 4) (.cons (.tgv 5) .nil))) (.itv (.var 0)) (.lit (.bl true)) (.tup (.cons (.var 4) (.cons (.ife (.cmp .eq (.sl (.cvar 3) (.lit .non) (.bi .len (.cons (.var 4) .nil))) (.var 4)) (.ife (.cmp .eq (.ix (.cvar 3) (.bi .len (.cons (.var 4) .nil))) (.lit (.str [48]))) (.lit (.str [49])) (.lit (.str [48]))) (.var 5)) .nil)))))
    .nil))⟩
/-- _law_tree.<locals>._law_pointed: bits names _law_away path sides -/
def c45 : Code := ⟨1, 2, 5, [], (.cons (.asg (.tgt 2 (.cons (.tgv 3) (.cons (.tgv 4) .nil))) (.tup (.cons (.lit (.str [])) (.cons (.bi .dict (.cons (.var 0) .nil)) .nil))))
    (.cons (.whl (.cmp .inn (.var 3) (.var 4)) (.cons (.asg (.tgv 3) (.bin .add (.var 3) (.ix (.var 4) (.var 3))))
    .nil))
    (.cons (.ret (.tup (.cons (.mt .index (.cvar 1) (.cons (.var 3) .nil)) (.cons (.cav false (.cvar 2) (.cons (.var 0) (.cons (.mt .index (.cvar 1) (.cons (.var 3) .nil)) .nil))) .nil))))
    .nil)))⟩
/-- _law_clock.<locals>._law_marked: state way -/
def c46 : Code := ⟨2, 0, 2, [], (.cons (.ret (.tup (.cons (.ix (.var 0) (.lit (.int 0))) (.cons (.srs (.bin .add (.ix (.var 0) (.lit (.int 1))) (.lst (.cons (.var 1) .nil)))) .nil))))
    .nil)⟩
/-- _law_clock.<locals>._law_swept: state ways hand marks way -/
def c47 : Code := ⟨1, 1, 5, [2], (.cons (.asg (.tgt 2 (.cons (.tgc 2) (.cons (.tgv 3) .nil))) (.var 0))
    (.cons (.whl (.cmp .inn (.cvar 2) (.var 3)) (.cons (.asg (.tgv 3) (.lc [4] [1] (.tgv 4) (.itv (.var 3)) (.cmp .ne (.var 4) (.cvar 2)) (.var 4)))
    (.cons (.asg (.tgc 2) (.ife (.cmp .eq (.cvar 2) (.bin .sub (.cvar 1) (.lit (.int 1)))) (.lit (.int 0)) (.bin .add (.cvar 2) (.lit (.int 1)))))
    .nil)))
    (.cons (.ret (.tup (.cons (.cvar 2) (.cons (.tup (.cons (.ife (.cmp .eq (.cvar 2) (.bin .sub (.cvar 1) (.lit (.int 1)))) (.lit (.int 0)) (.bin .add (.cvar 2) (.lit (.int 1)))) (.cons (.bi .sorted (.cons (.bin .add (.var 3) (.lst (.cons (.cvar 2) .nil))) .nil)) .nil))) .nil))))
    .nil)))⟩
/-- law.<locals>.<lambda>: work bad -/
def c48 : Code := ⟨0, 2, 2, [], (.ret (.cav true (.cvar 0) (.cons (.cvar 1) .nil)))⟩
def codes : List Code := [c0, c1, c2, c3, c4, c5, c6, c7, c8, c9, c10, c11, c12, c13, c14, c15, c16, c17, c18, c19, c20, c21, c22, c23, c24, c25, c26, c27, c28, c29, c30, c31, c32, c33, c34, c35, c36, c37, c38, c39, c40, c41, c42, c43, c44, c45, c46, c47, c48]
def n0 : Nd := (topNd PG 4).at []
def a0 : CodeA := cdA n0 "is_integer" ["value"] ["value"] []
def n1 : Nd := (topNd PG 8).at []
def a1 : CodeA := cdA n1 "is_from_to" ["value", "least", "most"] ["value", "least", "most"] []
def n2 : Nd := (topNd PG 9).at []
def a2 : CodeA := cdA n2 "is_row" ["value", "ways", "size", "row"] ["value", "ways", "size"] []
def n3 : Nd := (topNd PG 10).at []
def a3 : CodeA := cdA n3 "is_policy" ["value", "size", "row"] ["value"] []
def n4 : Nd := (topNd PG 11).at []
def a4 : CodeA := cdA n4 "need_policy_ways" ["value"] ["value"] []
def n5 : Nd := (topNd PG 12).at []
def a5 : CodeA := cdA n5 "made" ["ways", "begin", "hit", "missed", "states", "rows", "here", "victim", "behind", "later", "state", "way"] ["ways", "begin", "hit", "missed"] []
def n6 : Nd := (topNd PG 13).at []
def a6 : CodeA := cdA n6 "moved_first" ["order", "way", "one"] ["order", "way"] []
def n7 : Nd := (topNd PG 14).at []
def a7 : CodeA := cdA n7 "lru_policy" ["ways"] ["ways"] []
def n8 : Nd := (topNd PG 15).at []
def a8 : CodeA := cdA n8 "fifo_policy" ["ways"] ["ways"] []
def n9 : Nd := (topNd PG 16).at []
def a9 : CodeA := cdA n9 "marked" ["marks", "way", "found", "place", "mark"] ["marks", "way"] []
def n10 : Nd := (topNd PG 17).at []
def a10 : CodeA := cdA n10 "mark_policy" ["ways"] ["ways"] []
def n11 : Nd := (topNd PG 18).at []
def a11 : CodeA := cdA n11 "tree_way" ["bits", "ways"] ["bits", "ways"] []
def n12 : Nd := (topNd PG 19).at []
def a12 : CodeA := cdA n12 "tree_behind" ["bits", "way", "ways", "half", "low", "found"] ["bits", "way", "ways"] []
def n13 : Nd := (topNd PG 20).at []
def a13 : CodeA := cdA n13 "tree_policy" ["ways", "missed"] ["ways"] []
def n14 : Nd := (topNd PG 21).at []
def a14 : CodeA := cdA n14 "swept" ["hand", "marks"] ["hand", "marks"] []
def n15 : Nd := (topNd PG 22).at []
def a15 : CodeA := cdA n15 "clock_policy" ["ways", "hit", "missed"] ["ways"] []
def n16 : Nd := (topNd PG 24).at []
def a16 : CodeA := cdA n16 "_law_begun" ["script", "large", "grain"] ["script"] []
def n17 : Nd := (topNd PG 25).at []
def a17 : CodeA := cdA n17 "_law_mixed" ["draw", "turn", "found", "great", "blend", "grain"] ["draw"] []
def n18 : Nd := (topNd PG 26).at []
def a18 : CodeA := cdA n18 "_law_take" ["draw", "amount", "found"] ["draw", "amount"] []
def n19 : Nd := (topNd PG 27).at []
def a19 : CodeA := cdA n19 "_law_pick" ["draw", "some"] ["draw", "some"] []
def n20 : Nd := (topNd PG 28).at []
def a20 : CodeA := cdA n20 "_law_caught" ["work", "caught", "error"] ["work"] []
def n21 : Nd := (topNd PG 29).at []
def a21 : CodeA := cdA n21 "_law_says" ["told_here", "due"] ["told_here", "due"] []
def n22 : Nd := (topNd PG 30).at []
def a22 : CodeA := cdA n22 "_law_met" ["ways", "begin", "hit", "missed", "states", "rows", "here", "victim", "behind", "later", "state", "way"] ["ways", "begin", "hit", "missed"] []
def n23 : Nd := (topNd PG 31).at []
def a23 : CodeA := cdA n23 "_law_lru" ["ways"] ["ways"] []
def n24 : Nd := (topNd PG 32).at []
def a24 : CodeA := cdA n24 "_law_fifo" ["ways"] ["ways"] []
def n25 : Nd := (topNd PG 33).at []
def a25 : CodeA := cdA n25 "_law_mark_of" ["marks", "way", "found"] ["marks", "way"] []
def n26 : Nd := (topNd PG 34).at []
def a26 : CodeA := cdA n26 "_law_mark" ["ways", "_law_lowest"] ["ways"] []
def n27 : Nd := (topNd PG 35).at []
def a27 : CodeA := cdA n27 "_law_tree" ["ways", "nodes", "names", "_law_away", "_law_pointed", "node"] ["ways"] []
def n28 : Nd := (topNd PG 36).at []
def a28 : CodeA := cdA n28 "_law_clock" ["ways", "_law_marked", "_law_swept"] ["ways"] []
def n29 : Nd := (topNd PG 37).at []
def a29 : CodeA := cdA n29 "_law_made" ["name", "ways"] ["name", "ways"] []
def n30 : Nd := (topNd PG 38).at []
def a30 : CodeA := cdA n30 "law" ["script", "draw", "works", "name", "work", "ways", "due", "bad"] ["script"] []
def n31 : Nd := (topNd PG 14).at [1, 0, 4]
def a31 : CodeA := cdA n31 "lru_policy.<locals>.<lambda>" ["order"] ["order"] []
def n32 : Nd := (topNd PG 15).at [1, 0, 4]
def a32 : CodeA := cdA n32 "fifo_policy.<locals>.<lambda>" ["turn", "ways"] ["turn"] ["ways"]
def n33 : Nd := (topNd PG 15).at [1, 0, 3]
def a33 : CodeA := cdA n33 "fifo_policy.<locals>.<lambda>" ["turn", "way"] ["turn", "way"] []
def n34 : Nd := (topNd PG 17).at [2, 0, 4]
def a34 : CodeA := cdA n34 "mark_policy.<locals>.<lambda>" ["marks"] ["marks"] []
def n35 : Nd := (topNd PG 20).at [2]
def a35 : CodeA := cdA n35 "tree_policy.<locals>.missed" ["bits", "ways", "way"] ["bits"] ["ways"]
def n36 : Nd := (topNd PG 20).at [3, 0, 3]
def a36 : CodeA := cdA n36 "tree_policy.<locals>.<lambda>" ["bits", "way", "ways"] ["bits", "way"] ["ways"]
def n37 : Nd := (topNd PG 22).at [1]
def a37 : CodeA := cdA n37 "clock_policy.<locals>.hit" ["state", "way", "place", "mark"] ["state", "way"] []
def n38 : Nd := (topNd PG 22).at [2]
def a38 : CodeA := cdA n38 "clock_policy.<locals>.missed" ["state", "ways", "way", "marks", "place", "mark"] ["state"] ["ways"]
def n39 : Nd := (topNd PG 31).at [0, 0, 4]
def a39 : CodeA := cdA n39 "_law_lru.<locals>.<lambda>" ["some"] ["some"] []
def n40 : Nd := (topNd PG 31).at [0, 0, 3]
def a40 : CodeA := cdA n40 "_law_lru.<locals>.<lambda>" ["order", "way", "one"] ["order", "way"] []
def n41 : Nd := (topNd PG 32).at [0, 0, 4]
def a41 : CodeA := cdA n41 "_law_fifo.<locals>.<lambda>" ["here", "ways"] ["here"] ["ways"]
def n42 : Nd := (topNd PG 32).at [0, 0, 3]
def a42 : CodeA := cdA n42 "_law_fifo.<locals>.<lambda>" ["turn", "way"] ["turn", "way"] []
def n43 : Nd := (topNd PG 34).at [1]
def a43 : CodeA := cdA n43 "_law_mark.<locals>._law_lowest" ["marks", "ways", "low", "way"] ["marks"] ["ways"]
def n44 : Nd := (topNd PG 35).at [2]
def a44 : CodeA := cdA n44 "_law_tree.<locals>._law_away" ["bits", "way", "names", "path", "node", "side"] ["bits", "way"] ["names"]
def n45 : Nd := (topNd PG 35).at [3]
def a45 : CodeA := cdA n45 "_law_tree.<locals>._law_pointed" ["bits", "names", "_law_away", "path", "sides"] ["bits"] ["names", "_law_away"]
def n46 : Nd := (topNd PG 36).at [0]
def a46 : CodeA := cdA n46 "_law_clock.<locals>._law_marked" ["state", "way"] ["state", "way"] []
def n47 : Nd := (topNd PG 36).at [1]
def a47 : CodeA := cdA n47 "_law_clock.<locals>._law_swept" ["state", "ways", "hand", "marks", "way"] ["state"] ["ways"]
def n48 : Nd := (topNd PG 38).at [2, 3, 1, 0, 0, 1, 1]
def a48 : CodeA := cdA n48 "law.<locals>.<lambda>" ["work", "bad"] [] ["work", "bad"]
def cas : List CodeA := [a0, a1, a2, a3, a4, a5, a6, a7, a8, a9, a10, a11, a12, a13, a14, a15, a16, a17, a18, a19, a20, a21, a22, a23, a24, a25, a26, a27, a28, a29, a30, a31, a32, a33, a34, a35, a36, a37, a38, a39, a40, a41, a42, a43, a44, a45, a46, a47, a48]
def fnames : List Str := ["is_integer", "is_from_to", "is_row", "is_policy", "need_policy_ways", "made", "moved_first", "lru_policy", "fifo_policy", "marked", "mark_policy", "tree_way", "tree_behind", "tree_policy", "swept", "clock_policy", "_law_begun", "_law_mixed", "_law_take", "_law_pick", "_law_caught", "_law_says", "_law_met", "_law_lru", "_law_fifo", "_law_mark_of", "_law_mark", "_law_tree", "_law_clock", "_law_made", "law"]
def xnames : List Str := ["MissError", "BadWays"]
def tabs : Tabs := ⟨[("is_integer", 0), ("is_from_to", 1), ("is_row", 2), ("is_policy", 3), ("need_policy_ways", 4), ("made", 5), ("moved_first", 6), ("lru_policy", 7), ("fifo_policy", 8), ("marked", 9), ("mark_policy", 10), ("tree_way", 11), ("tree_behind", 12), ("tree_policy", 13), ("swept", 14), ("clock_policy", 15), ("_law_begun", 16), ("_law_mixed", 17), ("_law_take", 18), ("_law_pick", 19), ("_law_caught", 20), ("_law_says", 21), ("_law_met", 22), ("_law_lru", 23), ("_law_fifo", 24), ("_law_mark_of", 25), ("_law_mark", 26), ("_law_tree", 27), ("_law_clock", 28), ("_law_made", 29), ("law", 30)], ["abs", "all", "bool", "dict", "enumerate", "int", "isinstance", "len", "list", "min", "range", "repr", "set", "sorted", "str", "tuple"], [("MOST_POLICY_WAYS", 4), ("MOST_ROWS", 64)], [("MissError", 0), ("BadWays", 1)], [(0, 0), (1, 0)]⟩
def nested : List Nat := [7, 8, 10, 13, 15, 23, 24, 26, 27, 28, 30]
def nms : List (Nat × List ((Nat × Nat) × Str)) := [(7, [((45, 55), "lru_policy.<locals>.<lambda>")]), (8, [((48, 49), "fifo_policy.<locals>.<lambda>"), ((48, 25), "fifo_policy.<locals>.<lambda>")]), (10, [((56, 47), "mark_policy.<locals>.<lambda>")]), (13, [((77, 4), "tree_policy.<locals>.missed"), ((80, 41), "tree_policy.<locals>.<lambda>")]), (15, [((90, 4), "clock_policy.<locals>.hit"), ((93, 4), "clock_policy.<locals>.missed")]), (23, [((139, 110), "_law_lru.<locals>.<lambda>"), ((139, 45), "_law_lru.<locals>.<lambda>")]), (24, [((141, 53), "_law_fifo.<locals>.<lambda>"), ((141, 29), "_law_fifo.<locals>.<lambda>")]), (26, [((149, 4), "_law_mark.<locals>._law_lowest")]), (27, [((157, 4), "_law_tree.<locals>._law_away"), ((161, 4), "_law_tree.<locals>._law_pointed")]), (28, [((169, 4), "_law_clock.<locals>._law_marked"), ((172, 4), "_law_clock.<locals>._law_swept")]), (30, [((191, 42), "law.<locals>.<lambda>")])]
def TX : Tx := ⟨cas, a0, fnames, xnames, nested, nms, tabs⟩
def stOf (K : PySem.W.Frag) : Stat := TX.st K
def StOk (S : Stat) : Prop := ∃ K F, S = (stOf K).wF F
end MP
namespace MP

mutual
def eqLV : LV → LV → Bool
  | .non, .non => true
  | .bl a, .bl b => a == b
  | .int i, .int j => decide (i = j)
  | .str x, .str y => decide (x = y)
  | .tup xs, .tup ys => eqLVs xs ys
  | _, _ => false
def eqLVs : List LV → List LV → Bool
  | [], [] => true
  | x :: xs, y :: ys => eqLV x y && eqLVs xs ys
  | _, _ => false
end
mutual
theorem eqLV_ok : ∀ {a b : LV}, eqLV a b = true → a = b
  | .non, b, h => by cases b <;> first | rfl | cases h
  | .bl a, b, h => by
    cases b <;> first | cases h | skip
    rename_i c
    have h : (a == c) = true := h
    rw [beq_iff_eq.mp h]
  | .int i, b, h => by
    cases b <;> first | cases h | skip
    rename_i c
    rw [of_decide_eq_true (show decide (i = c) = true from h)]
  | .str i, b, h => by
    cases b <;> first | cases h | skip
    rename_i c
    rw [of_decide_eq_true (show decide (i = c) = true from h)]
  | .tup xs, b, h => by
    cases b <;> first | cases h | skip
    rename_i c
    rw [eqLVs_ok (show eqLVs xs c = true from h)]
  | .loc _, b, h => by cases b <;> cases h
  | .glo _, b, h => by cases b <;> cases h
  | .rep _, b, h => by cases b <;> cases h
theorem eqLVs_ok : ∀ {a b : List LV}, eqLVs a b = true → a = b
  | [], [], _ => rfl
  | [], _ :: _, h => by cases h
  | _ :: _, [], h => by cases h
  | x :: xs, y :: ys, h => by
    have h : (eqLV x y && eqLVs xs ys) = true := h
    rw [Bool.and_eq_true] at h
    rw [eqLV_ok h.1, eqLVs_ok h.2]
end
def heapOf {α : Type} : Res α → GH
  | .ok _ g => g
  | .exn _ g => g
  | .stuck => ⟨0, .nil, 0, []⟩
def valB : Res LV → LV → Bool
  | .ok v _, w => eqLV v w
  | _, _ => false
theorem valB_ok {r : Res LV} {w : LV} (h : valB r w = true) : r = .ok w (heapOf r) := by
  cases r with
  | ok v g =>
    have h : eqLV v w = true := h
    rw [eqLV_ok h]
    rfl
  | exn n g => cases h
  | stuck => cases h
def p_lru1 : LV := .tup [.str [112, 111, 108, 105, 99, 121], .int 1, .tup [.tup [.tup [.int 0], .int 0, .int 0]]]
def p_lru2 : LV := .tup [.str [112, 111, 108, 105, 99, 121], .int 2, .tup [.tup [.tup [.int 0, .int 1], .int 1, .int 1], .tup [.tup [.int 0, .int 1], .int 0, .int 0]]]
def p_lru3 : LV := .tup [.str [112, 111, 108, 105, 99, 121], .int 3, .tup [.tup [.tup [.int 0, .int 1, .int 2], .int 2, .int 2], .tup [.tup [.int 0, .int 1, .int 3], .int 2, .int 3], .tup [.tup [.int 4, .int 5, .int 2], .int 1, .int 5], .tup [.tup [.int 4, .int 5, .int 3], .int 0, .int 4], .tup [.tup [.int 4, .int 1, .int 2], .int 1, .int 1], .tup [.tup [.int 0, .int 5, .int 3], .int 0, .int 0]]]
def p_lru4 : LV := .tup [.str [112, 111, 108, 105, 99, 121], .int 4, .tup [.tup [.tup [.int 0, .int 1, .int 2, .int 3], .int 3, .int 3], .tup [.tup [.int 0, .int 1, .int 4, .int 5], .int 3, .int 5], .tup [.tup [.int 6, .int 7, .int 2, .int 8], .int 3, .int 8], .tup [.tup [.int 9, .int 10, .int 11, .int 3], .int 2, .int 11], .tup [.tup [.int 6, .int 7, .int 4, .int 12], .int 3, .int 12], .tup [.tup [.int 9, .int 10, .int 13, .int 5], .int 2, .int 13], .tup [.tup [.int 6, .int 1, .int 2, .int 14], .int 3, .int 14], .tup [.tup [.int 0, .int 7, .int 4, .int 15], .int 3, .int 15], .tup [.tup [.int 16, .int 17, .int 11, .int 8], .int 1, .int 17], .tup [.tup [.int 9, .int 18, .int 19, .int 3], .int 2, .int 19], .tup [.tup [.int 20, .int 10, .int 21, .int 5], .int 2, .int 21], .tup [.tup [.int 22, .int 23, .int 11, .int 8], .int 1, .int 23], .tup [.tup [.int 16, .int 17, .int 13, .int 12], .int 0, .int 16], .tup [.tup [.int 22, .int 23, .int 13, .int 12], .int 0, .int 22], .tup [.tup [.int 16, .int 10, .int 11, .int 14], .int 1, .int 10], .tup [.tup [.int 9, .int 17, .int 13, .int 15], .int 0, .int 9], .tup [.tup [.int 16, .int 18, .int 19, .int 14], .int 1, .int 18], .tup [.tup [.int 20, .int 17, .int 21, .int 15], .int 0, .int 20], .tup [.tup [.int 20, .int 18, .int 4, .int 5], .int 2, .int 4], .tup [.tup [.int 22, .int 7, .int 19, .int 8], .int 1, .int 7], .tup [.tup [.int 20, .int 18, .int 2, .int 3], .int 2, .int 2], .tup [.tup [.int 6, .int 23, .int 21, .int 12], .int 0, .int 6], .tup [.tup [.int 22, .int 1, .int 19, .int 14], .int 1, .int 1], .tup [.tup [.int 0, .int 23, .int 21, .int 15], .int 0, .int 0]]]
def p_fifo1 : LV := .tup [.str [112, 111, 108, 105, 99, 121], .int 1, .tup [.tup [.tup [.int 0], .int 0, .int 0]]]
def p_fifo2 : LV := .tup [.str [112, 111, 108, 105, 99, 121], .int 2, .tup [.tup [.tup [.int 0, .int 0], .int 0, .int 1], .tup [.tup [.int 1, .int 1], .int 1, .int 0]]]
def p_fifo3 : LV := .tup [.str [112, 111, 108, 105, 99, 121], .int 3, .tup [.tup [.tup [.int 0, .int 0, .int 0], .int 0, .int 1], .tup [.tup [.int 1, .int 1, .int 1], .int 1, .int 2], .tup [.tup [.int 2, .int 2, .int 2], .int 2, .int 0]]]
def p_fifo4 : LV := .tup [.str [112, 111, 108, 105, 99, 121], .int 4, .tup [.tup [.tup [.int 0, .int 0, .int 0, .int 0], .int 0, .int 1], .tup [.tup [.int 1, .int 1, .int 1, .int 1], .int 1, .int 2], .tup [.tup [.int 2, .int 2, .int 2, .int 2], .int 2, .int 3], .tup [.tup [.int 3, .int 3, .int 3, .int 3], .int 3, .int 0]]]
def p_mark1 : LV := .tup [.str [112, 111, 108, 105, 99, 121], .int 1, .tup [.tup [.tup [.int 0], .int 0, .int 0]]]
def p_mark2 : LV := .tup [.str [112, 111, 108, 105, 99, 121], .int 2, .tup [.tup [.tup [.int 1, .int 2], .int 0, .int 1], .tup [.tup [.int 1, .int 2], .int 1, .int 2], .tup [.tup [.int 1, .int 2], .int 0, .int 1]]]
def p_mark3 : LV := .tup [.str [112, 111, 108, 105, 99, 121], .int 3, .tup [.tup [.tup [.int 1, .int 2, .int 3], .int 0, .int 1], .tup [.tup [.int 1, .int 4, .int 5], .int 1, .int 4], .tup [.tup [.int 4, .int 2, .int 6], .int 0, .int 4], .tup [.tup [.int 5, .int 6, .int 3], .int 0, .int 5], .tup [.tup [.int 4, .int 4, .int 3], .int 2, .int 3], .tup [.tup [.int 5, .int 2, .int 5], .int 1, .int 2], .tup [.tup [.int 1, .int 6, .int 6], .int 0, .int 1]]]
def p_mark4 : LV := .tup [.str [112, 111, 108, 105, 99, 121], .int 4, .tup [.tup [.tup [.int 1, .int 2, .int 3, .int 4], .int 0, .int 1], .tup [.tup [.int 1, .int 5, .int 6, .int 7], .int 1, .int 5], .tup [.tup [.int 5, .int 2, .int 8, .int 9], .int 0, .int 5], .tup [.tup [.int 6, .int 8, .int 3, .int 10], .int 0, .int 6], .tup [.tup [.int 7, .int 9, .int 10, .int 4], .int 0, .int 7], .tup [.tup [.int 5, .int 5, .int 11, .int 12], .int 2, .int 11], .tup [.tup [.int 6, .int 11, .int 6, .int 13], .int 1, .int 11], .tup [.tup [.int 7, .int 12, .int 13, .int 7], .int 1, .int 12], .tup [.tup [.int 11, .int 8, .int 8, .int 14], .int 0, .int 11], .tup [.tup [.int 12, .int 9, .int 14, .int 9], .int 0, .int 12], .tup [.tup [.int 13, .int 14, .int 10, .int 10], .int 0, .int 13], .tup [.tup [.int 11, .int 11, .int 11, .int 4], .int 3, .int 4], .tup [.tup [.int 12, .int 12, .int 3, .int 12], .int 2, .int 3], .tup [.tup [.int 13, .int 2, .int 13, .int 13], .int 1, .int 2], .tup [.tup [.int 1, .int 14, .int 14, .int 14], .int 0, .int 1]]]
def p_clock1 : LV := .tup [.str [112, 111, 108, 105, 99, 121], .int 1, .tup [.tup [.tup [.int 1], .int 0, .int 1], .tup [.tup [.int 1], .int 0, .int 1]]]
def p_clock2 : LV := .tup [.str [112, 111, 108, 105, 99, 121], .int 2, .tup [.tup [.tup [.int 1, .int 2], .int 0, .int 3], .tup [.tup [.int 1, .int 4], .int 1, .int 2], .tup [.tup [.int 4, .int 2], .int 0, .int 5], .tup [.tup [.int 3, .int 5], .int 1, .int 4], .tup [.tup [.int 4, .int 4], .int 0, .int 3], .tup [.tup [.int 5, .int 5], .int 1, .int 2]]]
def p_clock3 : LV := .tup [.str [112, 111, 108, 105, 99, 121], .int 3, .tup [.tup [.tup [.int 1, .int 2, .int 3], .int 0, .int 4], .tup [.tup [.int 1, .int 5, .int 6], .int 1, .int 7], .tup [.tup [.int 5, .int 2, .int 8], .int 0, .int 9], .tup [.tup [.int 6, .int 8, .int 3], .int 0, .int 10], .tup [.tup [.int 4, .int 9, .int 10], .int 1, .int 11], .tup [.tup [.int 5, .int 5, .int 12], .int 2, .int 3], .tup [.tup [.int 6, .int 12, .int 6], .int 1, .int 13], .tup [.tup [.int 11, .int 7, .int 13], .int 2, .int 8], .tup [.tup [.int 12, .int 8, .int 8], .int 0, .int 14], .tup [.tup [.int 9, .int 9, .int 14], .int 2, .int 6], .tup [.tup [.int 10, .int 14, .int 10], .int 1, .int 15], .tup [.tup [.int 11, .int 11, .int 15], .int 2, .int 12], .tup [.tup [.int 12, .int 12, .int 12], .int 0, .int 4], .tup [.tup [.int 15, .int 13, .int 13], .int 0, .int 9], .tup [.tup [.int 14, .int 14, .int 14], .int 1, .int 7], .tup [.tup [.int 15, .int 15, .int 15], .int 2, .int 3]]]
def p_clock4 : LV := .tup [.str [112, 111, 108, 105, 99, 121], .int 4, .tup [.tup [.tup [.int 1, .int 2, .int 3, .int 4], .int 0, .int 5], .tup [.tup [.int 1, .int 6, .int 7, .int 8], .int 1, .int 9], .tup [.tup [.int 6, .int 2, .int 10, .int 11], .int 0, .int 12], .tup [.tup [.int 7, .int 10, .int 3, .int 13], .int 0, .int 14], .tup [.tup [.int 8, .int 11, .int 13, .int 4], .int 0, .int 15], .tup [.tup [.int 5, .int 12, .int 14, .int 15], .int 1, .int 16], .tup [.tup [.int 6, .int 6, .int 17, .int 18], .int 2, .int 19], .tup [.tup [.int 7, .int 17, .int 7, .int 20], .int 1, .int 21], .tup [.tup [.int 8, .int 18, .int 20, .int 8], .int 1, .int 22], .tup [.tup [.int 16, .int 9, .int 21, .int 22], .int 2, .int 23], .tup [.tup [.int 17, .int 10, .int 10, .int 24], .int 0, .int 25], .tup [.tup [.int 18, .int 11, .int 24, .int 11], .int 0, .int 26], .tup [.tup [.int 12, .int 12, .int 25, .int 26], .int 2, .int 27], .tup [.tup [.int 20, .int 24, .int 13, .int 13], .int 0, .int 28], .tup [.tup [.int 14, .int 25, .int 14, .int 28], .int 1, .int 29], .tup [.tup [.int 15, .int 26, .int 28, .int 15], .int 1, .int 30], .tup [.tup [.int 16, .int 16, .int 29, .int 30], .int 2, .int 31], .tup [.tup [.int 17, .int 17, .int 17, .int 32], .int 3, .int 4], .tup [.tup [.int 18, .int 18, .int 32, .int 18], .int 2, .int 33], .tup [.tup [.int 27, .int 23, .int 19, .int 33], .int 3, .int 13], .tup [.tup [.int 20, .int 32, .int 20, .int 20], .int 1, .int 34], .tup [.tup [.int 29, .int 21, .int 21, .int 34], .int 3, .int 11], .tup [.tup [.int 30, .int 22, .int 34, .int 22], .int 2, .int 35], .tup [.tup [.int 31, .int 23, .int 23, .int 35], .int 3, .int 24], .tup [.tup [.int 32, .int 24, .int 24, .int 24], .int 0, .int 36], .tup [.tup [.int 25, .int 25, .int 25, .int 36], .int 3, .int 8], .tup [.tup [.int 26, .int 26, .int 36, .int 26], .int 2, .int 37], .tup [.tup [.int 27, .int 31, .int 27, .int 37], .int 3, .int 20], .tup [.tup [.int 28, .int 36, .int 28, .int 28], .int 1, .int 38], .tup [.tup [.int 29, .int 29, .int 29, .int 38], .int 3, .int 18], .tup [.tup [.int 30, .int 30, .int 38, .int 30], .int 2, .int 39], .tup [.tup [.int 31, .int 31, .int 31, .int 39], .int 3, .int 32], .tup [.tup [.int 32, .int 32, .int 32, .int 32], .int 0, .int 5], .tup [.tup [.int 37, .int 35, .int 33, .int 33], .int 0, .int 14], .tup [.tup [.int 38, .int 34, .int 34, .int 34], .int 0, .int 12], .tup [.tup [.int 39, .int 35, .int 35, .int 35], .int 0, .int 25], .tup [.tup [.int 36, .int 36, .int 36, .int 36], .int 1, .int 9], .tup [.tup [.int 37, .int 39, .int 37, .int 37], .int 1, .int 21], .tup [.tup [.int 38, .int 38, .int 38, .int 38], .int 2, .int 19], .tup [.tup [.int 39, .int 39, .int 39, .int 39], .int 3, .int 4]]]
def p_tree1 : LV := .tup [.str [112, 111, 108, 105, 99, 121], .int 1, .tup [.tup [.tup [.int 0], .int 0, .int 0]]]
def p_tree2 : LV := .tup [.str [112, 111, 108, 105, 99, 121], .int 2, .tup [.tup [.tup [.int 1, .int 0], .int 0, .int 1], .tup [.tup [.int 1, .int 0], .int 1, .int 0]]]
def p_tree4 : LV := .tup [.str [112, 111, 108, 105, 99, 121], .int 4, .tup [.tup [.tup [.int 1, .int 2, .int 3, .int 0], .int 0, .int 1], .tup [.tup [.int 1, .int 2, .int 4, .int 5], .int 2, .int 4], .tup [.tup [.int 1, .int 2, .int 3, .int 0], .int 2, .int 3], .tup [.tup [.int 6, .int 7, .int 3, .int 0], .int 0, .int 6], .tup [.tup [.int 6, .int 7, .int 4, .int 5], .int 1, .int 7], .tup [.tup [.int 1, .int 2, .int 4, .int 5], .int 1, .int 2], .tup [.tup [.int 6, .int 7, .int 4, .int 5], .int 3, .int 5], .tup [.tup [.int 6, .int 7, .int 3, .int 0], .int 3, .int 0]]]
end MP
namespace MP

theorem m_lru1 : valB (callF codes 40 29 [] [.str [108, 114, 117], .int 1] gE) p_lru1 = true := by kernel_rfl
theorem w_lru1 : valB (callF codes 40 7 [] [.int 1] gE) p_lru1 = true := by kernel_rfl
theorem i_lru1 : valB (callF codes 40 3 [] [p_lru1] gE) (.bl true) = true := by kernel_rfl
theorem m_lru2 : valB (callF codes 40 29 [] [.str [108, 114, 117], .int 2] gE) p_lru2 = true := by kernel_rfl
theorem w_lru2 : valB (callF codes 40 7 [] [.int 2] gE) p_lru2 = true := by kernel_rfl
theorem i_lru2 : valB (callF codes 40 3 [] [p_lru2] gE) (.bl true) = true := by kernel_rfl
theorem m_lru3 : valB (callF codes 40 29 [] [.str [108, 114, 117], .int 3] gE) p_lru3 = true := by kernel_rfl
theorem w_lru3 : valB (callF codes 40 7 [] [.int 3] gE) p_lru3 = true := by kernel_rfl
theorem i_lru3 : valB (callF codes 40 3 [] [p_lru3] gE) (.bl true) = true := by kernel_rfl
theorem m_lru4 : valB (callF codes 40 29 [] [.str [108, 114, 117], .int 4] gE) p_lru4 = true := by kernel_rfl
theorem w_lru4 : valB (callF codes 40 7 [] [.int 4] gE) p_lru4 = true := by kernel_rfl
theorem i_lru4 : valB (callF codes 40 3 [] [p_lru4] gE) (.bl true) = true := by kernel_rfl
theorem m_fifo1 : valB (callF codes 40 29 [] [.str [102, 105, 102, 111], .int 1] gE) p_fifo1 = true := by kernel_rfl
theorem w_fifo1 : valB (callF codes 40 8 [] [.int 1] gE) p_fifo1 = true := by kernel_rfl
theorem i_fifo1 : valB (callF codes 40 3 [] [p_fifo1] gE) (.bl true) = true := by kernel_rfl
theorem m_fifo2 : valB (callF codes 40 29 [] [.str [102, 105, 102, 111], .int 2] gE) p_fifo2 = true := by kernel_rfl
theorem w_fifo2 : valB (callF codes 40 8 [] [.int 2] gE) p_fifo2 = true := by kernel_rfl
theorem i_fifo2 : valB (callF codes 40 3 [] [p_fifo2] gE) (.bl true) = true := by kernel_rfl
theorem m_fifo3 : valB (callF codes 40 29 [] [.str [102, 105, 102, 111], .int 3] gE) p_fifo3 = true := by kernel_rfl
theorem w_fifo3 : valB (callF codes 40 8 [] [.int 3] gE) p_fifo3 = true := by kernel_rfl
theorem i_fifo3 : valB (callF codes 40 3 [] [p_fifo3] gE) (.bl true) = true := by kernel_rfl
theorem m_fifo4 : valB (callF codes 40 29 [] [.str [102, 105, 102, 111], .int 4] gE) p_fifo4 = true := by kernel_rfl
theorem w_fifo4 : valB (callF codes 40 8 [] [.int 4] gE) p_fifo4 = true := by kernel_rfl
theorem i_fifo4 : valB (callF codes 40 3 [] [p_fifo4] gE) (.bl true) = true := by kernel_rfl
theorem m_mark1 : valB (callF codes 40 29 [] [.str [109, 97, 114, 107], .int 1] gE) p_mark1 = true := by kernel_rfl
theorem w_mark1 : valB (callF codes 40 10 [] [.int 1] gE) p_mark1 = true := by kernel_rfl
theorem i_mark1 : valB (callF codes 40 3 [] [p_mark1] gE) (.bl true) = true := by kernel_rfl
theorem m_mark2 : valB (callF codes 40 29 [] [.str [109, 97, 114, 107], .int 2] gE) p_mark2 = true := by kernel_rfl
theorem w_mark2 : valB (callF codes 40 10 [] [.int 2] gE) p_mark2 = true := by kernel_rfl
theorem i_mark2 : valB (callF codes 40 3 [] [p_mark2] gE) (.bl true) = true := by kernel_rfl
theorem m_mark3 : valB (callF codes 40 29 [] [.str [109, 97, 114, 107], .int 3] gE) p_mark3 = true := by kernel_rfl
theorem w_mark3 : valB (callF codes 40 10 [] [.int 3] gE) p_mark3 = true := by kernel_rfl
theorem i_mark3 : valB (callF codes 40 3 [] [p_mark3] gE) (.bl true) = true := by kernel_rfl
theorem m_mark4 : valB (callF codes 40 29 [] [.str [109, 97, 114, 107], .int 4] gE) p_mark4 = true := by kernel_rfl
theorem w_mark4 : valB (callF codes 40 10 [] [.int 4] gE) p_mark4 = true := by kernel_rfl
theorem i_mark4 : valB (callF codes 40 3 [] [p_mark4] gE) (.bl true) = true := by kernel_rfl
theorem m_clock1 : valB (callF codes 40 29 [] [.str [99, 108, 111, 99, 107], .int 1] gE) p_clock1 = true := by kernel_rfl
theorem w_clock1 : valB (callF codes 40 15 [] [.int 1] gE) p_clock1 = true := by kernel_rfl
theorem i_clock1 : valB (callF codes 40 3 [] [p_clock1] gE) (.bl true) = true := by kernel_rfl
theorem m_clock2 : valB (callF codes 40 29 [] [.str [99, 108, 111, 99, 107], .int 2] gE) p_clock2 = true := by kernel_rfl
theorem w_clock2 : valB (callF codes 40 15 [] [.int 2] gE) p_clock2 = true := by kernel_rfl
theorem i_clock2 : valB (callF codes 40 3 [] [p_clock2] gE) (.bl true) = true := by kernel_rfl
theorem m_clock3 : valB (callF codes 40 29 [] [.str [99, 108, 111, 99, 107], .int 3] gE) p_clock3 = true := by kernel_rfl
theorem w_clock3 : valB (callF codes 40 15 [] [.int 3] gE) p_clock3 = true := by kernel_rfl
theorem i_clock3 : valB (callF codes 40 3 [] [p_clock3] gE) (.bl true) = true := by kernel_rfl
theorem m_clock4 : valB (callF codes 40 29 [] [.str [99, 108, 111, 99, 107], .int 4] gE) p_clock4 = true := by kernel_rfl
theorem w_clock4 : valB (callF codes 40 15 [] [.int 4] gE) p_clock4 = true := by kernel_rfl
theorem i_clock4 : valB (callF codes 40 3 [] [p_clock4] gE) (.bl true) = true := by kernel_rfl
theorem m_tree1 : valB (callF codes 40 29 [] [.str [116, 114, 101, 101], .int 1] gE) p_tree1 = true := by kernel_rfl
theorem w_tree1 : valB (callF codes 40 13 [] [.int 1] gE) p_tree1 = true := by kernel_rfl
theorem i_tree1 : valB (callF codes 40 3 [] [p_tree1] gE) (.bl true) = true := by kernel_rfl
theorem m_tree2 : valB (callF codes 40 29 [] [.str [116, 114, 101, 101], .int 2] gE) p_tree2 = true := by kernel_rfl
theorem w_tree2 : valB (callF codes 40 13 [] [.int 2] gE) p_tree2 = true := by kernel_rfl
theorem i_tree2 : valB (callF codes 40 3 [] [p_tree2] gE) (.bl true) = true := by kernel_rfl
theorem m_tree4 : valB (callF codes 40 29 [] [.str [116, 114, 101, 101], .int 4] gE) p_tree4 = true := by kernel_rfl
theorem w_tree4 : valB (callF codes 40 13 [] [.int 4] gE) p_tree4 = true := by kernel_rfl
theorem i_tree4 : valB (callF codes 40 3 [] [p_tree4] gE) (.bl true) = true := by kernel_rfl
end MP
namespace MP
/-- what is known of calls -/
def known : List (Nat × List LV × LV) := [
  (29, [.str [108, 114, 117], .int 1], p_lru1),
  (7, [.int 1], p_lru1),
  (3, [p_lru1], .bl true),
  (29, [.str [108, 114, 117], .int 2], p_lru2),
  (7, [.int 2], p_lru2),
  (3, [p_lru2], .bl true),
  (29, [.str [108, 114, 117], .int 3], p_lru3),
  (7, [.int 3], p_lru3),
  (3, [p_lru3], .bl true),
  (29, [.str [108, 114, 117], .int 4], p_lru4),
  (7, [.int 4], p_lru4),
  (3, [p_lru4], .bl true),
  (29, [.str [102, 105, 102, 111], .int 1], p_fifo1),
  (8, [.int 1], p_fifo1),
  (3, [p_fifo1], .bl true),
  (29, [.str [102, 105, 102, 111], .int 2], p_fifo2),
  (8, [.int 2], p_fifo2),
  (3, [p_fifo2], .bl true),
  (29, [.str [102, 105, 102, 111], .int 3], p_fifo3),
  (8, [.int 3], p_fifo3),
  (3, [p_fifo3], .bl true),
  (29, [.str [102, 105, 102, 111], .int 4], p_fifo4),
  (8, [.int 4], p_fifo4),
  (3, [p_fifo4], .bl true),
  (29, [.str [109, 97, 114, 107], .int 1], p_mark1),
  (10, [.int 1], p_mark1),
  (3, [p_mark1], .bl true),
  (29, [.str [109, 97, 114, 107], .int 2], p_mark2),
  (10, [.int 2], p_mark2),
  (3, [p_mark2], .bl true),
  (29, [.str [109, 97, 114, 107], .int 3], p_mark3),
  (10, [.int 3], p_mark3),
  (3, [p_mark3], .bl true),
  (29, [.str [109, 97, 114, 107], .int 4], p_mark4),
  (10, [.int 4], p_mark4),
  (3, [p_mark4], .bl true),
  (29, [.str [99, 108, 111, 99, 107], .int 1], p_clock1),
  (15, [.int 1], p_clock1),
  (3, [p_clock1], .bl true),
  (29, [.str [99, 108, 111, 99, 107], .int 2], p_clock2),
  (15, [.int 2], p_clock2),
  (3, [p_clock2], .bl true),
  (29, [.str [99, 108, 111, 99, 107], .int 3], p_clock3),
  (15, [.int 3], p_clock3),
  (3, [p_clock3], .bl true),
  (29, [.str [99, 108, 111, 99, 107], .int 4], p_clock4),
  (15, [.int 4], p_clock4),
  (3, [p_clock4], .bl true),
  (29, [.str [116, 114, 101, 101], .int 1], p_tree1),
  (13, [.int 1], p_tree1),
  (3, [p_tree1], .bl true),
  (29, [.str [116, 114, 101, 101], .int 2], p_tree2),
  (13, [.int 2], p_tree2),
  (3, [p_tree2], .bl true),
  (29, [.str [116, 114, 101, 101], .int 4], p_tree4),
  (13, [.int 4], p_tree4),
  (3, [p_tree4], .bl true)]
def hit (k : Nat) (vs : List LV) : List (Nat × List LV × LV) → Option LV
  | [] => none
  | (j, ws, v) :: r => match Nat.beq j k with
    | true => (match eqLVs ws vs with
      | true => some v
      | false => hit k vs r)
    | false => hit k vs r
def isE : GH → Bool
  | ⟨0, .nil, 0, []⟩ => true
  | _ => false
/-- the same calls, the known ones looked up -/
def orc (C : CallT) : CallT := fun k ns vs g => match ns with
  | [] => (match isE g with
    | true => (match hit k vs known with
      | some v => .ok v (heapOf (C k [] vs gE))
      | none => C k [] vs g)
    | false => C k [] vs g)
  | n :: ns => C k (n :: ns) vs g
theorem isE_ok {g : GH} (h : isE g = true) : g = gE := by
  unfold isE at h
  split at h
  · rfl
  · cases h
theorem hit_mem {k : Nat} {vs : List LV} {v : LV} : ∀ {l : List (Nat × List LV × LV)}, hit k vs l = some v → (k, vs, v) ∈ l
  | [], h => by cases h
  | (j, ws, u) :: r, h => by
    unfold hit at h
    split at h
    · rename_i e
      split at h
      · rename_i e2
        cases h
        have := Nat.eq_of_beq_eq_true e
        subst this
        rw [eqLVs_ok e2]
        exact List.mem_cons_self
      · exact List.mem_cons_of_mem _ (hit_mem h)
    · exact List.mem_cons_of_mem _ (hit_mem h)
theorem known_ok : ∀ e ∈ known, valB (callF codes 40 e.1 [] e.2.1 gE) e.2.2 = true := by
  intro e he
  unfold known at he
  rcases List.mem_cons.mp he with rfl | he
  · exact m_lru1
  rcases List.mem_cons.mp he with rfl | he
  · exact w_lru1
  rcases List.mem_cons.mp he with rfl | he
  · exact i_lru1
  rcases List.mem_cons.mp he with rfl | he
  · exact m_lru2
  rcases List.mem_cons.mp he with rfl | he
  · exact w_lru2
  rcases List.mem_cons.mp he with rfl | he
  · exact i_lru2
  rcases List.mem_cons.mp he with rfl | he
  · exact m_lru3
  rcases List.mem_cons.mp he with rfl | he
  · exact w_lru3
  rcases List.mem_cons.mp he with rfl | he
  · exact i_lru3
  rcases List.mem_cons.mp he with rfl | he
  · exact m_lru4
  rcases List.mem_cons.mp he with rfl | he
  · exact w_lru4
  rcases List.mem_cons.mp he with rfl | he
  · exact i_lru4
  rcases List.mem_cons.mp he with rfl | he
  · exact m_fifo1
  rcases List.mem_cons.mp he with rfl | he
  · exact w_fifo1
  rcases List.mem_cons.mp he with rfl | he
  · exact i_fifo1
  rcases List.mem_cons.mp he with rfl | he
  · exact m_fifo2
  rcases List.mem_cons.mp he with rfl | he
  · exact w_fifo2
  rcases List.mem_cons.mp he with rfl | he
  · exact i_fifo2
  rcases List.mem_cons.mp he with rfl | he
  · exact m_fifo3
  rcases List.mem_cons.mp he with rfl | he
  · exact w_fifo3
  rcases List.mem_cons.mp he with rfl | he
  · exact i_fifo3
  rcases List.mem_cons.mp he with rfl | he
  · exact m_fifo4
  rcases List.mem_cons.mp he with rfl | he
  · exact w_fifo4
  rcases List.mem_cons.mp he with rfl | he
  · exact i_fifo4
  rcases List.mem_cons.mp he with rfl | he
  · exact m_mark1
  rcases List.mem_cons.mp he with rfl | he
  · exact w_mark1
  rcases List.mem_cons.mp he with rfl | he
  · exact i_mark1
  rcases List.mem_cons.mp he with rfl | he
  · exact m_mark2
  rcases List.mem_cons.mp he with rfl | he
  · exact w_mark2
  rcases List.mem_cons.mp he with rfl | he
  · exact i_mark2
  rcases List.mem_cons.mp he with rfl | he
  · exact m_mark3
  rcases List.mem_cons.mp he with rfl | he
  · exact w_mark3
  rcases List.mem_cons.mp he with rfl | he
  · exact i_mark3
  rcases List.mem_cons.mp he with rfl | he
  · exact m_mark4
  rcases List.mem_cons.mp he with rfl | he
  · exact w_mark4
  rcases List.mem_cons.mp he with rfl | he
  · exact i_mark4
  rcases List.mem_cons.mp he with rfl | he
  · exact m_clock1
  rcases List.mem_cons.mp he with rfl | he
  · exact w_clock1
  rcases List.mem_cons.mp he with rfl | he
  · exact i_clock1
  rcases List.mem_cons.mp he with rfl | he
  · exact m_clock2
  rcases List.mem_cons.mp he with rfl | he
  · exact w_clock2
  rcases List.mem_cons.mp he with rfl | he
  · exact i_clock2
  rcases List.mem_cons.mp he with rfl | he
  · exact m_clock3
  rcases List.mem_cons.mp he with rfl | he
  · exact w_clock3
  rcases List.mem_cons.mp he with rfl | he
  · exact i_clock3
  rcases List.mem_cons.mp he with rfl | he
  · exact m_clock4
  rcases List.mem_cons.mp he with rfl | he
  · exact w_clock4
  rcases List.mem_cons.mp he with rfl | he
  · exact i_clock4
  rcases List.mem_cons.mp he with rfl | he
  · exact m_tree1
  rcases List.mem_cons.mp he with rfl | he
  · exact w_tree1
  rcases List.mem_cons.mp he with rfl | he
  · exact i_tree1
  rcases List.mem_cons.mp he with rfl | he
  · exact m_tree2
  rcases List.mem_cons.mp he with rfl | he
  · exact w_tree2
  rcases List.mem_cons.mp he with rfl | he
  · exact i_tree2
  rcases List.mem_cons.mp he with rfl | he
  · exact m_tree4
  rcases List.mem_cons.mp he with rfl | he
  · exact w_tree4
  rcases List.mem_cons.mp he with rfl | he
  · exact i_tree4
  cases he
theorem orc_eq : orc (callF codes 40) = callF codes 40 := by
  funext k ns vs g
  unfold orc
  cases ns with
  | cons n ns => rfl
  | nil =>
    dsimp only
    split
    · rename_i e
      split
      · rename_i v e2
        have := valB_ok (known_ok _ (hit_mem e2))
        rw [isE_ok e]
        exact this.symm
      · rfl
    · rfl
def hdT : T → T
  | .cons a _ => a
  | t => t
def tlT : T → T
  | .cons _ b => b
  | t => t
def H4 (o0 o1 o2 o3 : GO) : GH := ⟨4, .nd (some o0) (.nd (some o1) (.nd (some o3) .nil .nil) .nil) (.nd (some o2) .nil .nil), 2, [(1, none), (0, none)]⟩
def s0 : SL := [some (.loc 0), none, none, none, some (.loc 0), none, none, some (.loc 1)]
def s2 : SL := [some (.loc 0), some (.loc 2), none, none, some (.loc 0), none, none, some (.loc 1)]
noncomputable def mid (C : CallT) (σ : SL) (g : GH) : Res (Fl × SL) := ((den (hdT (tlT c30.body))).s C σ g).bind fun r g => match r with
  | (.nx, σ) => (den (hdT (tlT (tlT c30.body)))).s C σ g
  | r => .ok r g
def nxB : Res (Fl × SL) → Bool
  | .ok (.nx, _) _ => true
  | _ => false
end MP
namespace MP
open PySem PySem.Spec L2
open PyProof.Rows hiding St

set_option maxHeartbeats 4000000
theorem b0 {S : Stat} {P : Program} {w : World} {mg : Str → Option Value} {base : Heap} {d : Nat} {C : CallT} (Q : StOk S) (M : MdOk S tabs mg) : BodyOk S P w mg base d C 0 c0 := by
  obtain ⟨K, F, rfl⟩ := Q
  exact body_s (b := n0.stmts) M (by kernel_rfl) fun cl f c A outer s H E T L0 => (r_sc T (r_ret T (r_and T (r_isInt T (r_var T)) (r_one T (r_not T (r_isBool T (r_var T))))))
    (r_sn T))
theorem b1 {S : Stat} {P : Program} {w : World} {mg : Str → Option Value} {base : Heap} {d : Nat} {C : CallT} (Q : StOk S) (M : MdOk S tabs mg) : BodyOk S P w mg base d C 1 c1 := by
  obtain ⟨K, F, rfl⟩ := Q
  exact body_s (b := n1.stmts) M (by kernel_rfl) fun cl f c A outer s H E T L0 => (r_sc T (r_ret T (r_and T (r_cal true T (r_cons T (r_var T) (r_nil T))) (r_one T (r_chn .le .le T (r_var T) (r_var T) (r_var T)))))
    (r_sn T))
theorem b2 {S : Stat} {P : Program} {w : World} {mg : Str → Option Value} {base : Heap} {d : Nat} {C : CallT} (Q : StOk S) (M : MdOk S tabs mg) : BodyOk S P w mg base d C 2 c2 := by
  obtain ⟨K, F, rfl⟩ := Q
  exact body_s (b := n2.stmts) M (by kernel_rfl) fun cl f c A outer s H E T L0 => (r_sc T (r_if T (b_pt T (b_or T (b_not T (b_val T (r_isTup T (r_var T)))) (b_or T (b_cmp .ne T (r_len T (r_cons T (r_var T) (r_nil T))) (r_int T)) (b_or T (b_not T (b_val T (r_isTup T (r_ix T (r_var T) (r_int T))))) (b_or1 T (b_cmp .ne T (r_len T (r_cons T (r_ix T (r_var T) (r_int T)) (r_nil T))) (r_var T))))))) (r_sc T (r_ret T (r_bl T))
    (r_sn T)) (r_sn T))
    (r_sc T (r_if T (b_cmp .ne T (r_lc [("row", 3)] T (r_itv T (r_ix T (r_var T) (r_int T))) fun _ _ _ T => ⟨(r_gv T), (r_t1 T (b_not T (b_val T (r_cal true T (r_cons T (r_var T) (r_cons T (r_int T) (r_cons T (r_bin .sub T (r_cel T) (r_int T)) (r_nil T)))))))), (r_var T)⟩) (r_lst T (r_nil T))) (r_sc T (r_ret T (r_bl T))
    (r_sn T)) (r_sn T))
    (r_sc T (r_ret T (r_and T (r_cal true T (r_cons T (r_ix T (r_var T) (r_int T)) (r_cons T (r_int T) (r_cons T (r_bin .sub T (r_var T) (r_int T)) (r_nil T))))) (r_one T (r_cal true T (r_cons T (r_ix T (r_var T) (r_int T)) (r_cons T (r_int T) (r_cons T (r_bin .sub T (r_cel T) (r_int T)) (r_nil T))))))))
    (r_sn T))))
theorem b3 {S : Stat} {P : Program} {w : World} {mg : Str → Option Value} {base : Heap} {d : Nat} {C : CallT} (Q : StOk S) (M : MdOk S tabs mg) : BodyOk S P w mg base d C 3 c3 := by
  obtain ⟨K, F, rfl⟩ := Q
  exact body_s (b := n3.stmts) M (by kernel_rfl) fun cl f c A outer s H E T L0 => (r_sc T (r_if T (b_pt T (b_or T (b_not T (b_val T (r_isTup T (r_cel T)))) (b_or T (b_cmp .ne T (r_len T (r_cons T (r_cel T) (r_nil T))) (r_int T)) (b_or T (b_not T (b_val T (r_isStr T (r_ix T (r_cel T) (r_int T))))) (b_or1 T (b_cmp .ne T (r_ix T (r_cel T) (r_int T)) (r_str T))))))) (r_sc T (r_ret T (r_bl T))
    (r_sn T)) (r_sn T))
    (r_sc T (r_if T (b_pt T (b_or T (b_not T (b_val T (r_cal true T (r_cons T (r_ix T (r_cel T) (r_int T)) (r_cons T (r_int T) (r_cons T (r_con T) (r_nil T))))))) (b_or1 T (b_not T (b_val T (r_isTup T (r_ix T (r_cel T) (r_int T)))))))) (r_sc T (r_ret T (r_bl T))
    (r_sn T)) (r_sn T))
    (r_sc T (r_set T (r_gc T) (r_len T (r_cons T (r_ix T (r_cel T) (r_int T)) (r_nil T))))
    (r_sc T (r_ret T (r_and T (r_chn .le .le T (r_int T) (r_cel T) (r_con T)) (r_one T (r_cmp .eq T (r_lc [("row", 2)] T (r_itv T (r_ix T (r_cel T) (r_int T))) fun _ _ _ T => ⟨(r_gv T), (r_t1 T (b_not T (b_val T (r_cal true T (r_cons T (r_var T) (r_cons T (r_ix T (r_cel T) (r_int T)) (r_cons T (r_cel T) (r_nil T)))))))), (r_var T)⟩) (r_lst T (r_nil T))))))
    (r_sn T)))))
theorem b4 {S : Stat} {P : Program} {w : World} {mg : Str → Option Value} {base : Heap} {d : Nat} {C : CallT} (Q : StOk S) (M : MdOk S tabs mg) : BodyOk S P w mg base d C 4 c4 := by
  obtain ⟨K, F, rfl⟩ := Q
  exact body_s (b := n4.stmts) M (by kernel_rfl) fun cl f c A outer s H E T L0 => (r_sc T (r_if T (b_not T (b_val T (r_cal true T (r_cons T (r_var T) (r_cons T (r_int T) (r_cons T (r_con T) (r_nil T))))))) (r_sc T (r_rai T)
    (r_sn T)) (r_sn T))
    (r_sn T))
theorem b5 {S : Stat} {P : Program} {w : World} {mg : Str → Option Value} {base : Heap} {d : Nat} {C : CallT} (Q : StOk S) (M : MdOk S tabs mg) : BodyOk S P w mg base d C 5 c5 := by
  obtain ⟨K, F, rfl⟩ := Q
  exact body_s (b := n5.stmts) M (by kernel_rfl) fun cl f c A outer s H E T L0 => (r_sc T (r_set T (r_gt T (r_gs T (r_gc T) (r_gs T (r_gv T) (r_gn T)))) (r_tup T (r_cons T (r_lst T (r_cons T (r_var T) (r_nil T))) (r_cons T (r_lst T (r_nil T)) (r_nil T)))))
    (r_sc T (r_whl T (b_cmp .lt T (r_len T (r_cons T (r_var T) (r_nil T))) (r_len T (r_cons T (r_cel T) (r_nil T)))) (r_sc T (r_set T (r_gc T) (r_ix T (r_cel T) (r_len T (r_cons T (r_var T) (r_nil T)))))
    (r_sc T (r_set T (r_gt T (r_gs T (r_gv T) (r_gs T (r_gv T) (r_gn T)))) (r_cav true T (r_var T) (r_cons T (r_cel T) (r_nil T))))
    (r_sc T (r_set T (r_gv T) (r_bin .add T (r_lc [("way", 11)] T (r_itr T (r_var T)) fun _ _ _ T => ⟨(r_gv T), (r_t0 T), (r_cav true T (r_cel T) (r_cons T (r_cel T) (r_cons T (r_var T) (r_nil T))))⟩) (r_lst T (r_cons T (r_var T) (r_nil T)))))
    (r_sc T (r_for T (r_itv T (r_var T)) (r_gv T) (r_sc T (r_if T (b_cmp .nin T (r_var T) (r_cel T)) (r_sc T (r_exs T (r_mt .append T (r_cel T) (r_cons T (r_var T) (r_nil T))))
    (r_sn T)) (r_sn T))
    (r_sn T)))
    (r_sc T (r_exs T (r_mt .append T (r_var T) (r_cons T (r_tup T (r_cons T (r_tuple T (r_cons T (r_lc [("state", 10)] T (r_itv T (r_sl T (r_var T) (r_on T) (r_os T (r_var T)))) fun _ _ _ T => ⟨(r_gv T), (r_t0 T), (r_mt .index T (r_cel T) (r_cons T (r_var T) (r_nil T)))⟩) (r_nil T))) (r_cons T (r_var T) (r_cons T (r_mt .index T (r_cel T) (r_cons T (r_var T) (r_nil T))) (r_nil T))))) (r_nil T))))
    (r_sn T)))))))
    (r_sc T (r_ret T (r_tup T (r_cons T (r_str T) (r_cons T (r_var T) (r_cons T (r_tuple T (r_cons T (r_var T) (r_nil T))) (r_nil T))))))
    (r_sn T))))
theorem b6 {S : Stat} {P : Program} {w : World} {mg : Str → Option Value} {base : Heap} {d : Nat} {C : CallT} (Q : StOk S) (M : MdOk S tabs mg) : BodyOk S P w mg base d C 6 c6 := by
  obtain ⟨K, F, rfl⟩ := Q
  exact body_s (b := n6.stmts) M (by kernel_rfl) fun cl f c A outer s H E T L0 => (r_sc T (r_ret T (r_bin .add T (r_tup T (r_cons T (r_cel T) (r_nil T))) (r_tuple T (r_cons T (r_lc [("one", 2)] T (r_itv T (r_var T)) fun _ _ _ T => ⟨(r_gv T), (r_t1 T (b_cmp .ne T (r_var T) (r_cel T))), (r_var T)⟩) (r_nil T)))))
    (r_sn T))
theorem b7 {S : Stat} {P : Program} {w : World} {mg : Str → Option Value} {base : Heap} {d : Nat} {C : CallT} (Q : StOk S) (M : MdOk S tabs mg) : BodyOk S P w mg base d C 7 c7 := by
  obtain ⟨K, F, rfl⟩ := Q
  exact body_s (b := n7.stmts) M (by kernel_rfl) fun cl f c A outer s H E T L0 => have L := L0 _ rfl; (r_sc T (r_exs T (r_cal true T (r_cons T (r_var T) (r_nil T))))
    (r_sc T (r_ret T (r_cal false T (r_cons T (r_var T) (r_cons T (r_rg1 false T (r_var T)) (r_cons T (r_glo T) (r_cons T (r_lam T L) (r_nil T)))))))
    (r_sn T)))
theorem b8 {S : Stat} {P : Program} {w : World} {mg : Str → Option Value} {base : Heap} {d : Nat} {C : CallT} (Q : StOk S) (M : MdOk S tabs mg) : BodyOk S P w mg base d C 8 c8 := by
  obtain ⟨K, F, rfl⟩ := Q
  exact body_s (b := n8.stmts) M (by kernel_rfl) fun cl f c A outer s H E T L0 => have L := L0 _ rfl; (r_sc T (r_exs T (r_cal true T (r_cons T (r_cel T) (r_nil T))))
    (r_sc T (r_ret T (r_cal false T (r_cons T (r_cel T) (r_cons T (r_int T) (r_cons T (r_lam T L) (r_cons T (r_lam T L) (r_nil T)))))))
    (r_sn T)))
theorem b9 {S : Stat} {P : Program} {w : World} {mg : Str → Option Value} {base : Heap} {d : Nat} {C : CallT} (Q : StOk S) (M : MdOk S tabs mg) : BodyOk S P w mg base d C 9 c9 := by
  obtain ⟨K, F, rfl⟩ := Q
  exact body_s (b := n9.stmts) M (by kernel_rfl) fun cl f c A outer s H E T L0 => (r_sc T (r_set T (r_gv T) (r_tuple T (r_cons T (r_lc [("place", 3), ("mark", 4)] T (r_ite T (r_var T)) fun _ _ _ T => ⟨(r_gt T (r_gs T (r_gv T) (r_gs T (r_gv T) (r_gn T)))), (r_t0 T), (r_or T (r_var T) (r_one T (r_cmp .eq T (r_var T) (r_cel T))))⟩) (r_nil T))))
    (r_sc T (r_ret T (r_ife T (b_pt T (b_and T (b_val T (r_all T (r_cons T (r_var T) (r_nil T)))) (b_and1 T (b_cmp .gt T (r_len T (r_cons T (r_var T) (r_nil T))) (r_int T))))) (r_tuple T (r_cons T (r_lc [("place", 3)] T (r_itr T (r_len T (r_cons T (r_var T) (r_nil T)))) fun _ _ _ T => ⟨(r_gv T), (r_t0 T), (r_cmp .eq T (r_var T) (r_cel T))⟩) (r_nil T))) (r_var T)))
    (r_sn T)))
theorem b10 {S : Stat} {P : Program} {w : World} {mg : Str → Option Value} {base : Heap} {d : Nat} {C : CallT} (Q : StOk S) (M : MdOk S tabs mg) : BodyOk S P w mg base d C 10 c10 := by
  obtain ⟨K, F, rfl⟩ := Q
  exact body_s (b := n10.stmts) M (by kernel_rfl) fun cl f c A outer s H E T L0 => have L := L0 _ rfl; (r_sc T (r_exs T (r_cal true T (r_cons T (r_var T) (r_nil T))))
    (r_sc T (r_if T (b_cmp .eq T (r_var T) (r_int T)) (r_sc T (r_ret T (r_tup T (r_cons T (r_str T) (r_cons T (r_int T) (r_cons T (r_tup T (r_cons T (r_tup T (r_cons T (r_tup T (r_cons T (r_int T) (r_nil T))) (r_cons T (r_int T) (r_cons T (r_int T) (r_nil T))))) (r_nil T))) (r_nil T))))))
    (r_sn T)) (r_sn T))
    (r_sc T (r_ret T (r_cal false T (r_cons T (r_var T) (r_cons T (r_bin .mul T (r_tup T (r_cons T (r_bl T) (r_nil T))) (r_var T)) (r_cons T (r_glo T) (r_cons T (r_lam T L) (r_nil T)))))))
    (r_sn T))))
theorem b11 {S : Stat} {P : Program} {w : World} {mg : Str → Option Value} {base : Heap} {d : Nat} {C : CallT} (Q : StOk S) (M : MdOk S tabs mg) : BodyOk S P w mg base d C 11 c11 := by
  obtain ⟨K, F, rfl⟩ := Q
  exact body_s (b := n11.stmts) M (by kernel_rfl) fun cl f c A outer s H E T L0 => (r_sc T (r_if T (b_cmp .eq T (r_var T) (r_int T)) (r_sc T (r_ret T (r_int T))
    (r_sn T)) (r_sn T))
    (r_sc T (r_if T (b_cmp .eq T (r_var T) (r_int T)) (r_sc T (r_ret T (r_ix T (r_var T) (r_int T)))
    (r_sn T)) (r_sn T))
    (r_sc T (r_ret T (r_bin .add T (r_bin .mul T (r_int T) (r_ix T (r_var T) (r_int T))) (r_ix T (r_var T) (r_bin .add T (r_int T) (r_ix T (r_var T) (r_int T))))))
    (r_sn T))))
theorem b12 {S : Stat} {P : Program} {w : World} {mg : Str → Option Value} {base : Heap} {d : Nat} {C : CallT} (Q : StOk S) (M : MdOk S tabs mg) : BodyOk S P w mg base d C 12 c12 := by
  obtain ⟨K, F, rfl⟩ := Q
  exact body_s (b := n12.stmts) M (by kernel_rfl) fun cl f c A outer s H E T L0 => (r_sc T (r_if T (b_cmp .eq T (r_var T) (r_int T)) (r_sc T (r_ret T (r_var T))
    (r_sn T)) (r_sn T))
    (r_sc T (r_if T (b_cmp .eq T (r_var T) (r_int T)) (r_sc T (r_ret T (r_tup T (r_cons T (r_bin .sub T (r_int T) (r_var T)) (r_nil T))))
    (r_sn T)) (r_sn T))
    (r_sc T (r_par T (r_bin .fdiv T (r_var T) (r_int T)) (r_bin .mod T (r_var T) (r_int T)))
    (r_sc T (r_set T (r_gv T) (r_list T (r_cons T (r_var T) (r_nil T))))
    (r_sc T (r_set T (r_gt T (r_gs T (r_gi T (r_var T) (r_int T)) (r_gs T (r_gi T (r_var T) (r_bin .add T (r_int T) (r_var T))) (r_gn T)))) (r_tup T (r_cons T (r_bin .sub T (r_int T) (r_var T)) (r_cons T (r_bin .sub T (r_int T) (r_var T)) (r_nil T)))))
    (r_sc T (r_ret T (r_tuple T (r_cons T (r_var T) (r_nil T))))
    (r_sn T)))))))
theorem b13 {S : Stat} {P : Program} {w : World} {mg : Str → Option Value} {base : Heap} {d : Nat} {C : CallT} (Q : StOk S) (M : MdOk S tabs mg) : BodyOk S P w mg base d C 13 c13 := by
  obtain ⟨K, F, rfl⟩ := Q
  exact body_s (b := n13.stmts) M (by kernel_rfl) fun cl f c A outer s H E T L0 => have L := L0 _ rfl; (r_sc T (r_exs T (r_cal true T (r_cons T (r_cel T) (r_nil T))))
    (r_sc T (r_if T (b_cmp .eq T (r_cel T) (r_int T)) (r_sc T (r_rai T)
    (r_sn T)) (r_sn T))
    (r_sc T (r_defv T L)
    (r_sc T (r_ret T (r_cal false T (r_cons T (r_cel T) (r_cons T (r_bin .mul T (r_tup T (r_cons T (r_int T) (r_nil T))) (r_bin .sub T (r_cel T) (r_int T))) (r_cons T (r_lam T L) (r_cons T (r_var T) (r_nil T)))))))
    (r_sn T)))))
theorem b14 {S : Stat} {P : Program} {w : World} {mg : Str → Option Value} {base : Heap} {d : Nat} {C : CallT} (Q : StOk S) (M : MdOk S tabs mg) : BodyOk S P w mg base d C 14 c14 := by
  obtain ⟨K, F, rfl⟩ := Q
  exact body_s (b := n14.stmts) M (by kernel_rfl) fun cl f c A outer s H E T L0 => (r_sc T (r_set T (r_gv T) (r_list T (r_cons T (r_var T) (r_nil T))))
    (r_sc T (r_whl T (b_val T (r_ix T (r_var T) (r_var T))) (r_sc T (r_set T (r_gi T (r_var T) (r_var T)) (r_bl T))
    (r_sc T (r_set T (r_gv T) (r_bin .mod T (r_bin .add T (r_var T) (r_int T)) (r_len T (r_cons T (r_var T) (r_nil T)))))
    (r_sn T))))
    (r_sc T (r_ret T (r_tup T (r_cons T (r_var T) (r_cons T (r_tuple T (r_cons T (r_var T) (r_nil T))) (r_nil T)))))
    (r_sn T))))
theorem b15 {S : Stat} {P : Program} {w : World} {mg : Str → Option Value} {base : Heap} {d : Nat} {C : CallT} (Q : StOk S) (M : MdOk S tabs mg) : BodyOk S P w mg base d C 15 c15 := by
  obtain ⟨K, F, rfl⟩ := Q
  exact body_s (b := n15.stmts) M (by kernel_rfl) fun cl f c A outer s H E T L0 => have L := L0 _ rfl; (r_sc T (r_exs T (r_cal true T (r_cons T (r_cel T) (r_nil T))))
    (r_sc T (r_defv T L)
    (r_sc T (r_defv T L)
    (r_sc T (r_ret T (r_cal false T (r_cons T (r_cel T) (r_cons T (r_tup T (r_cons T (r_int T) (r_cons T (r_bin .mul T (r_tup T (r_cons T (r_bl T) (r_nil T))) (r_cel T)) (r_nil T)))) (r_cons T (r_var T) (r_cons T (r_var T) (r_nil T)))))))
    (r_sn T)))))
theorem b16 {S : Stat} {P : Program} {w : World} {mg : Str → Option Value} {base : Heap} {d : Nat} {C : CallT} (Q : StOk S) (M : MdOk S tabs mg) : BodyOk S P w mg base d C 16 c16 := by
  obtain ⟨K, F, rfl⟩ := Q
  exact body_s (b := n16.stmts) M (by kernel_rfl) fun cl f c A outer s H E T L0 => (r_sc T (r_setLc [("grain", 2)] T (r_itv T (r_var T)) fun _ _ _ T => ⟨(r_gv T), (r_t1 T (b_cmp .ge T (r_abs T (r_cons T (r_var T) (r_nil T))) (r_bin .pow T (r_int T) (r_int T)))), (r_bin .sub T (r_abs T (r_cons T (r_var T) (r_nil T))) (r_bin .pow T (r_int T) (r_int T)))⟩)
    (r_sc T (r_ret T (r_dct T (r_dc T (r_str T) (r_var T) (r_dc T (r_str T) (r_int T) (r_dc T (r_str T) (r_lc [("grain", 2)] T (r_itv T (r_var T)) fun _ _ _ T => ⟨(r_gv T), (r_t0 T), (r_abs T (r_cons T (r_var T) (r_nil T)))⟩) (r_dc T (r_str T) (r_int T) (r_dn T)))))))
    (r_sn T)))
theorem b17 {S : Stat} {P : Program} {w : World} {mg : Str → Option Value} {base : Heap} {d : Nat} {C : CallT} (Q : StOk S) (M : MdOk S tabs mg) : BodyOk S P w mg base d C 17 c17 := by
  obtain ⟨K, F, rfl⟩ := Q
  exact body_s (b := n17.stmts) M (by kernel_rfl) fun cl f c A outer s H E T L0 => (r_sc T (r_set T (r_gi T (r_var T) (r_str T)) (r_bin .add T (r_ix T (r_var T) (r_str T)) (r_int T)))
    (r_sc T (r_par T (r_intc T (r_cons T (r_ix T (r_var T) (r_str T)) (r_nil T))) (r_int T))
    (r_sc T (r_for T (r_itv T (r_lst T (r_cons T (r_int T) (r_cons T (r_int T) (r_cons T (r_int T) (r_nil T)))))) (r_gv T) (r_sc T (r_set T (r_gv T) (r_bin .mod T (r_intc T (r_cons T (r_bin .add T (r_bin .mul T (r_var T) (r_int T)) (r_bin .fdiv T (r_var T) (r_int T))) (r_nil T))) (r_var T)))
    (r_sc T (r_for T (r_itv T (r_ix T (r_var T) (r_str T))) (r_gv T) (r_sc T (r_set T (r_gv T) (r_bin .mod T (r_intc T (r_cons T (r_bin .add T (r_bin .add T (r_bin .mul T (r_var T) (r_int T)) (r_intc T (r_cons T (r_var T) (r_nil T)))) (r_int T)) (r_nil T))) (r_var T)))
    (r_sn T)))
    (r_sc T (r_set T (r_gv T) (r_bin .add T (r_bin .mul T (r_var T) (r_int T)) (r_bin .mod T (r_intc T (r_cons T (r_bin .pow T (r_var T) (r_int T)) (r_nil T))) (r_var T))))
    (r_sn T)))))
    (r_sc T (r_ret T (r_var T))
    (r_sn T)))))
theorem b18 {S : Stat} {P : Program} {w : World} {mg : Str → Option Value} {base : Heap} {d : Nat} {C : CallT} (Q : StOk S) (M : MdOk S tabs mg) : BodyOk S P w mg base d C 18 c18 := by
  obtain ⟨K, F, rfl⟩ := Q
  exact body_s (b := n18.stmts) M (by kernel_rfl) fun cl f c A outer s H E T L0 => (r_sc T (r_if T (b_cmp .eq T (r_ix T (r_var T) (r_str T)) (r_int T)) (r_sc T (r_set T (r_gi T (r_var T) (r_str T)) (r_ife T (b_cmp .ne T (r_ix T (r_var T) (r_str T)) (r_lst T (r_nil T))) (r_mt .pop T (r_ix T (r_var T) (r_str T)) (r_cons T (r_int T) (r_nil T))) (r_cal false T (r_cons T (r_var T) (r_nil T)))))
    (r_sn T)) (r_sn T))
    (r_sc T (r_set T (r_gv T) (r_bin .mod T (r_intc T (r_cons T (r_ix T (r_var T) (r_str T)) (r_nil T))) (r_var T)))
    (r_sc T (r_set T (r_gi T (r_var T) (r_str T)) (r_bin .fdiv T (r_intc T (r_cons T (r_ix T (r_var T) (r_str T)) (r_nil T))) (r_var T)))
    (r_sc T (r_ret T (r_var T))
    (r_sn T)))))
theorem b19 {S : Stat} {P : Program} {w : World} {mg : Str → Option Value} {base : Heap} {d : Nat} {C : CallT} (Q : StOk S) (M : MdOk S tabs mg) : BodyOk S P w mg base d C 19 c19 := by
  obtain ⟨K, F, rfl⟩ := Q
  exact body_s (b := n19.stmts) M (by kernel_rfl) fun cl f c A outer s H E T L0 => (r_sc T (r_ret T (r_ix T (r_var T) (r_cal false T (r_cons T (r_var T) (r_cons T (r_len T (r_cons T (r_var T) (r_nil T))) (r_nil T))))))
    (r_sn T))
theorem b20 {S : Stat} {P : Program} {w : World} {mg : Str → Option Value} {base : Heap} {d : Nat} {C : CallT} (Q : StOk S) (M : MdOk S tabs mg) : BodyOk S P w mg base d C 20 c20 := by
  obtain ⟨K, F, rfl⟩ := Q
  exact body_s (b := n20.stmts) M (by kernel_rfl) fun cl f c A outer s H E T L0 => (r_sc T (r_set T (r_gv T) (r_non T))
    (r_sc T (r_try (k0 := 0) T fun _ _ _ T => (r_cav false T (r_var T) (r_nil T)))
    (r_sc T (r_ret T (r_var T))
    (r_sn T))))
theorem b21 {S : Stat} {P : Program} {w : World} {mg : Str → Option Value} {base : Heap} {d : Nat} {C : CallT} (Q : StOk S) (M : MdOk S tabs mg) : BodyOk S P w mg base d C 21 c21 := by
  obtain ⟨K, F, rfl⟩ := Q
  exact body_s (b := n21.stmts) M (by kernel_rfl) fun cl f c A outer s H E T L0 => (r_sc T (r_ret T (r_cmp .eq T (r_repr T (r_cons T (r_var T) (r_nil T))) (r_repr T (r_cons T (r_var T) (r_nil T)))))
    (r_sn T))
theorem b22 {S : Stat} {P : Program} {w : World} {mg : Str → Option Value} {base : Heap} {d : Nat} {C : CallT} (Q : StOk S) (M : MdOk S tabs mg) : BodyOk S P w mg base d C 22 c22 := by
  obtain ⟨K, F, rfl⟩ := Q
  exact body_s (b := n22.stmts) M (by kernel_rfl) fun cl f c A outer s H E T L0 => (r_sc T (r_set T (r_gt T (r_gs T (r_gc T) (r_gs T (r_gv T) (r_gn T)))) (r_tup T (r_cons T (r_lst T (r_cons T (r_var T) (r_nil T))) (r_cons T (r_lst T (r_nil T)) (r_nil T)))))
    (r_sc T (r_whl T (b_cmp .lt T (r_len T (r_cons T (r_var T) (r_nil T))) (r_len T (r_cons T (r_cel T) (r_nil T)))) (r_sc T (r_set T (r_gc T) (r_ix T (r_cel T) (r_len T (r_cons T (r_var T) (r_nil T)))))
    (r_sc T (r_set T (r_gt T (r_gs T (r_gv T) (r_gs T (r_gv T) (r_gn T)))) (r_cav false T (r_var T) (r_cons T (r_cel T) (r_nil T))))
    (r_sc T (r_setLc [("way", 11)] T (r_itr T (r_var T)) fun _ _ _ T => ⟨(r_gv T), (r_t0 T), (r_cav false T (r_cel T) (r_cons T (r_cel T) (r_cons T (r_var T) (r_nil T))))⟩)
    (r_sc T (r_for T (r_itv T (r_bin .add T (r_var T) (r_lst T (r_cons T (r_var T) (r_nil T))))) (r_gv T) (r_sc T (r_if T (b_cmp .nin T (r_var T) (r_cel T)) (r_sc T (r_set T (r_gc T) (r_bin .add T (r_cel T) (r_lst T (r_cons T (r_var T) (r_nil T)))))
    (r_sn T)) (r_sn T))
    (r_sn T)))
    (r_sc T (r_set T (r_gv T) (r_bin .add T (r_var T) (r_lst T (r_cons T (r_tup T (r_cons T (r_tuple T (r_cons T (r_lc [("state", 10)] T (r_itv T (r_var T)) fun _ _ _ T => ⟨(r_gv T), (r_t0 T), (r_mt .index T (r_cel T) (r_cons T (r_var T) (r_nil T)))⟩) (r_nil T))) (r_cons T (r_var T) (r_cons T (r_mt .index T (r_cel T) (r_cons T (r_var T) (r_nil T))) (r_nil T))))) (r_nil T)))))
    (r_sn T)))))))
    (r_sc T (r_ret T (r_tup T (r_cons T (r_str T) (r_cons T (r_var T) (r_cons T (r_tuple T (r_cons T (r_var T) (r_nil T))) (r_nil T))))))
    (r_sn T))))
theorem b23 {S : Stat} {P : Program} {w : World} {mg : Str → Option Value} {base : Heap} {d : Nat} {C : CallT} (Q : StOk S) (M : MdOk S tabs mg) : BodyOk S P w mg base d C 23 c23 := by
  obtain ⟨K, F, rfl⟩ := Q
  exact body_s (b := n23.stmts) M (by kernel_rfl) fun cl f c A outer s H E T L0 => have L := L0 _ rfl; (r_sc T (r_ret T (r_cal false T (r_cons T (r_var T) (r_cons T (r_rg1 true T (r_var T)) (r_cons T (r_lam T L) (r_cons T (r_lam T L) (r_nil T)))))))
    (r_sn T))
theorem b24 {S : Stat} {P : Program} {w : World} {mg : Str → Option Value} {base : Heap} {d : Nat} {C : CallT} (Q : StOk S) (M : MdOk S tabs mg) : BodyOk S P w mg base d C 24 c24 := by
  obtain ⟨K, F, rfl⟩ := Q
  exact body_s (b := n24.stmts) M (by kernel_rfl) fun cl f c A outer s H E T L0 => have L := L0 _ rfl; (r_sc T (r_ret T (r_cal false T (r_cons T (r_cel T) (r_cons T (r_int T) (r_cons T (r_lam T L) (r_cons T (r_lam T L) (r_nil T)))))))
    (r_sn T))
theorem b25 {S : Stat} {P : Program} {w : World} {mg : Str → Option Value} {base : Heap} {d : Nat} {C : CallT} (Q : StOk S) (M : MdOk S tabs mg) : BodyOk S P w mg base d C 25 c25 := by
  obtain ⟨K, F, rfl⟩ := Q
  exact body_s (b := n25.stmts) M (by kernel_rfl) fun cl f c A outer s H E T L0 => (r_sc T (r_set T (r_gv T) (r_srs T (r_bin .add T (r_ix T (r_var T) (r_int T)) (r_lst T (r_cons T (r_var T) (r_nil T))))))
    (r_sc T (r_ret T (r_tup T (r_cons T (r_ife T (b_cmp .eq T (r_len T (r_cons T (r_var T) (r_nil T))) (r_ix T (r_var T) (r_int T))) (r_lst T (r_cons T (r_var T) (r_nil T))) (r_var T)) (r_cons T (r_ix T (r_var T) (r_int T)) (r_nil T)))))
    (r_sn T)))
theorem b26 {S : Stat} {P : Program} {w : World} {mg : Str → Option Value} {base : Heap} {d : Nat} {C : CallT} (Q : StOk S) (M : MdOk S tabs mg) : BodyOk S P w mg base d C 26 c26 := by
  obtain ⟨K, F, rfl⟩ := Q
  exact body_s (b := n26.stmts) M (by kernel_rfl) fun cl f c A outer s H E T L0 => have L := L0 _ rfl; (r_sc T (r_if T (b_cmp .eq T (r_cel T) (r_int T)) (r_sc T (r_ret T (r_tup T (r_cons T (r_str T) (r_cons T (r_int T) (r_cons T (r_tup T (r_cons T (r_tup T (r_cons T (r_tup T (r_cons T (r_int T) (r_nil T))) (r_cons T (r_int T) (r_cons T (r_int T) (r_nil T))))) (r_nil T))) (r_nil T))))))
    (r_sn T)) (r_sn T))
    (r_sc T (r_defv T L)
    (r_sc T (r_ret T (r_cal false T (r_cons T (r_cel T) (r_cons T (r_tup T (r_cons T (r_lst T (r_nil T)) (r_cons T (r_cel T) (r_nil T)))) (r_cons T (r_glo T) (r_cons T (r_var T) (r_nil T)))))))
    (r_sn T))))
theorem b27 {S : Stat} {P : Program} {w : World} {mg : Str → Option Value} {base : Heap} {d : Nat} {C : CallT} (Q : StOk S) (M : MdOk S tabs mg) : BodyOk S P w mg base d C 27 c27 := by
  obtain ⟨K, F, rfl⟩ := Q
  exact body_s (b := n27.stmts) M (by kernel_rfl) fun cl f c A outer s H E T L0 => have L := L0 _ rfl; (r_sc T (r_set T (r_gv T) (r_ix T (r_dct T (r_dc T (r_int T) (r_lst T (r_nil T)) (r_dc T (r_int T) (r_lst T (r_cons T (r_str T) (r_nil T))) (r_dc T (r_int T) (r_lst T (r_cons T (r_str T) (r_cons T (r_str T) (r_cons T (r_str T) (r_nil T))))) (r_dn T))))) (r_var T)))
    (r_sc T (r_set T (r_gc T) (r_ix T (r_dct T (r_dc T (r_int T) (r_lst T (r_cons T (r_str T) (r_nil T))) (r_dc T (r_int T) (r_lst T (r_cons T (r_str T) (r_cons T (r_str T) (r_nil T)))) (r_dc T (r_int T) (r_lst T (r_cons T (r_str T) (r_cons T (r_str T) (r_cons T (r_str T) (r_cons T (r_str T) (r_nil T)))))) (r_dn T))))) (r_var T)))
    (r_sc T (r_defc T L)
    (r_sc T (r_defv T L)
    (r_sc T (r_ret T (r_cal false T (r_cons T (r_var T) (r_cons T (r_lc [("node", 5)] T (r_itv T (r_var T)) fun _ _ _ T => ⟨(r_gv T), (r_t0 T), (r_tup T (r_cons T (r_var T) (r_cons T (r_str T) (r_nil T))))⟩) (r_cons T (r_cel T) (r_cons T (r_var T) (r_nil T)))))))
    (r_sn T))))))
theorem b28 {S : Stat} {P : Program} {w : World} {mg : Str → Option Value} {base : Heap} {d : Nat} {C : CallT} (Q : StOk S) (M : MdOk S tabs mg) : BodyOk S P w mg base d C 28 c28 := by
  obtain ⟨K, F, rfl⟩ := Q
  exact body_s (b := n28.stmts) M (by kernel_rfl) fun cl f c A outer s H E T L0 => have L := L0 _ rfl; (r_sc T (r_defv T L)
    (r_sc T (r_defv T L)
    (r_sc T (r_ret T (r_cal false T (r_cons T (r_cel T) (r_cons T (r_tup T (r_cons T (r_int T) (r_cons T (r_lst T (r_nil T)) (r_nil T)))) (r_cons T (r_var T) (r_cons T (r_var T) (r_nil T)))))))
    (r_sn T))))
theorem b29 {S : Stat} {P : Program} {w : World} {mg : Str → Option Value} {base : Heap} {d : Nat} {C : CallT} (Q : StOk S) (M : MdOk S tabs mg) : BodyOk S P w mg base d C 29 c29 := by
  obtain ⟨K, F, rfl⟩ := Q
  exact body_s (b := n29.stmts) M (by kernel_rfl) fun cl f c A outer s H E T L0 => (r_sc T (r_ret T (r_cav false T (r_ix T (r_dct T (r_dc T (r_str T) (r_glo T) (r_dc T (r_str T) (r_glo T) (r_dc T (r_str T) (r_glo T) (r_dc T (r_str T) (r_glo T) (r_dc T (r_str T) (r_glo T) (r_dn T))))))) (r_var T)) (r_cons T (r_var T) (r_nil T))))
    (r_sn T))
theorem b30 {S : Stat} {P : Program} {w : World} {mg : Str → Option Value} {base : Heap} {d : Nat} {C : CallT} (Q : StOk S) (M : MdOk S tabs mg) : BodyOk S P w mg base d C 30 c30 := by
  obtain ⟨K, F, rfl⟩ := Q
  exact body_s (b := n30.stmts) M (by kernel_rfl) fun cl f c A outer s H E T L0 => have L := L0 _ rfl; (r_sc T (r_set T (r_gv T) (r_cal false T (r_cons T (r_var T) (r_nil T))))
    (r_sc T (r_set T (r_gv T) (r_dct T (r_dc T (r_str T) (r_glo T) (r_dc T (r_str T) (r_glo T) (r_dc T (r_str T) (r_glo T) (r_dc T (r_str T) (r_glo T) (r_dc T (r_str T) (r_glo T) (r_dn T))))))))
    (r_sc T (r_for T (r_itv T (r_sortedD T (r_cons T (r_var T) (r_nil T)))) (r_gv T) (r_sc T (r_set T (r_gc T) (r_ix T (r_var T) (r_var T)))
    (r_sc T (r_for T (r_itv T (r_ife T (b_cmp .eq T (r_var T) (r_str T)) (r_lst T (r_cons T (r_int T) (r_cons T (r_int T) (r_cons T (r_int T) (r_nil T))))) (r_lst T (r_cons T (r_int T) (r_cons T (r_int T) (r_cons T (r_int T) (r_cons T (r_int T) (r_nil T)))))))) (r_gv T) (r_sc T (r_set T (r_gv T) (r_cal true T (r_cons T (r_var T) (r_cons T (r_var T) (r_nil T)))))
    (r_sc T (r_if T (b_pt T (b_or T (b_not T (b_val T (r_cal false T (r_cons T (r_lst T (r_cons T (r_cav true T (r_cel T) (r_cons T (r_var T) (r_nil T))) (r_cons T (r_cak true (ks := ["ways"]) T (r_cel T) (r_kc T (r_var T) (r_kn T))) (r_nil T)))) (r_cons T (r_lst T (r_cons T (r_var T) (r_cons T (r_var T) (r_nil T)))) (r_nil T)))))) (b_or1 T (b_cmp .isn T (r_cal true T (r_cons T (r_cav true T (r_cel T) (r_cons T (r_var T) (r_nil T))) (r_nil T))) (r_bl T))))) (r_sc T (r_ret T (r_bl T))
    (r_sn T)) (r_sn T))
    (r_sn T))))
    (r_sc T (r_for T (r_itv T (r_bin .add T (r_lst T (r_cons T (r_int T) (r_cons T (r_int T) (r_cons T (r_neg T (r_int T)) (r_cons T (r_bl T) (r_cons T (r_non T) (r_cons T (r_str T) (r_cons T (r_tup T (r_cons T (r_int T) (r_nil T))) (r_cons T (r_bin .pow T (r_int T) (r_int T)) (r_nil T)))))))))) (r_ife T (b_cmp .eq T (r_var T) (r_str T)) (r_lst T (r_cons T (r_int T) (r_nil T))) (r_lst T (r_nil T))))) (r_gc T) (r_sc T (r_if T (b_not T (b_val T (r_isX T (r_cal false T (r_cons T (r_lam T L) (r_nil T)))))) (r_sc T (r_ret T (r_bl T))
    (r_sn T)) (r_sn T))
    (r_sn T)))
    (r_sn T)))))
    (r_sc T (r_par T (r_cal false T (r_cons T (r_var T) (r_cons T (r_lst T (r_cons T (r_str T) (r_cons T (r_str T) (r_cons T (r_str T) (r_cons T (r_str T) (r_nil T)))))) (r_nil T)))) (r_bin .add T (r_int T) (r_cal false T (r_cons T (r_var T) (r_cons T (r_int T) (r_nil T))))))
    (r_sc T (r_ret T (r_cmp .eq T (r_len T (r_cons T (r_ix T (r_cav true T (r_ix T (r_var T) (r_var T)) (r_cons T (r_var T) (r_nil T))) (r_int T)) (r_nil T))) (r_ix T (r_ix T (r_dct T (r_dc T (r_str T) (r_lst T (r_cons T (r_int T) (r_cons T (r_int T) (r_cons T (r_int T) (r_cons T (r_int T) (r_nil T)))))) (r_dc T (r_str T) (r_lst T (r_cons T (r_int T) (r_cons T (r_int T) (r_cons T (r_int T) (r_cons T (r_int T) (r_nil T)))))) (r_dc T (r_str T) (r_lst T (r_cons T (r_int T) (r_cons T (r_int T) (r_cons T (r_int T) (r_cons T (r_int T) (r_nil T)))))) (r_dc T (r_str T) (r_lst T (r_cons T (r_int T) (r_cons T (r_int T) (r_cons T (r_int T) (r_cons T (r_int T) (r_nil T)))))) (r_dn T)))))) (r_var T)) (r_bin .sub T (r_var T) (r_int T)))))
    (r_sn T))))))
theorem b31 {S : Stat} {P : Program} {w : World} {mg : Str → Option Value} {base : Heap} {d : Nat} {C : CallT} (Q : StOk S) (M : MdOk S tabs mg) : BodyOk S P w mg base d C 31 c31 := by
  obtain ⟨K, F, rfl⟩ := Q
  exact body_e (e := n31.expr) M (by kernel_rfl) rfl fun cl f c A outer s H E T L0 => (r_tup T (r_cons T (r_ix T (r_var T) (r_neg T (r_int T))) (r_cons T (r_cal true T (r_cons T (r_var T) (r_cons T (r_ix T (r_var T) (r_neg T (r_int T))) (r_nil T)))) (r_nil T))))
theorem b32 {S : Stat} {P : Program} {w : World} {mg : Str → Option Value} {base : Heap} {d : Nat} {C : CallT} (Q : StOk S) (M : MdOk S tabs mg) : BodyOk S P w mg base d C 32 c32 := by
  obtain ⟨K, F, rfl⟩ := Q
  exact body_e (e := n32.expr) M (by kernel_rfl) rfl fun cl f c A outer s H E T L0 => (r_tup T (r_cons T (r_var T) (r_cons T (r_bin .mod T (r_bin .add T (r_var T) (r_int T)) (r_fre T)) (r_nil T))))
theorem b33 {S : Stat} {P : Program} {w : World} {mg : Str → Option Value} {base : Heap} {d : Nat} {C : CallT} (Q : StOk S) (M : MdOk S tabs mg) : BodyOk S P w mg base d C 33 c33 := by
  obtain ⟨K, F, rfl⟩ := Q
  exact body_e (e := n33.expr) M (by kernel_rfl) rfl fun cl f c A outer s H E T L0 => (r_var T)
theorem b34 {S : Stat} {P : Program} {w : World} {mg : Str → Option Value} {base : Heap} {d : Nat} {C : CallT} (Q : StOk S) (M : MdOk S tabs mg) : BodyOk S P w mg base d C 34 c34 := by
  obtain ⟨K, F, rfl⟩ := Q
  exact body_e (e := n34.expr) M (by kernel_rfl) rfl fun cl f c A outer s H E T L0 => (r_tup T (r_cons T (r_mt .index T (r_var T) (r_cons T (r_bl T) (r_nil T))) (r_cons T (r_cal true T (r_cons T (r_var T) (r_cons T (r_mt .index T (r_var T) (r_cons T (r_bl T) (r_nil T))) (r_nil T)))) (r_nil T))))
theorem b35 {S : Stat} {P : Program} {w : World} {mg : Str → Option Value} {base : Heap} {d : Nat} {C : CallT} (Q : StOk S) (M : MdOk S tabs mg) : BodyOk S P w mg base d C 35 c35 := by
  obtain ⟨K, F, rfl⟩ := Q
  exact body_s (b := n35.stmts) M (by kernel_rfl) fun cl f c A outer s H E T L0 => (r_sc T (r_set T (r_gv T) (r_cal true T (r_cons T (r_var T) (r_cons T (r_fre T) (r_nil T)))))
    (r_sc T (r_ret T (r_tup T (r_cons T (r_var T) (r_cons T (r_cal true T (r_cons T (r_var T) (r_cons T (r_var T) (r_cons T (r_fre T) (r_nil T))))) (r_nil T)))))
    (r_sn T)))
theorem b36 {S : Stat} {P : Program} {w : World} {mg : Str → Option Value} {base : Heap} {d : Nat} {C : CallT} (Q : StOk S) (M : MdOk S tabs mg) : BodyOk S P w mg base d C 36 c36 := by
  obtain ⟨K, F, rfl⟩ := Q
  exact body_e (e := n36.expr) M (by kernel_rfl) rfl fun cl f c A outer s H E T L0 => (r_cal true T (r_cons T (r_var T) (r_cons T (r_var T) (r_cons T (r_fre T) (r_nil T)))))
theorem b37 {S : Stat} {P : Program} {w : World} {mg : Str → Option Value} {base : Heap} {d : Nat} {C : CallT} (Q : StOk S) (M : MdOk S tabs mg) : BodyOk S P w mg base d C 37 c37 := by
  obtain ⟨K, F, rfl⟩ := Q
  exact body_s (b := n37.stmts) M (by kernel_rfl) fun cl f c A outer s H E T L0 => (r_sc T (r_ret T (r_tup T (r_cons T (r_ix T (r_var T) (r_int T)) (r_cons T (r_tuple T (r_cons T (r_lc [("place", 2), ("mark", 3)] T (r_ite T (r_ix T (r_var T) (r_int T))) fun _ _ _ T => ⟨(r_gt T (r_gs T (r_gv T) (r_gs T (r_gv T) (r_gn T)))), (r_t0 T), (r_or T (r_var T) (r_one T (r_cmp .eq T (r_var T) (r_cel T))))⟩) (r_nil T))) (r_nil T)))))
    (r_sn T))
theorem b38 {S : Stat} {P : Program} {w : World} {mg : Str → Option Value} {base : Heap} {d : Nat} {C : CallT} (Q : StOk S) (M : MdOk S tabs mg) : BodyOk S P w mg base d C 38 c38 := by
  obtain ⟨K, F, rfl⟩ := Q
  exact body_s (b := n38.stmts) M (by kernel_rfl) fun cl f c A outer s H E T L0 => (r_sc T (r_set T (r_gt T (r_gs T (r_gc T) (r_gs T (r_gv T) (r_gn T)))) (r_cal true T (r_cons T (r_ix T (r_var T) (r_int T)) (r_cons T (r_ix T (r_var T) (r_int T)) (r_nil T)))))
    (r_sc T (r_ret T (r_tup T (r_cons T (r_cel T) (r_cons T (r_tup T (r_cons T (r_bin .mod T (r_bin .add T (r_cel T) (r_int T)) (r_fre T)) (r_cons T (r_tuple T (r_cons T (r_lc [("place", 4), ("mark", 5)] T (r_ite T (r_var T)) fun _ _ _ T => ⟨(r_gt T (r_gs T (r_gv T) (r_gs T (r_gv T) (r_gn T)))), (r_t0 T), (r_or T (r_var T) (r_one T (r_cmp .eq T (r_var T) (r_cel T))))⟩) (r_nil T))) (r_nil T)))) (r_nil T)))))
    (r_sn T)))
theorem b39 {S : Stat} {P : Program} {w : World} {mg : Str → Option Value} {base : Heap} {d : Nat} {C : CallT} (Q : StOk S) (M : MdOk S tabs mg) : BodyOk S P w mg base d C 39 c39 := by
  obtain ⟨K, F, rfl⟩ := Q
  exact body_e (e := n39.expr) M (by kernel_rfl) rfl fun cl f c A outer s H E T L0 => (r_tup T (r_cons T (r_ix T (r_var T) (r_neg T (r_int T))) (r_cons T (r_bin .add T (r_lst T (r_cons T (r_ix T (r_var T) (r_neg T (r_int T))) (r_nil T))) (r_sl T (r_var T) (r_on T) (r_os T (r_neg T (r_int T))))) (r_nil T))))
theorem b40 {S : Stat} {P : Program} {w : World} {mg : Str → Option Value} {base : Heap} {d : Nat} {C : CallT} (Q : StOk S) (M : MdOk S tabs mg) : BodyOk S P w mg base d C 40 c40 := by
  obtain ⟨K, F, rfl⟩ := Q
  exact body_e (e := n40.expr) M (by kernel_rfl) rfl fun cl f c A outer s H E T L0 => (r_bin .add T (r_lst T (r_cons T (r_cel T) (r_nil T))) (r_lc [("one", 2)] T (r_itv T (r_var T)) fun _ _ _ T => ⟨(r_gv T), (r_t1 T (b_cmp .ne T (r_var T) (r_cel T))), (r_var T)⟩))
theorem b41 {S : Stat} {P : Program} {w : World} {mg : Str → Option Value} {base : Heap} {d : Nat} {C : CallT} (Q : StOk S) (M : MdOk S tabs mg) : BodyOk S P w mg base d C 41 c41 := by
  obtain ⟨K, F, rfl⟩ := Q
  exact body_e (e := n41.expr) M (by kernel_rfl) rfl fun cl f c A outer s H E T L0 => (r_tup T (r_cons T (r_var T) (r_cons T (r_ife T (b_cmp .eq T (r_var T) (r_bin .sub T (r_fre T) (r_int T))) (r_int T) (r_bin .add T (r_var T) (r_int T))) (r_nil T))))
theorem b42 {S : Stat} {P : Program} {w : World} {mg : Str → Option Value} {base : Heap} {d : Nat} {C : CallT} (Q : StOk S) (M : MdOk S tabs mg) : BodyOk S P w mg base d C 42 c42 := by
  obtain ⟨K, F, rfl⟩ := Q
  exact body_e (e := n42.expr) M (by kernel_rfl) rfl fun cl f c A outer s H E T L0 => (r_var T)
theorem b43 {S : Stat} {P : Program} {w : World} {mg : Str → Option Value} {base : Heap} {d : Nat} {C : CallT} (Q : StOk S) (M : MdOk S tabs mg) : BodyOk S P w mg base d C 43 c43 := by
  obtain ⟨K, F, rfl⟩ := Q
  exact body_s (b := n43.stmts) M (by kernel_rfl) fun cl f c A outer s H E T L0 => (r_sc T (r_set T (r_gv T) (r_min T (r_cons T (r_lc [("way", 3)] T (r_itr T (r_fre T)) fun _ _ _ T => ⟨(r_gv T), (r_t1 T (b_cmp .nin T (r_var T) (r_ix T (r_cel T) (r_int T)))), (r_var T)⟩) (r_nil T))))
    (r_sc T (r_ret T (r_tup T (r_cons T (r_var T) (r_cons T (r_cal false T (r_cons T (r_cel T) (r_cons T (r_var T) (r_nil T)))) (r_nil T)))))
    (r_sn T)))
theorem b44 {S : Stat} {P : Program} {w : World} {mg : Str → Option Value} {base : Heap} {d : Nat} {C : CallT} (Q : StOk S) (M : MdOk S tabs mg) : BodyOk S P w mg base d C 44 c44 := by
  obtain ⟨K, F, rfl⟩ := Q
  exact body_s (b := n44.stmts) M (by kernel_rfl) fun cl f c A outer s H E T L0 => (r_sc T (r_set T (r_gc T) (r_ix T (r_fre T) (r_var T)))
    (r_sc T (r_ret T (r_lc [("node", 4), ("side", 5)] T (r_itv T (r_var T)) fun _ _ _ T => ⟨(r_gt T (r_gs T (r_gv T) (r_gs T (r_gv T) (r_gn T)))), (r_t0 T), (r_tup T (r_cons T (r_var T) (r_cons T (r_ife T (b_cmp .eq T (r_sl T (r_cel T) (r_on T) (r_os T (r_len T (r_cons T (r_var T) (r_nil T))))) (r_var T)) (r_ife T (b_cmp .eq T (r_ix T (r_cel T) (r_len T (r_cons T (r_var T) (r_nil T)))) (r_str T)) (r_str T) (r_str T)) (r_var T)) (r_nil T))))⟩))
    (r_sn T)))
theorem b45 {S : Stat} {P : Program} {w : World} {mg : Str → Option Value} {base : Heap} {d : Nat} {C : CallT} (Q : StOk S) (M : MdOk S tabs mg) : BodyOk S P w mg base d C 45 c45 := by
  obtain ⟨K, F, rfl⟩ := Q
  exact body_s (b := n45.stmts) M (by kernel_rfl) fun cl f c A outer s H E T L0 => (r_sc T (r_par T (r_str T) (r_dict T (r_cons T (r_var T) (r_nil T))))
    (r_sc T (r_whl T (b_cmp .inn T (r_var T) (r_var T)) (r_sc T (r_set T (r_gv T) (r_bin .add T (r_var T) (r_ix T (r_var T) (r_var T))))
    (r_sn T)))
    (r_sc T (r_ret T (r_tup T (r_cons T (r_mt .index T (r_fre T) (r_cons T (r_var T) (r_nil T))) (r_cons T (r_cav false T (r_fre T) (r_cons T (r_var T) (r_cons T (r_mt .index T (r_fre T) (r_cons T (r_var T) (r_nil T))) (r_nil T)))) (r_nil T)))))
    (r_sn T))))
theorem b46 {S : Stat} {P : Program} {w : World} {mg : Str → Option Value} {base : Heap} {d : Nat} {C : CallT} (Q : StOk S) (M : MdOk S tabs mg) : BodyOk S P w mg base d C 46 c46 := by
  obtain ⟨K, F, rfl⟩ := Q
  exact body_s (b := n46.stmts) M (by kernel_rfl) fun cl f c A outer s H E T L0 => (r_sc T (r_ret T (r_tup T (r_cons T (r_ix T (r_var T) (r_int T)) (r_cons T (r_srs T (r_bin .add T (r_ix T (r_var T) (r_int T)) (r_lst T (r_cons T (r_var T) (r_nil T))))) (r_nil T)))))
    (r_sn T))
theorem b47 {S : Stat} {P : Program} {w : World} {mg : Str → Option Value} {base : Heap} {d : Nat} {C : CallT} (Q : StOk S) (M : MdOk S tabs mg) : BodyOk S P w mg base d C 47 c47 := by
  obtain ⟨K, F, rfl⟩ := Q
  exact body_s (b := n47.stmts) M (by kernel_rfl) fun cl f c A outer s H E T L0 => (r_sc T (r_set T (r_gt T (r_gs T (r_gc T) (r_gs T (r_gv T) (r_gn T)))) (r_var T))
    (r_sc T (r_whl T (b_cmp .inn T (r_cel T) (r_var T)) (r_sc T (r_setLc [("way", 4)] T (r_itv T (r_var T)) fun _ _ _ T => ⟨(r_gv T), (r_t1 T (b_cmp .ne T (r_var T) (r_cel T))), (r_var T)⟩)
    (r_sc T (r_set T (r_gc T) (r_ife T (b_cmp .eq T (r_cel T) (r_bin .sub T (r_fre T) (r_int T))) (r_int T) (r_bin .add T (r_cel T) (r_int T))))
    (r_sn T))))
    (r_sc T (r_ret T (r_tup T (r_cons T (r_cel T) (r_cons T (r_tup T (r_cons T (r_ife T (b_cmp .eq T (r_cel T) (r_bin .sub T (r_fre T) (r_int T))) (r_int T) (r_bin .add T (r_cel T) (r_int T))) (r_cons T (r_sorted T (r_cons T (r_bin .add T (r_var T) (r_lst T (r_cons T (r_cel T) (r_nil T)))) (r_nil T))) (r_nil T)))) (r_nil T)))))
    (r_sn T))))
theorem b48 {S : Stat} {P : Program} {w : World} {mg : Str → Option Value} {base : Heap} {d : Nat} {C : CallT} (Q : StOk S) (M : MdOk S tabs mg) : BodyOk S P w mg base d C 48 c48 := by
  obtain ⟨K, F, rfl⟩ := Q
  exact body_e (e := n48.expr) M (by kernel_rfl) rfl fun cl f c A outer s H E T L0 => (r_cav true T (r_fre T) (r_cons T (r_fre T) (r_nil T)))
theorem bodies (K : PySem.W.Frag) (F : Hp) (w : World) (mg : Str → Option Value) (base : Heap) (d k : Nat) (cd : Code) (M : MdOk ((stOf K).wF F) tabs mg) (e : codes[k]? = some cd) : CodeOk ((stOf K).cs k) cd ∧ BodyOk ((stOf K).wF F) PG w mg base d (callF codes d) k cd := by
  have Q : StOk ((stOf K).wF F) := ⟨K, F, rfl⟩
  match k, e with
  | 0, e =>
    obtain rfl : c0 = cd := Option.some.inj e
    exact ⟨code_by (by kernel_rfl), b0 Q M⟩
  | 1, e =>
    obtain rfl : c1 = cd := Option.some.inj e
    exact ⟨code_by (by kernel_rfl), b1 Q M⟩
  | 2, e =>
    obtain rfl : c2 = cd := Option.some.inj e
    exact ⟨code_by (by kernel_rfl), b2 Q M⟩
  | 3, e =>
    obtain rfl : c3 = cd := Option.some.inj e
    exact ⟨code_by (by kernel_rfl), b3 Q M⟩
  | 4, e =>
    obtain rfl : c4 = cd := Option.some.inj e
    exact ⟨code_by (by kernel_rfl), b4 Q M⟩
  | 5, e =>
    obtain rfl : c5 = cd := Option.some.inj e
    exact ⟨code_by (by kernel_rfl), b5 Q M⟩
  | 6, e =>
    obtain rfl : c6 = cd := Option.some.inj e
    exact ⟨code_by (by kernel_rfl), b6 Q M⟩
  | 7, e =>
    obtain rfl : c7 = cd := Option.some.inj e
    exact ⟨code_by (by kernel_rfl), b7 Q M⟩
  | 8, e =>
    obtain rfl : c8 = cd := Option.some.inj e
    exact ⟨code_by (by kernel_rfl), b8 Q M⟩
  | 9, e =>
    obtain rfl : c9 = cd := Option.some.inj e
    exact ⟨code_by (by kernel_rfl), b9 Q M⟩
  | 10, e =>
    obtain rfl : c10 = cd := Option.some.inj e
    exact ⟨code_by (by kernel_rfl), b10 Q M⟩
  | 11, e =>
    obtain rfl : c11 = cd := Option.some.inj e
    exact ⟨code_by (by kernel_rfl), b11 Q M⟩
  | 12, e =>
    obtain rfl : c12 = cd := Option.some.inj e
    exact ⟨code_by (by kernel_rfl), b12 Q M⟩
  | 13, e =>
    obtain rfl : c13 = cd := Option.some.inj e
    exact ⟨code_by (by kernel_rfl), b13 Q M⟩
  | 14, e =>
    obtain rfl : c14 = cd := Option.some.inj e
    exact ⟨code_by (by kernel_rfl), b14 Q M⟩
  | 15, e =>
    obtain rfl : c15 = cd := Option.some.inj e
    exact ⟨code_by (by kernel_rfl), b15 Q M⟩
  | 16, e =>
    obtain rfl : c16 = cd := Option.some.inj e
    exact ⟨code_by (by kernel_rfl), b16 Q M⟩
  | 17, e =>
    obtain rfl : c17 = cd := Option.some.inj e
    exact ⟨code_by (by kernel_rfl), b17 Q M⟩
  | 18, e =>
    obtain rfl : c18 = cd := Option.some.inj e
    exact ⟨code_by (by kernel_rfl), b18 Q M⟩
  | 19, e =>
    obtain rfl : c19 = cd := Option.some.inj e
    exact ⟨code_by (by kernel_rfl), b19 Q M⟩
  | 20, e =>
    obtain rfl : c20 = cd := Option.some.inj e
    exact ⟨code_by (by kernel_rfl), b20 Q M⟩
  | 21, e =>
    obtain rfl : c21 = cd := Option.some.inj e
    exact ⟨code_by (by kernel_rfl), b21 Q M⟩
  | 22, e =>
    obtain rfl : c22 = cd := Option.some.inj e
    exact ⟨code_by (by kernel_rfl), b22 Q M⟩
  | 23, e =>
    obtain rfl : c23 = cd := Option.some.inj e
    exact ⟨code_by (by kernel_rfl), b23 Q M⟩
  | 24, e =>
    obtain rfl : c24 = cd := Option.some.inj e
    exact ⟨code_by (by kernel_rfl), b24 Q M⟩
  | 25, e =>
    obtain rfl : c25 = cd := Option.some.inj e
    exact ⟨code_by (by kernel_rfl), b25 Q M⟩
  | 26, e =>
    obtain rfl : c26 = cd := Option.some.inj e
    exact ⟨code_by (by kernel_rfl), b26 Q M⟩
  | 27, e =>
    obtain rfl : c27 = cd := Option.some.inj e
    exact ⟨code_by (by kernel_rfl), b27 Q M⟩
  | 28, e =>
    obtain rfl : c28 = cd := Option.some.inj e
    exact ⟨code_by (by kernel_rfl), b28 Q M⟩
  | 29, e =>
    obtain rfl : c29 = cd := Option.some.inj e
    exact ⟨code_by (by kernel_rfl), b29 Q M⟩
  | 30, e =>
    obtain rfl : c30 = cd := Option.some.inj e
    exact ⟨code_by (by kernel_rfl), b30 Q M⟩
  | 31, e =>
    obtain rfl : c31 = cd := Option.some.inj e
    exact ⟨code_by (by kernel_rfl), b31 Q M⟩
  | 32, e =>
    obtain rfl : c32 = cd := Option.some.inj e
    exact ⟨code_by (by kernel_rfl), b32 Q M⟩
  | 33, e =>
    obtain rfl : c33 = cd := Option.some.inj e
    exact ⟨code_by (by kernel_rfl), b33 Q M⟩
  | 34, e =>
    obtain rfl : c34 = cd := Option.some.inj e
    exact ⟨code_by (by kernel_rfl), b34 Q M⟩
  | 35, e =>
    obtain rfl : c35 = cd := Option.some.inj e
    exact ⟨code_by (by kernel_rfl), b35 Q M⟩
  | 36, e =>
    obtain rfl : c36 = cd := Option.some.inj e
    exact ⟨code_by (by kernel_rfl), b36 Q M⟩
  | 37, e =>
    obtain rfl : c37 = cd := Option.some.inj e
    exact ⟨code_by (by kernel_rfl), b37 Q M⟩
  | 38, e =>
    obtain rfl : c38 = cd := Option.some.inj e
    exact ⟨code_by (by kernel_rfl), b38 Q M⟩
  | 39, e =>
    obtain rfl : c39 = cd := Option.some.inj e
    exact ⟨code_by (by kernel_rfl), b39 Q M⟩
  | 40, e =>
    obtain rfl : c40 = cd := Option.some.inj e
    exact ⟨code_by (by kernel_rfl), b40 Q M⟩
  | 41, e =>
    obtain rfl : c41 = cd := Option.some.inj e
    exact ⟨code_by (by kernel_rfl), b41 Q M⟩
  | 42, e =>
    obtain rfl : c42 = cd := Option.some.inj e
    exact ⟨code_by (by kernel_rfl), b42 Q M⟩
  | 43, e =>
    obtain rfl : c43 = cd := Option.some.inj e
    exact ⟨code_by (by kernel_rfl), b43 Q M⟩
  | 44, e =>
    obtain rfl : c44 = cd := Option.some.inj e
    exact ⟨code_by (by kernel_rfl), b44 Q M⟩
  | 45, e =>
    obtain rfl : c45 = cd := Option.some.inj e
    exact ⟨code_by (by kernel_rfl), b45 Q M⟩
  | 46, e =>
    obtain rfl : c46 = cd := Option.some.inj e
    exact ⟨code_by (by kernel_rfl), b46 Q M⟩
  | 47, e =>
    obtain rfl : c47 = cd := Option.some.inj e
    exact ⟨code_by (by kernel_rfl), b47 Q M⟩
  | 48, e =>
    obtain rfl : c48 = cd := Option.some.inj e
    exact ⟨code_by (by kernel_rfl), b48 Q M⟩
  | k + 49, e => cases e
end MP
namespace MP
def slOf : Res (Fl × SL) → SL
  | .ok (_, σ) _ => σ
  | _ => []
theorem nx_ok {r : Res (Fl × SL)} (h : nxB r = true) : r = .ok (.nx, slOf r) (heapOf r) := by
  cases r with
  | ok a g =>
    obtain ⟨fl, σ⟩ := a
    cases fl with
    | nx => rfl
    | _ => cases h
  | exn k g => cases h
  | stuck => cases h
noncomputable abbrev M0 (o0 o1 o2 o3 : GO) : Res (Fl × SL) := mid (orc (callF codes 40)) s2 (H4 o0 o1 o2 o3)
theorem mid_ok (o0 o1 o2 o3 : GO) : nxB (M0 o0 o1 o2 o3) = true := by kernel_rfl
theorem mid_1 (o0 o1 o2 o3 : GO) : (heapOf (M0 o0 o1 o2 o3)).t.get 1 = some o1 := by kernel_rfl
theorem mid_2 (o0 o1 o2 o3 : GO) : (heapOf (M0 o0 o1 o2 o3)).t.get 2 = some o2 := by kernel_rfl
theorem mid_3 (o0 o1 o2 o3 : GO) : (heapOf (M0 o0 o1 o2 o3)).t.get 3 = some o3 := by kernel_rfl
theorem mid_s (o0 o1 o2 o3 : GO) : (Nat.ble 4 (heapOf (M0 o0 o1 o2 o3)).size && Nat.ble (heapOf (M0 o0 o1 o2 o3)).size 900000) = true := by kernel_rfl
theorem mid_v (o0 o1 o2 o3 : GO) : slot (slOf (M0 o0 o1 o2 o3)) 1 = some (.loc 2) := by kernel_rfl
theorem mid_v2 (o0 o1 o2 o3 : GO) (a b : LV) : slot (((slOf (M0 o0 o1 o2 o3)).set 3 (some a)).set 5 (some b)) 1 = some (.loc 2) := by kernel_rfl
def rtB : Res (Fl × SL) → Bool
  | .ok (.rt (.bl true), _) _ => true
  | _ => false
theorem rt_ok {r : Res (Fl × SL)} (h : rtB r = true) : ∃ σ g, r = .ok (.rt (.bl true), σ) g := by
  unfold rtB at h
  split at h
  · exact ⟨_, _, rfl⟩
  · cases h
def nms4 : List LV := [.str [108, 114, 117], .str [102, 105, 102, 111], .str [109, 97, 114, 107], .str [99, 108, 111, 99, 107]]
def rest3 : T := tlT (tlT (tlT c30.body))
noncomputable def endR (o0 o1 o2 o3 : GO) (as : List GO) (r t : Int) (L : List Int) (x : LV) (w : Int) : Res (Fl × SL) :=
  (den (hdT (tlT rest3))).s (orc (callF codes 40)) (((slOf (M0 o0 o1 o2 o3)).set 3 (some x)).set 5 (some (.int (1 + w)))) (wr (al (heapOf (M0 o0 o1 o2 o3)) as) r t L)
noncomputable def endB (o0 o1 o2 o3 : GO) (as : List GO) (r t : Int) (L : List Int) : Bool := nms4.all fun x => rtB (endR o0 o1 o2 o3 as r t L x 0) && (rtB (endR o0 o1 o2 o3 as r t L x 1) && (rtB (endR o0 o1 o2 o3 as r t L x 2) && rtB (endR o0 o1 o2 o3 as r t L x 3)))
theorem end_1 (o0 o1 o2 o3 a0 : GO) (r t : Int) (L : List Int) : endB o0 o1 o2 o3 [a0] r t L = true := by kernel_rfl
theorem end_2 (o0 o1 o2 o3 a0 a1 : GO) (r t : Int) (L : List Int) : endB o0 o1 o2 o3 [a0, a1] r t L = true := by kernel_rfl
theorem end_3 (o0 o1 o2 o3 a0 a1 a2 : GO) (r t : Int) (L : List Int) : endB o0 o1 o2 o3 [a0, a1, a2] r t L = true := by kernel_rfl
theorem end_4 (o0 o1 o2 o3 a0 a1 a2 a3 : GO) (r t : Int) (L : List Int) : endB o0 o1 o2 o3 [a0, a1, a2, a3] r t L = true := by kernel_rfl
theorem end_5 (o0 o1 o2 o3 a0 a1 a2 a3 a4 : GO) (r t : Int) (L : List Int) : endB o0 o1 o2 o3 [a0, a1, a2, a3, a4] r t L = true := by kernel_rfl
theorem end_all (o0 o1 o2 o3 : GO) (as : List GO) (r t : Int) (L : List Int) (h1 : 1 ≤ as.length) (h5 : as.length ≤ 5) : endB o0 o1 o2 o3 as r t L = true := by
  match as, h1, h5 with
  | [a], _, _ => exact end_1 ..
  | [a, b], _, _ => exact end_2 ..
  | [a, b, c], _, _ => exact end_3 ..
  | [a, b, c, d], _, _ => exact end_4 ..
  | [a, b, c, d, e], _, _ => exact end_5 ..
  | _ :: _ :: _ :: _ :: _ :: _ :: r, _, h => exact absurd h (by simp)
theorem seq_mid {C : CallT} {σ σ' : SL} {g g' : GH} (h : mid C σ g = .ok (.nx, σ') g') : (den (tlT c30.body)).s C σ g = (den rest3).s C σ' g' := by
  have e : (den (tlT c30.body)).s C σ g = (mid C σ g).bind fun r g => match r with
      | (.nx, σ) => (den rest3).s C σ g
      | r => .ok r g := by
    show ((den (hdT (tlT c30.body))).s C σ g).bind (fun r g => match r with | (.nx, σ) => ((den (hdT (tlT (tlT c30.body)))).s C σ g).bind (fun r g => match r with | (.nx, σ) => (den rest3).s C σ g | r => .ok r g) | r => .ok r g) = _
    unfold mid
    generalize (den (hdT (tlT c30.body))).s C σ g = r1
    cases r1 with
    | ok a g1 =>
      obtain ⟨fl, σ1⟩ := a
      cases fl <;> rfl
    | exn k g1 => rfl
    | stuck => rfl
  rw [e, h, bd]
theorem plain (ns : List Int) (h : ns.length ≤ 63) : ∃ G, callF codes 41 30 [] [.loc 0] (g0 ns) = .ok (.bl true) G := by
  obtain ⟨L, Cl, hL, hCl, e1⟩ := begun_run (cs := codes) (n := 39) (k := 16) (ns := ns) rfl h
  have first : callF codes 41 30 [] [.loc 0] (g0 ns) = retC [] ((den c30.body).s (callF codes 40) s0 (G1 ns)) := call2 (c := c30) (g1 := G1 ns) (σ1 := s0) rfl rfl rfl rfl
  rw [first]
  have hs1 : (den (hdT c30.body)).s (callF codes 40) s0 (G1 ns) = .ok (.nx, s2) (HC ns L Cl) := st_asg (ev_cal (ev_one (x := .loc 0) (g1 := G1 ns) rfl) e1) rfl
  have hb : (den c30.body).s (callF codes 40) s0 (G1 ns) = (den (tlT c30.body)).s (callF codes 40) s2 (HC ns L Cl) := sq hs1 rfl
  rw [hb]
  -- the closed middle
  have hH : HC ns L Cl = H4 (.fro (ns.map LV.int)) (.lst (L.map LV.int)) (.dic (DD 0 0)) (.lst (Cl.map LV.int)) := rfl
  have hm := nx_ok (mid_ok (.fro (ns.map LV.int)) (.lst (L.map LV.int)) (.dic (DD 0 0)) (.lst (Cl.map LV.int)))
  have g1 := mid_1 (.fro (ns.map LV.int)) (.lst (L.map LV.int)) (.dic (DD 0 0)) (.lst (Cl.map LV.int))
  have g2 := mid_2 (.fro (ns.map LV.int)) (.lst (L.map LV.int)) (.dic (DD 0 0)) (.lst (Cl.map LV.int))
  have g3 := mid_3 (.fro (ns.map LV.int)) (.lst (L.map LV.int)) (.dic (DD 0 0)) (.lst (Cl.map LV.int))
  have gs := mid_s (.fro (ns.map LV.int)) (.lst (L.map LV.int)) (.dic (DD 0 0)) (.lst (Cl.map LV.int))
  have gv := mid_v (.fro (ns.map LV.int)) (.lst (L.map LV.int)) (.dic (DD 0 0)) (.lst (Cl.map LV.int))
  have ga := fun as r t L' => end_all (.fro (ns.map LV.int)) (.lst (L.map LV.int)) (.dic (DD 0 0)) (.lst (Cl.map LV.int)) as r t L'
  unfold endB endR at ga
  unfold M0 at hm g1 g2 g3 gs gv ga
  rw [orc_eq] at hm g1 g2 g3 gs gv ga
  rw [← hH] at hm g1 g2 g3 gs gv ga
  rw [seq_mid hm]
  generalize slOf (mid (callF codes 40) s2 (HC ns L Cl)) = σ5 at gv ga ⊢
  generalize heapOf (mid (callF codes 40) s2 (HC ns L Cl)) = g5 at g1 g2 g3 gs ga ⊢
  rw [Bool.and_eq_true] at gs
  have z4 : 4 ≤ g5.size := Nat.le_of_ble_eq_true gs.1
  have z9 : g5.size ≤ 900000 := Nat.le_of_ble_eq_true gs.2
  have D5 : Dr g5 0 0 L Cl := ⟨g2, g1, g3, z4, by omega, hL, hCl⟩
  have D6 : Dr (al g5 [.lst nms4]) 0 0 L Cl := al_dr D5 (by simp; omega)
  have s6 : (al g5 [.lst nms4]).size = g5.size + 1 := (al_size [.lst nms4] g5).1
  obtain ⟨i, hi, r1, t1, L1, as1, a1, l1, e2⟩ := pick_run (cs := codes) (n := 37) (k := 19) (kt := 18) (km := 17) rfl rfl rfl D6 (al1_get (g := g5) (o := .lst nms4) (by omega)) z4 (by omega) (show 0 < nms4.length by decide) (by decide) (by omega)
  have D7 : Dr (wr (al (al g5 [.lst nms4]) as1) r1 t1 L1) r1 t1 L1 Cl := wr_dr (al_dr D6 (by omega)) l1
  obtain ⟨s71, _, _⟩ := al_size as1 (al g5 [.lst nms4])
  have s7 : (wr (al (al g5 [.lst nms4]) as1) r1 t1 L1).size = g5.size + 1 + as1.length := by rw [wr_size, s71, s6]
  obtain ⟨v, r2, t2, L2, as2, v0, v4, a2, l2, e3⟩ := take_run (cs := codes) (n := 38) (k := 18) (km := 17) rfl rfl D7 (a := 4) (by omega) (by omega) (by omega)
  have hheap : wr (al (wr (al (al g5 [.lst nms4]) as1) r1 t1 L1) as2) r2 t2 L2 = wr (al g5 ([.lst nms4] ++ as1 ++ as2)) r2 t2 L2 := by
    have D61 : Dr (al (al g5 [.lst nms4]) as1) 0 0 L Cl := al_dr D6 (by omega)
    rw [al_wr2 D61.s4, wr_wr, al_app, al_app]
  rw [hheap] at e3
  have hx : nms4[i] ∈ nms4 := List.getElem_mem hi
  -- the fourth statement
  have k4 : (den (hdT rest3)).s (callF codes 40) σ5 g5 = .ok (.nx, (σ5.set 3 (some nms4[i])).set 5 (some (.int (1 + v)))) (wr (al g5 ([.lst nms4] ++ as1 ++ as2)) r2 t2 L2) := by
    have v1 : (den (.var 1)).e (callF codes 40) σ5 g5 = .ok (.loc 2) g5 := by rw [d_var, gv]; rfl
    have v2 : ∀ g, (den (.var 1)).e (callF codes 40) σ5 g = .ok (.loc 2) g := fun g => by rw [d_var, gv]; rfl
    refine st_asg (v := .tup [nms4[i], .int (1 + v)]) (g1 := wr (al g5 ([.lst nms4] ++ as1 ++ as2)) r2 t2 L2) (ev_tup (ev_cons (ev_cal (ev_cons v1 (ev_one (ev_lst (g1 := g5) (vs := nms4) rfl rfl (by omega)))) e2) (ev_one (ev_bin rfl (ev_cal (ev_cons (v2 _) (ev_one rfl)) e3) sb_add))) rfl) rfl
  have k5 : ∃ σ' G', (den (hdT (tlT rest3))).s (callF codes 40) ((σ5.set 3 (some nms4[i])).set 5 (some (.int (1 + v)))) (wr (al g5 ([.lst nms4] ++ as1 ++ as2)) r2 t2 L2) = .ok (.rt (.bl true), σ') G' := by
    have q := List.all_eq_true.mp (ga ([.lst nms4] ++ as1 ++ as2) r2 t2 L2 (by simp) (by simp; omega)) _ hx
    simp only [Bool.and_eq_true] at q
    obtain ⟨q0, q1, q2, q3⟩ := q
    have : v = 0 ∨ v = 1 ∨ v = 2 ∨ v = 3 := by omega
    rcases this with rfl | rfl | rfl | rfl
    · exact rt_ok q0
    · exact rt_ok q1
    · exact rt_ok q2
    · exact rt_ok q3
  obtain ⟨σ', G', k5⟩ := k5
  have fin : (den rest3).s (callF codes 40) σ5 g5 = .ok (.rt (.bl true), σ') G' := sq k4 (sq_rt k5)
  rw [fin]
  exact ⟨_, rfl⟩
end MP
namespace MP
open PySem PySem.Spec L2
open PyProof.Rows hiding St

abbrev RL0 : PySem.W.OpenLaw := PySem.Challenge.rw_everypolicy_k00_made_policies
abbrev RR : PySem.W.OpenRow := PySem.W.OpenLaw.row RL0
def LIX : Nat := 38
abbrev hk0 : PySem.W.Hook := He.hookX 4 TX.facts TX.defs [] TX.tf TX.more
def ob0 (s : PySem.W.SharedT) : He.AlX := He.obsX 4 TX.facts TX.defs [] TX.tf TX.more (HandSHeadRun.getT s)
theorem ob0_eq (s : PySem.W.SharedT) : ob0 s = hk0.obs s.abs := He.obsX_eq (HandSHeadRun.getT_eq s)
def lo0 : List PySem.Str := ["MissError", "BadWays", "is_integer", "MOST_POLICY_WAYS", "MOST_ROWS", "is_from_to", "is_row", "is_policy", "need_policy_ways", "made", "moved_first", "lru_policy", "fifo_policy", "marked", "mark_policy", "tree_way", "tree_behind", "tree_policy", "swept", "clock_policy", "_law_begun", "_law_mixed", "_law_take", "_law_pick", "_law_caught", "_law_says", "_law_met", "_law_lru", "_law_fifo", "_law_mark_of"]
def lo1 : List PySem.Str := ["_law_mark", "_law_tree", "_law_clock", "_law_made"]
def loose : List PySem.Str := lo0 ++ lo1
theorem run0 (w : World) : HandSHeadRun.RunEq RR (PySem.W.view RR.prog [38]) hk0 ob0 6000 loose w := by
  intro os
  kernel_rfl
theorem tx_ok : TX.okB = true := by decide +kernel
theorem room0 : Room 42 callerA := ⟨rfl, by decide +kernel, by decide +kernel⟩
end MP

set_option maxHeartbeats 0
open PySem PyProof.Rows PySem.Calls PySem.W
theorem PySem.Challenge.cw_everypolicy_k00_made_policies_holds : PySem.Challenge.rw_everypolicy_k00_made_policies.Holds := by
  w_on; o_law
  refine HandSHeadRun.head_any (r := OpenLaw.row PySem.Challenge.rw_everypolicy_k00_made_policies) (q := view (OpenLaw.row PySem.Challenge.rw_everypolicy_k00_made_policies).prog [38]) (H := MP.hk0) (ob := MP.ob0) (M := 6000) (loose := MP.loose) (d := HandSHeadRun.topDef (OpenLaw.row PySem.Challenge.rw_everypolicy_k00_made_policies).prog 38) (kwd := []) MP.ob0_eq (by kernel_rfl) (fun s => by kernel_rfl) MP.run0 (by kernel_rfl) (by kernel_rfl) (by kernel_rfl) (by rfl) (by first | assumption | decide +kernel) (by decide +kernel) ⟨rfl, rfl, rfl, rfl, rfl, by decide +kernel⟩ ?hw ?hc
  case hw => w_witness2
  case hc => exact MP.walk_mp (l := PySem.Challenge.rw_everypolicy_k00_made_policies) (t := MP.TX) (cs := MP.codes) (k := 30) (d := 41) (n := 63) rfl (by decide +kernel) (by kernel_rfl) MP.tx_ok (by decide +kernel) (by kernel_rfl) MP.room0 (fun K F w mg base d k cd M e => MP.bodies K F w mg base d k cd M e) MP.plain

