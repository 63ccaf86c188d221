import PyProof.Rows.All
import Wide.All
import OpenK.AllK
import Wide.FinOn
import HandS.ForMost
import HandS.Style
import HandS.Rev
import PyProof.ListNew
import HandS.ForExc
import HandS.Wide
import HandS.WideBits
import HandS.IsInst
import HandS.Defaults
import HandS.Small
import HandS.ExcValue
import HandS.ExcIs
import HandS.Deep
import HandS.SuiteRaise
import HandS.RaiseFrom
import HandS.Zip
import HandS.TryOnly
import HandS.More
import HandS.Head0
import HandS.Head1
import HandS.Head2
import HandS.HeadEnd
import HandS.HeadHook1
import HandS.HeadHook2
import KE.KIntText
import KE.IntText
import PyProof.Rows.StrOr
import KE.GoesRaise
import HandS.Flow
import PySem.Challenge.RW_oneleash_k57_fractions_misread
set_option Elab.async false
set_option linter.all false
set_option maxRecDepth 100000
set_option maxHeartbeats 0
set_option exponentiation.threshold 20000
/-! list(reversed(a list)) -/
namespace OL
open PySem PySem.Spec PyProof.Rows L2
section
variable {prog : Program} {w : World} {A : Around} {E : Value → Shared → Prop} {s : Shared}
theorem call_list_rev {it l : Addr} {items : Array Value} {Q : Value → Shared → Prop} (hh : A.handled = none) (hit : s.heap.IsRevIter it l ((items.size : Int) - 1)) (hl : s.heap.IsList l items) (hne : l ≠ it) (hn : items.size ≤ sizeLine)
    (hQ : ∀ (h' : Heap) (tk : Nat) (acc : Array Value) (c : Nat), (∀ b o, b ≠ it → s.heap.get? b = some o → h'.get? b = some o) → h'.get? s.heap.objs.size = some { cls := .type "list", dict := none, data := .seq acc c, slots := #[] } → ItemsOf (fun i v => items[items.size - 1 - i]? = some v) acc items.size →
      Q (.ref s.heap.objs.size) { s with heap := h', toks := tk }) :
    wpAny (model prog w) A (call (.type "list") [.ref it]) Q E s := by
  have W := (Walks.listRev (prog := prog) (w := w) (A := A.in1.in1) hh it l hne items).toS
  obtain ⟨oi, hoi, _⟩ := id hit
  obtain ⟨ol, hol, _⟩ := id hl
  have hSi : s.heap.objs.size ≠ it := Nat.ne_of_gt (Heap.lt_size hoi)
  have hSl : s.heap.objs.size ≠ l := Nat.ne_of_gt (Heap.lt_size hol)
  have hSf : s.heap.objs.size ∉ [it, l] := by simp only [List.mem_cons, List.not_mem_nil, or_false, not_or]; exact ⟨hSi, hSl⟩
  refine callType_codes (Q₁ := fun obj s₁ => obj = .ref s.heap.objs.size ∧ s₁ = { s with heap := s.heap.push { cls := .type "list", data := .seq #[] } }) F.called_list (F.typeCall_list_1 _) F.entry_list_init
    (code_list_new _ ⟨rfl, rfl⟩) fun obj s₁ h₁ => ?_
  obtain ⟨rfl, rfl⟩ := h₁
  have hS : (s.heap.push { cls := .type "list", data := .seq #[] }).get? s.heap.objs.size = some { cls := .type "list", data := .seq #[] } := Heap.get?_push_size _ rfl
  refine ⟨⟨_, hS, rfl⟩, F.args_list_init_2 _ _, ?_⟩
  show wpAny _ A.in1.in1 (do let old ← Builtin.List.listItems (.ref s.heap.objs.size); Builtin.List.listUpdate (.ref s.heap.objs.size) (fun _ => #[]); letGo old.toList.reverse; Builtin.List.listExtendWith (.ref s.heap.objs.size) (.ref it) .none) _ _ _
  refine wpAny_bind ?_
  unfold Builtin.List.listItems
  refine wpAny_bind (wpAny_seqItems hS rfl (wpAny_pure ?_))
  show wpAny _ A.in1.in1 (updateSeq s.heap.objs.size (fun _ => #[]) >>= fun _ => letGo (#[] : Array Value).toList.reverse >>= fun _ => Builtin.List.listExtendWith (.ref s.heap.objs.size) (.ref it) .none) _ _ _
  refine wpAny_bind (wpAny_updateSeq hS rfl ?_)
  have hS2 := Heap.get?_update_self (Obj.mapSeq (fun _ => (#[] : Array Value))) hS rfl
  refine wpAny_bind (wpAny_letGo ?_)
  have k2 : ∀ b o, s.heap.get? b = some o → ((s.heap.push { cls := .type "list", data := .seq #[] }).update s.heap.objs.size (Obj.mapSeq (fun _ => (#[] : Array Value)))).get? b = some o := fun b o e =>
    (Heap.get?_update_other _ _ (Ne.symm (Nat.ne_of_lt (Heap.lt_size e)))).trans (Heap.get?_push_of_some _ e)
  generalize hH : (s.heap.push { cls := .type "list", data := .seq #[] }).update s.heap.objs.size (Obj.mapSeq (fun _ => (#[] : Array Value))) = h2 at hS2 k2
  have hit1 : h2.IsRevIter it l ((items.size : Int) - 1) := hit.at fun o e => k2 _ o e
  have hl1 : h2.IsList l items := by
    obtain ⟨o, ho, r⟩ := hl
    exact ⟨o, k2 _ o ho, r⟩
  have hT : ({ s with heap := h2 } : Shared).TypeIs (.ref it) "list_reverseiterator" := Heap.IsRevIter.typeIs (s := { s with heap := h2 }) hit1
  have h1 : Builtin.List.listSameRef (.ref s.heap.objs.size) (.ref it) = false := by simp [Builtin.List.listSameRef, hSi]
  unfold Builtin.List.listExtendWith
  refine wpAny_bind (wpAny_typeOf hT ?_)
  rw [if_neg (by rw [h1]; decide)]
  refine wpAny_bind (wpAny_pyIter_revIter (s := { s with heap := h2 }) hit1 ?_)
  refine wpAny_bind (wpAny_holding ?_)
  unfold Builtin.List.listLengthHint
  refine wpAny_bind (wpAny_specialOf hT RT.nolen_lri ?_)
  show wpAny _ A.in1.in1 (specialOf (Value.ref it) (Str.ofString "__length_hint__") >>= _) _ _ _
  refine wpAny_bind (wpAny_specialOf hT RT.hint_lri ?_)
  generalize hid : ("list_reverseiterator.__length_hint__" : String) = id0
  wp_delta
  rw [show splitId id0 = some ("list_reverseiterator", "__length_hint__") from by subst hid; decide +kernel]
  subst hid
  refine wpAny_bind (wpAny_isInstance (b := true) hT (by rw [isSubtype_type]; kernel_rfl) ?_)
  refine wpAny_pure ?_
  rw [if_neg (by decide)]
  have e0 : ((items.size : Nat) : Int) - 1 - ((0 : Nat) : Int) = (items.size : Int) - 1 := by omega
  refine wpAny_pure ⟨plainId_quiet F.plain_extend_loop _, codeAny_extend_loopS W hn _ hSf _ items.size 0 _ _ _ rfl (Nat.zero_le _) ⟨Nat.zero_le _, by rw [e0]; exact hit1, hl1⟩ hS2 (ItemsOf.nil _) fun s' acc' c' hm hS' hacc => ?_⟩
  refine ⟨rfl, ?_⟩
  rw [Moved.eq_with hm]
  refine hQ s'.heap s'.toks acc' c' (fun b o hb e => hm.heap b o (fun hmem => ?_) (k2 b o e)) hS' hacc
  rcases List.mem_cons.mp hmem with e' | hmem
  · exact absurd (Heap.lt_size e) (by rw [e']; exact Nat.lt_irrefl _)
  · exact hb (List.mem_singleton.mp hmem)
end
section
variable {X : Cx}
theorem pe_lstRev {e : Expr} {te : TE} {p p2 pos pos2 : Pos} (hc : X.calm = true) (hg : Gl X "list") (hm : X.mg "list" = none) (hg2 : Gl X "reversed") (hm2 : X.mg "reversed" = none) (he : PE X e te)
    (hs : starEach [e] X.env = (false, eval e X.env) :: starEach [] X.env := by rfl)
    (hs2 : starEach [.Call (.Name "reversed" p2) [e] [] pos2] X.env = (false, eval (.Call (.Name "reversed" p2) [e] [] pos2) X.env) :: starEach [] X.env := by rfl) :
    PE X (.Call (.Name "list" p) [.Call (.Name "reversed" p2) [e] [] pos2] [] pos) (tRevL X.K te) := by
  refine ⟨fun pins s σ H Q I h => ?_⟩
  refine Call_ (ld_blt I hg hm PyProof.Rows.boot_list (PyProof.Rows.callWith_type1 (args_cons (Call_ (ld_blt I hg2 hm2 PyProof.Rows.boot_reversed (PyProof.Rows.callWith_type1 (args_cons (thn (he.run pins s σ H _ I h) fun u s1 ⟨v, H1, I1, r1, q1⟩ => args_nil ?_) hs) hs rfl))) hs2) hs2 rfl))
  obtain ⟨a, xs, ev, hq, q⟩ := q1
  subst ev
  obtain rfl : u = Value.ref a := r1
  obtain ⟨its, rv, p', hz⟩ := I1.list hq
  refine call_reversed_list p'.isList (args_nil ?_)
  have k0 : ∀ b o, s1.heap.get? b = some o → (s1.heap.push (revObj a ((its.toArray.size : Int) - 1))).get? b = some o := fun b o e => Heap.get?_push_of_some _ e
  have I2 : Inv X pins σ H1 { s1 with heap := s1.heap.push (revObj a ((its.toArray.size : Int) - 1)) } := I1.kept (t' := s1.toks) k0
  have fp := I1.fpOk (H' := H1) (b := s1.heap.objs.size) (Nat.le_refl _) (I1.hok.fresh (Nat.le_refl _))
  have hl := p'.isList
  obtain ⟨ol, hol, _⟩ := id hl
  have hne : a ≠ s1.heap.objs.size := Nat.ne_of_lt (Heap.lt_size hol)
  have hn : its.toArray.size ≤ sizeLine := by rw [List.size_toArray, ← rv.length]; exact hz
  refine call_list_rev (s := { s1 with heap := s1.heap.push (revObj a ((its.toArray.size : Int) - 1)) }) (I1.ok.hd hc) ⟨_, Heap.get?_push_size _ rfl, rfl, rfl⟩ (hl.push _) hne hn fun h' tk acc c hk hS hi => ?_
  have new : ObjOk X.prog X.w (upd H1 (s1.heap.push (revObj a ((its.toArray.size : Int) - 1))).objs.size (.lst xs.reverse)) h' (s1.heap.push (revObj a ((its.toArray.size : Int) - 1))).objs.size (.lst xs.reverse) := ⟨by rw [List.length_reverse]; exact hz, acc.toList, c, RT.vals_rev rv hi, by rw [Array.toArray_toList]; exact hS⟩
  have I3 := I2.turnedNew (t' := tk) (h' := h') (ch := [s1.heap.objs.size]) (T := (s1.heap.push (revObj a ((its.toArray.size : Int) - 1))).objs.size) (ob := .lst xs.reverse) (fun b o hb e => hk b o (fun z => hb (by simp [z])) e) (fun b hb => by
    have e : b = s1.heap.objs.size := by simpa using hb
    rw [e]; exact fp) (Nat.le_refl _) new
  exact ⟨.ref _, _, I3, rfl, q _ (I2.hok.fresh (Nat.le_refl _))⟩
end
end OL
/-! Plain data, a small language over it, and what its texts do: no heap in sight. -/
namespace OL
open PySem PySem.Spec PyProof.Rows L2
/-- plain data -/
inductive D where
  | non | bl (b : Bool) | int (i : Int) | str (x : Str) | tup (xs : List D) | lst (xs : List D)
  | scr (ns : List Int) | dic (n : Nat) | exc (c : String)
/-- an answer: data, an error of a class, or nothing that is told -/
inductive R (α : Type) where
  | ok (a : α) | exc (c : String) | bad
@[reducible] def R.bind {α β : Type} (r : R α) (f : α → R β) : R β :=
  match r with | .ok a => f a | .exc c => .exc c | .bad => .bad
def R.all {α : Type} (r : R α) (p : α → Prop) (e : String → Prop) : Prop :=
  match r with | .ok a => p a | .exc c => e c | .bad => False
theorem R.bind_ok {α β : Type} (a : α) (f : α → R β) : (R.ok a).bind f = f a := rfl
theorem R.bind_exc {α β : Type} (c : String) (f : α → R β) : (R.exc c : R α).bind f = .exc c := rfl
theorem R.bind_bad {α β : Type} (f : α → R β) : (R.bad : R α).bind f = .bad := rfl
/-- what a def is to its callers: its name, what it hands back of data, whether a list that it hands back is new, the written defaults that fill a call up -/
structure Fn where
  name : String
  run : List D → R D
  fr : Bool
  dfl : List D
  io : Bool
inductive Op where | add | sub | mul | div | mod | pow | shl | shr | band
inductive Cp where | lt | le | gt | ge | eq | ne | is | isn | inn | nin
inductive Blt where | len | abs | max | min | int | str | list | tuple | all | any | bool
inductive Mth where | bitlen
/-- methods of texts -/
inductive Sm where | part | split | join | upper | starts
inductive Tg where
  | nm (i : Nat) | tp (ts : List Tg)
inductive Ex where
  | nop | var (i : Nat) | bor (i : Nat) | lit (d : D) | glob (n : String) (d : D)
  | tup (xs : List Ex) | lst (xs : List Ex)
  | bin (op : Op) (x y : Ex) | neg (x : Ex) | cmp (op : Cp) (x y : Ex) | chain (op op' : Cp) (x y z : Ex)
  | and (xs : List Ex) | or (xs : List Ex) | not (x : Ex) | ite (c x y : Ex)
  | ix (x i : Ex) | sl (x lo hi : Ex)
  | call (f : Fn) (fl : Bool) (xs : List Ex)
  | blt (b : Blt) (xs : List Ex) | mth (m : Mth) (x : Ex) (xs : List Ex)
  | isi (x : Ex) (cs : List String) | isx (x : Ex) (cs : List String) | rvl (x : Ex)
  | lc (elt : Ex) (tg : Tg) (it : Ex) (cond : Ex)
  | rng (xs : List Ex) | enum (x : Ex) | zip (x y : Ex) | revd (x : Ex)
  | sm (m : Sm) (x : Ex) (xs : List Ex)
/-- expressions that change a list of one's own by a def called: io: the list is the first argument; iot: a list made for the call -/
inductive Fx where
  | p (x : Ex) | io (f : Fn) (i : Nat) (xs : List Fx) | iot (f : Fn) (x : Ex) (xs : List Ex) | call (f : Fn) (xs : List Fx)
  | tup (xs : List Fx) | lst (xs : List Fx) | bin (op : Op) (x y : Fx) | cmp (op : Cp) (x y : Fx) | neg (x : Fx) | not (x : Fx)
  | and (xs : List Fx) | or (xs : List Fx) | ix (x i : Fx) | blt (b : Blt) (xs : List Fx)
  | lc (elt : Fx) (tg : Tg) (it : Fx) | rng (xs : List Fx) | sl (x lo hi : Fx)
inductive St where
  | asg (i : Nat) (own : Bool) (x : Ex) | unp (ts : List Tg) (x : Ex) | par (i j : Nat) (x y : Ex) | aug (i : Nat) (op : Op) (x : Ex)
  | ret (x : Ex) | retN | exp (x : Ex)
  | app (i : Nat) (x : Ex) | rev (i : Nat) | clr (i : Nat) | ins (i : Nat) (k x : Ex) | popE (i : Nat) (k : Ex) | sti (i : Nat) (k x : Ex)
  | ife (c : Ex) (a b : List St) | whl (c : Ex) (b : List St) | for (t : Tg) (it : Ex) (b : List St)
  | rai (c : String) | tri (b : List St) (c : String) (h : List St) | tas (b : List St) (c : String) (i : Nat) (h : List St) | par3 (i j l : Nat) (x y z : Ex)
  | frz (i : Nat) | brk | cnt | pas
  | asgF (i : Nat) (own : Bool) (x : Fx) | appF (i : Nat) (x : Fx) | expF (x : Fx) | ifeF (c : Fx) (a b : List St) | forF (t : Tg) (it : Fx) (b : List St)
  | retF (x : Fx) | unpF (ts : List Tg) (x : Fx) | stiF (i : Nat) (k : Ex) (x : Fx)
  | sls (i : Nat) (lo hi x : Ex) | retQ (x : Fx) | retQN | stq (k x : Ex) | insF (i : Nat) (k x : Fx) | popF (i : Nat) (k : Fx) | extF (i : Nat) (x : Fx)
/-! ### data -/
def itemsOf : D → R (List D)
  | .lst xs => .ok xs
  | .tup xs => .ok xs
  | .scr ns => .ok (ns.map .int)
  | .str x => .ok (x.cps.toList.map fun c => .str ⟨#[c]⟩)
  | _ => .bad
/-- a list as items, no text, no tuple -/
def lstOnly : D → Bool
  | .lst _ => true
  | .scr _ => true
  | _ => false
mutual
/-- without a list, a dict within -/
def flat : D → Bool
  | .tup xs => flatL xs
  | .lst _ => false
  | .scr _ => false
  | .dic _ => false
  | .exc _ => false
  | _ => true
def flatL : List D → Bool
  | [] => true
  | x :: xs => flat x && flatL xs
end
mutual
def toP : D → PyData
  | .non => .none
  | .bl b => .bool b
  | .int i => .int i
  | .str x => .str x
  | .tup xs => .tuple (toPL xs)
  | .lst xs => .list (toPL xs)
  | .scr ns => .list (ns.map .int)
  | .dic _ => .dict []
  | .exc _ => .dict []
def toPL : List D → List PyData
  | [] => []
  | x :: xs => toP x :: toPL xs
end
def shp (d : D) : Bool := SeqAt.shaped (toP d)
def eqd (d e : D) : Bool := PyData.eqv (toP d) (toP e)
/-- one sign of a text, None, a bool, an int, a text -/
def scalD : D → Bool
  | .non => true
  | .bl _ => true
  | .int _ => true
  | .str _ => true
  | _ => false
def valD : D → V
  | .bl b => .bl b
  | .int i => .int i
  | .str x => .str x
  | _ => .non
def truD : D → Option Bool
  | .non => some false
  | .bl b => some b
  | .int i => some (i != 0)
  | .str x => if x.length ≤ 16777216 then some ((x.length : Int) != 0) else none
  | .tup xs => some (!xs.isEmpty)
  | .lst xs => some (!xs.isEmpty)
  | .scr ns => some (!ns.isEmpty)
  | _ => none
def mulOk (i j : Int) : Bool := decide (i.natAbs.log2 + j.natAbs.log2 < 1000000) || (decide (i.natAbs < 2 ^ 64) || decide (j.natAbs < 2 ^ 64))
def divOk (j : Int) : Bool := decide (j ≠ 0) && decide (j.natAbs.log2 < 9000)
def powOk (i j : Int) : Bool := decide (0 ≤ j) && decide (j ≤ 1000000) && decide (i.natAbs < 2 ^ 64)
def pwOk (i j : Int) : Bool := decide (0 ≤ j) && decide ((Builtin.Int.intBits i : Int) * j ≤ 134217728)
def binD : Op → D → D → R D
  | .add, .int i, .int j => .ok (.int (i + j))
  | .add, .str x, .str y => if x.length + y.length ≤ 16777216 then .ok (.str (x ++ y)) else .bad
  | .add, .lst xs, .lst ys => if xs.length + ys.length ≤ 16777216 then .ok (.lst (xs ++ ys)) else .bad
  | .sub, .int i, .int j => .ok (.int (i - j))
  | .mul, .int i, .int j => if mulOk i j then .ok (.int (i * j)) else .bad
  | .mul, .lst xs, .int k => if 0 ≤ k ∧ k < 2 ^ 63 ∧ xs.length * k.toNat ≤ 16777216 then .ok (.lst (List.replicate k.toNat xs).flatten) else .bad
  | .div, .int i, .int j => if divOk j then .ok (.int (i.fdiv j)) else .bad
  | .mod, .int i, .int j => if j ≠ 0 then .ok (.int (i.fmod j)) else .bad
  | .pow, .int i, .int j => if pwOk i j then .ok (.int (i ^ j.toNat)) else .bad
  | .shl, .int i, .int j => if powOk i j then .ok (.int (i * 2 ^ j.toNat)) else .bad
  | .shr, .int i, .int j => if 0 ≤ j then .ok (.int (i / 2 ^ j.toNat)) else .bad
  | .band, .int i, .int j => .ok (.int (Builtin.bitAnd i j))
  | .add, .tup xs, .tup ys => if xs.isEmpty = false ∧ ys.isEmpty = false ∧ xs.length + ys.length ≤ 16777216 then .ok (.tup (xs ++ ys)) else .bad
  | .add, .lst xs, .scr ns => if xs.length + ns.length ≤ 16777216 then .ok (.lst (xs ++ ns.map .int)) else .bad
  | .mul, .str z, .int k => if 0 ≤ k ∧ z.length * k.toNat ≤ 16777216 ∧ k < 2 ^ 62 then .ok (.str ⟨(List.replicate k.toNat z.cps).foldl (· ++ ·) #[]⟩) else .bad
  | _, _, _ => .bad
/-- x in xs, items without a list or tuple -/
def inD (x : D) (xs : List D) : Bool := xs.any fun y => eqV (valD y) (valD x)
def cpD : Cp → D → D → R D
  | .lt, .int i, .int j => .ok (.bl (decide (i < j)))
  | .le, .int i, .int j => .ok (.bl (decide (i ≤ j)))
  | .gt, .int i, .int j => .ok (.bl (decide (j < i)))
  | .ge, .int i, .int j => .ok (.bl (decide (j ≤ i)))
  | .eq, x, y => if shp x && shp y then .ok (.bl (eqd x y)) else .bad
  | .ne, x, y => if shp x && shp y then .ok (.bl (!eqd x y)) else .bad
  | .is, .bl a, .bl b => .ok (.bl (decide (a = b)))
  | .isn, .bl a, .bl b => .ok (.bl (!decide (a = b)))
  | .is, .non, .non => .ok (.bl true)
  | .is, .bl _, .non => .ok (.bl false)
  | .is, .int _, .non => .ok (.bl false)
  | .is, .str _, .non => .ok (.bl false)
  | .is, .tup _, .non => .ok (.bl false)
  | .is, .lst _, .non => .ok (.bl false)
  | .is, .exc _, .non => .ok (.bl false)
  | .isn, .non, .non => .ok (.bl false)
  | .isn, .bl _, .non => .ok (.bl true)
  | .isn, .int _, .non => .ok (.bl true)
  | .isn, .str _, .non => .ok (.bl true)
  | .isn, .tup _, .non => .ok (.bl true)
  | .isn, .lst _, .non => .ok (.bl true)
  | .isn, .exc _, .non => .ok (.bl true)
  | .inn, .str x, .str y => .ok (.bl (!(Builtin.Str.occurrences y x 0 y.length 1).isEmpty))
  | .nin, .str x, .str y => .ok (.bl (!(!(Builtin.Str.occurrences y x 0 y.length 1).isEmpty)))
  | .inn, x, .tup ys => if scalD x && ys.all scalD then .ok (.bl (inD x ys)) else .bad
  | .nin, x, .tup ys => if scalD x && ys.all scalD then .ok (.bl (!inD x ys)) else .bad
  | .inn, x, .lst ys => if scalD x && ys.all scalD then .ok (.bl (inD x ys)) else if shp x && shp (.lst ys) then .ok (.bl ((toPL ys).any fun z => PyData.eqv z (toP x))) else .bad
  | .nin, x, .lst ys => if scalD x && ys.all scalD then .ok (.bl (!inD x ys)) else if shp x && shp (.lst ys) then .ok (.bl (!(toPL ys).any fun z => PyData.eqv z (toP x))) else .bad
  | _, _, _ => .bad
def ixD : D → D → R D
  | .tup xs, .int i => match atI xs i with | some d => .ok d | none => .bad
  | .lst xs, .int i => match atI xs i with | some d => .ok d | none => .bad
  | .scr ns, .int i => match atI ns i with | some n => .ok (.int n) | none => .bad
  | .str z, .int i => if z.length ≤ 16777216 then (match atI z.cps.toList i with | some c => .ok (.str ⟨#[c]⟩) | none => .bad) else .bad
  | _, _ => .bad
/-- a part of a list, as Python cuts it -/
def cutD {α : Type} (xs : List α) (lo hi : Option Int) : List α := (xs.drop (HT.sIx xs.length 0 lo)).take (HT.sIx xs.length xs.length hi - HT.sIx xs.length 0 lo)
def slD : D → Option Int → Option Int → R D
  | .lst xs, lo, hi => .ok (.lst (cutD xs lo hi))
  | .scr ns, lo, hi => .ok (.lst ((cutD ns lo hi).map .int))
  | .str z, lo, hi => if z.length ≤ 16777216 then .ok (.str (cutS z lo hi)) else .bad
  | _, _, _ => .bad
def bltD : Blt → List D → R D
  | .len, [.tup xs] => .ok (.int xs.length)
  | .len, [.lst xs] => .ok (.int xs.length)
  | .len, [.scr ns] => .ok (.int ns.length)
  | .len, [.str z] => if z.length ≤ 16777216 then .ok (.int z.length) else .bad
  | .abs, [.int i] => .ok (.int (if i < 0 then -i else i))
  | .max, [.int i, .int j] => .ok (.int (if j > i then j else i))
  | .min, [.int i, .int j] => .ok (.int (if j < i then j else i))
  | .int, [.int i] => .ok (.int i)
  | .int, [.bl b] => .ok (.int (if b then 1 else 0))
  | .int, [.str x] => match PySem.intText? x with | some n => if x.length ≤ 4300 then .ok (.int n) else .bad | none => .bad
  | .str, [.int i] => if i.natAbs.log2 < 12900 then .ok (.str (toString i)) else .bad
  | .list, [.lst xs] => .ok (.lst xs)
  | .list, [.tup xs] => .ok (.lst xs)
  | .list, [.scr ns] => .ok (.lst (ns.map .int))
  | .tuple, [.lst xs] => .ok (.tup xs)
  | .all, [.lst xs] => match xs.mapM (fun | .bl b => some b | _ => none) with | some bs => .ok (.bl (bs.all id)) | none => .bad
  | .any, [.lst xs] => match xs.mapM (fun | .bl b => some b | _ => none) with | some bs => .ok (.bl (bs.any id)) | none => .bad
  | _, _ => .bad
def mthD : Mth → D → List D → R D
  | .bitlen, .int i, [] => .ok (.int (Builtin.Int.intBits i : Nat))
  | _, _, _ => .bad
def isSt : D → Bool
  | .str _ => true
  | _ => false
def strsOf : List D → Option (List Str)
  | [] => some []
  | .str x :: ds => (strsOf ds).map (x :: ·)
  | _ => none
def smD : Sm → D → List D → R D
  | .part, .str a, [.str b] => if b.length ≠ 0 ∧ a.length ≤ 16777216 then .ok (.tup [.str (Txt.partition a b).1, .str (Txt.partition a b).2.1, .str (Txt.partition a b).2.2]) else .bad
  | .split, .str a, [.str b] => if b.length ≠ 0 ∧ a.length + 2 ≤ 16777216 then .ok (.lst ((Txt.split a b).map .str)) else .bad
  | .join, .str a, [.lst ds] => match strsOf ds with
    | some ys => if (ys.map (·.length)).sum + ys.length * a.length ≤ 16777216 then .ok (.str (Txt.join a ys)) else .bad
    | none => .bad
  | .upper, .str a, [] => if a.length ≤ 5592405 then .ok (.str (Txt.upper a)) else .bad
  | .starts, .str a, [.str b] => .ok (.bl (Txt.startswith a b))
  | _, _, _ => .bad
def negD : D → R D
  | .int i => .ok (.int (-i))
  | _ => .bad
/-- the built-in type's name -/
def tyD : D → Option String
  | .non => some "NoneType"
  | .bl _ => some "bool"
  | .int _ => some "int"
  | .str _ => some "str"
  | .tup _ => some "tuple"
  | .lst _ => some "list"
  | .scr _ => some "list"
  | .dic _ => some "dict"
  | .exc _ => none
def isT : String → String → Bool
  | "bool", "int" => true
  | a, b => a == b
def isiD (d : D) (cs : List String) : R D := match tyD d with
  | some t => .ok (.bl (cs.any (isT t)))
  | none => .bad
/-- the one class lies under the other (of the program's errors) -/
def subX (c k : String) : Bool := c == k || k == "LeashError"
def subY (c k : String) : Bool := k == "ValueError" || subX c k
def isxD (d : D) (cs : List String) : R D := match d with
  | .exc k => .ok (.bl (cs.any (subY k)))
  | d => match tyD d with
    | some _ => .ok (.bl false)
    | none => .bad
def rvlD : D → R D
  | .lst xs => .ok (.lst xs.reverse)
  | _ => .bad
def rngD : List D → R D
  | [.int j] => if -(2 ^ 62) ≤ j ∧ j < 2 ^ 62 then .ok (.lst ((List.range j.toNat).map fun (k : Nat) => D.int k)) else .bad
  | [.int i, .int j] => if -(2 ^ 62) ≤ i ∧ i < 2 ^ 62 ∧ -(2 ^ 62) ≤ j ∧ j < 2 ^ 62 then .ok (.lst ((List.range (j - i).toNat).map fun (k : Nat) => D.int (i + k))) else .bad
  | _ => .bad
def enumD (xs : List D) : List D := (List.range xs.length).zipWith (fun (k : Nat) x => .tup [.int k, x]) xs
def zipD (xs ys : List D) : List D := xs.zipWith (fun x y => .tup [x, y]) ys
/-! ### the slots -/
/-- a slot: empty, data that stands still, a list of one's own, the caller's list that one may change -/
inductive Sl where
  | n | v (d : D) | o (ds : List D) | q (ds : List D)
abbrev En := List Sl
def getv (ρ : En) (i : Nat) : R D := match ρ[i]? with
  | some (.v d) => .ok d
  | _ => .bad
def getb (ρ : En) (i : Nat) : R D := match ρ[i]? with
  | some (.o ds) => .ok (.lst ds)
  | some (.q ds) => .ok (.lst ds)
  | _ => .bad
mutual
def setT : Tg → D → En → R En
  | .nm i, d, ρ => match ρ[i]? with
    | some _ => .ok (ρ.set i (.v d))
    | none => .bad
  | .tp ts, .tup ds, ρ => setTs ts ds ρ
  | .tp ts, .lst ds, ρ => setTs ts ds ρ
  | .tp _, _, _ => .bad
def setTs : List Tg → List D → En → R En
  | [], [], ρ => .ok ρ
  | t :: ts, d :: ds, ρ => (setT t d ρ).bind (setTs ts ds)
  | _, _, _ => .bad
end
mutual
def slotsT : Tg → List Nat
  | .nm i => [i]
  | .tp ts => slotsTs ts
def slotsTs : List Tg → List Nat
  | [] => []
  | t :: ts => slotsT t ++ slotsTs ts
end
def notOwn (ρ : En) (i : Nat) : Bool := match ρ[i]? with
  | some (.o _) => false
  | some (.q _) => false
  | _ => true
def wipeN (ρ : En) : List Nat → En
  | [] => ρ
  | v :: vs => (wipeN ρ vs).set v .n
def optI : D → R (Option Int)
  | .int i => .ok (some i)
  | _ => .bad
/-! ### expressions -/
def lcR (ds : List D) (cond elt : D → R D) : R (List D) := match ds with
  | [] => .ok []
  | d :: r => match cond d with
    | .ok c => match truD c with
      | some true => match elt d with
        | .ok y => (lcR r cond elt).bind fun ys => .ok (y :: ys)
        | .exc k => .exc k
        | .bad => .bad
      | some false => lcR r cond elt
      | none => .bad
    | _ => .bad
/-- the new list, or an item's error -/
def lcT (ds : List D) (r : R (List D)) : R D := match r with
  | .ok ys => if ys.length ≤ 16777216 then .ok (.lst ys) else .bad
  | .exc k => if ds.length ≤ 16777216 then .exc k else .bad
  | .bad => .bad
def isNop : Ex → Bool
  | .nop => true
  | _ => false
mutual
def ev (ρ : En) : Ex → R D
  | .nop => .bad
  | .var i => getv ρ i
  | .bor i => getb ρ i
  | .lit d => .ok d
  | .glob _ d => .ok d
  | .tup xs => (evs ρ xs).bind fun ds => if ds.length ≤ 16777216 then .ok (.tup ds) else .bad
  | .lst xs => (evs ρ xs).bind fun ds => if ds.length ≤ 16777216 then .ok (.lst ds) else .bad
  | .bin op x y => (ev ρ x).bind fun a => (ev ρ y).bind fun b => binD op a b
  | .neg x => (ev ρ x).bind negD
  | .cmp op x y => (ev ρ x).bind fun a => (ev ρ y).bind fun b => cpD op a b
  | .chain op op' x y z => (ev ρ x).bind fun a => (ev ρ y).bind fun b => (cpD op a b).bind fun t => match t with
    | .bl true => (ev ρ z).bind fun c => cpD op' b c
    | .bl false => .ok (.bl false)
    | _ => .bad
  | .and xs => evAnd ρ xs
  | .or xs => evOr ρ xs
  | .not x => (ev ρ x).bind fun d => match truD d with | some b => .ok (.bl (!b)) | none => .bad
  | .ite c x y => (ev ρ c).bind fun d => match truD d with | some true => ev ρ x | some false => ev ρ y | none => .bad
  | .ix x i => (ev ρ x).bind fun a => (ev ρ i).bind fun b => ixD a b
  | .sl x lo hi => (ev ρ x).bind fun a => (if isNop lo then .ok none else (ev ρ lo).bind optI).bind fun l => (if isNop hi then .ok none else (ev ρ hi).bind optI).bind fun h => slD a l h
  | .call f fl xs => (evs ρ xs).bind fun ds => (f.run (ds ++ f.dfl)).bind fun d => if fl && !flat d then .bad else .ok d
  | .blt b xs => (evs ρ xs).bind fun ds => bltD b ds
  | .mth m x xs => (ev ρ x).bind fun d => (evs ρ xs).bind fun ds => mthD m d ds
  | .isi x cs => (ev ρ x).bind fun d => isiD d cs
  | .isx x cs => (ev ρ x).bind fun d => isxD d cs
  | .rvl x => (ev ρ x).bind rvlD
  | .lc elt tg it cond => ((ev ρ it).bind itemsOf).bind fun ds => if !(slotsT tg).all (notOwn ρ) then .bad else
      lcT ds (lcR ds (fun d => if isNop cond then .ok (.bl true) else (setT tg d (wipeN ρ (slotsT tg))).bind fun ρ' => ev ρ' cond)
        (fun d => (setT tg d (wipeN ρ (slotsT tg))).bind fun ρ' => ev ρ' elt))
  | .rng xs => (evs ρ xs).bind rngD
  | .enum x => (ev ρ x).bind fun d => (if lstOnly d then itemsOf d else .bad).bind fun ds => .ok (.lst (enumD ds))
  | .zip x y => (ev ρ x).bind fun d => (ev ρ y).bind fun d2 => if lstOnly d && lstOnly d2 then (itemsOf d).bind fun ds => (itemsOf d2).bind fun es => .ok (.lst (zipD ds es)) else .bad
  | .revd x => (ev ρ x).bind fun d => (if lstOnly d then itemsOf d else .bad).bind fun ds => .ok (.lst ds.reverse)
  | .sm m x xs => (ev ρ x).bind fun d => if !isSt d then .bad else (evs ρ xs).bind fun ds => smD m d ds
def evs (ρ : En) : List Ex → R (List D)
  | [] => .ok []
  | x :: xs => (ev ρ x).bind fun d => (evs ρ xs).bind fun ds => .ok (d :: ds)
def evAnd (ρ : En) : List Ex → R D
  | [] => .bad
  | [x] => ev ρ x
  | x :: y :: xs => (ev ρ x).bind fun d => match d with
    | .bl true => evAnd ρ (y :: xs)
    | .bl false => .ok (.bl false)
    | _ => .bad
def evOr (ρ : En) : List Ex → R D
  | [] => .bad
  | [x] => ev ρ x
  | x :: y :: xs => (ev ρ x).bind fun d => match d with
    | .bl true => .ok (.bl true)
    | .bl false => evOr ρ (y :: xs)
    | _ => .bad
end
/-! ### expressions that change a list of one's own -/
/-- the list's slot gets what the def has made of it -/
def putk (ρ : En) (i : Nat) (out : List D) : R En := match ρ[i]? with
  | some (.o _) => .ok (ρ.set i (.o out))
  | some (.q _) => .ok (ρ.set i (.q out))
  | _ => .bad
/-- the slots vs as they were in ρ -/
def bk (ρ : En) (ρ' : En) : List Nat → En
  | [] => ρ'
  | v :: vs => (bk ρ ρ' vs).set v ((ρ[v]?).getD .n)
def noE {α : Type} (r : R α) : R α := match r with | .ok a => .ok a | _ => .bad
def lcX (tg : Tg) (ρ0 : En) (elt : En → R (D × En)) : List D → En → R (List D × En)
  | [], ρ => .ok ([], ρ)
  | d :: ds, ρ => (setT tg d (wipeN ρ (slotsT tg))).bind fun ρ1 => (noE (elt ρ1)).bind fun p => (lcX tg ρ0 elt ds p.2).bind fun q => .ok (p.1 :: q.1, q.2)
def isLD : D → Bool
  | .lst _ => true
  | _ => false
/-- what an in-out def hands back -/
def unq (r : D) (f : D → List D → R (D × En)) : R (D × En) := match r with
  | .tup [d, .lst out] => f d out
  | _ => .bad
def isNopF : Fx → Bool
  | .p .nop => true
  | _ => false
mutual
def evx (ρ : En) : Fx → R (D × En)
  | .p x => (ev ρ x).bind fun d => .ok (d, ρ)
  | .io f i xs => (getb ρ i).bind fun _ => (evxs ρ xs).bind fun p => (getb p.2 i).bind fun l => (f.run (l :: (p.1 ++ f.dfl))).bind fun r => unq r fun d out => (putk p.2 i out).bind fun ρ2 => .ok (d, ρ2)
  | .iot f x xs => (ev ρ x).bind fun l => if !isLD l then .bad else (evs ρ xs).bind fun ds => (f.run (l :: (ds ++ f.dfl))).bind fun r => unq r fun d _ => .ok (d, ρ)
  | .call f xs => (evxs ρ xs).bind fun p => (f.run (p.1 ++ f.dfl)).bind fun d => .ok (d, p.2)
  | .tup xs => (evxs ρ xs).bind fun p => if p.1.length ≤ 16777216 then .ok (.tup p.1, p.2) else .bad
  | .lst xs => (evxs ρ xs).bind fun p => if p.1.length ≤ 16777216 then .ok (.lst p.1, p.2) else .bad
  | .bin op x y => (evx ρ x).bind fun a => (evx a.2 y).bind fun b => (binD op a.1 b.1).bind fun d => .ok (d, b.2)
  | .cmp op x y => (evx ρ x).bind fun a => (evx a.2 y).bind fun b => (cpD op a.1 b.1).bind fun d => .ok (d, b.2)
  | .neg x => (evx ρ x).bind fun a => (negD a.1).bind fun d => .ok (d, a.2)
  | .not x => (evx ρ x).bind fun a => match truD a.1 with | some b => .ok (.bl (!b), a.2) | none => .bad
  | .and xs => evxAnd ρ xs
  | .or xs => evxOr ρ xs
  | .ix x i => (evx ρ x).bind fun a => (evx a.2 i).bind fun b => (ixD a.1 b.1).bind fun d => .ok (d, b.2)
  | .blt b xs => (evxs ρ xs).bind fun p => (bltD b p.1).bind fun d => .ok (d, p.2)
  | .lc elt tg it => (evx ρ it).bind fun p => (itemsOf p.1).bind fun ds => if !(slotsT tg).all (notOwn p.2) then .bad else
      (lcX tg p.2 (fun ρ => evx ρ elt) ds p.2).bind fun q => if q.1.length ≤ 16777216 then .ok (.lst q.1, bk p.2 q.2 (slotsT tg)) else .bad
  | .rng xs => (evxs ρ xs).bind fun p => (rngD p.1).bind fun d => .ok (d, p.2)
  | .sl x lo hi => (evx ρ x).bind fun a => (if isNopF lo then .ok (none, a.2) else (evx a.2 lo).bind fun b => (optI b.1).bind fun o => .ok (o, b.2)).bind fun l =>
      (if isNopF hi then .ok (none, l.2) else (evx l.2 hi).bind fun b => (optI b.1).bind fun o => .ok (o, b.2)).bind fun h => (slD a.1 l.1 h.1).bind fun d => .ok (d, h.2)
def evxs (ρ : En) : List Fx → R (List D × En)
  | [] => .ok ([], ρ)
  | x :: xs => (evx ρ x).bind fun a => (evxs a.2 xs).bind fun p => .ok (a.1 :: p.1, p.2)
def evxAnd (ρ : En) : List Fx → R (D × En)
  | [] => .bad
  | [x] => evx ρ x
  | x :: y :: xs => (evx ρ x).bind fun a => match a.1 with
    | .bl true => evxAnd a.2 (y :: xs)
    | .bl false => .ok (.bl false, a.2)
    | _ => .bad
def evxOr (ρ : En) : List Fx → R (D × En)
  | [] => .bad
  | [x] => evx ρ x
  | x :: y :: xs => (evx ρ x).bind fun a => match a.1 with
    | .bl true => .ok (.bl true, a.2)
    | .bl false => evxOr a.2 (y :: xs)
    | _ => .bad
end
/-- behind an error one's own lists are unknown -/
def xenS : Sl → Sl
  | .o _ => .n
  | .q _ => .n
  | s => s
def xen (ρ : En) : En := ρ.map xenS
/-- a test's outcome -/
def tst (ρ : En) (x : Ex) : R Bool := (ev ρ x).bind fun d => match truD d with
  | some b => .ok b
  | none => .bad
/-! ### statements -/
inductive O where
  | nx (ρ : En) | rt (d : D) | bk (ρ : En) | ct (ρ : En) | exc (c : String) (ρ : En) | bad | rq (d : D) (out : List D)
def O.of {α : Type} (ρ : En) (r : R α) (f : α → O) : O := match r with
  | .ok a => f a
  | .exc c => .exc c ρ
  | .bad => .bad
/-- an expression that changes lists first -/
def O.ofx {α : Type} (ρ : En) (r : R (α × En)) (f : α → En → O) : O := match r with
  | .ok a => f a.1 a.2
  | .exc c => .exc c (xen ρ)
  | .bad => .bad
/-- the caller's list as it is now is handed back with the answer -/
def qret (ρ : En) (d : D) : O := match ρ[(0 : Nat)]? with
  | some (.q out) => .rq d out
  | _ => .bad
/-- at most n turns of a while -/
def wrun (t : En → R Bool) (b : En → O) : Nat → En → Option O
  | 0, _ => none
  | n + 1, ρ => match t ρ with
    | .ok true => match b ρ with
      | .nx ρ' => wrun t b n ρ'
      | .ct ρ' => wrun t b n ρ'
      | .bk ρ' => some (.nx ρ')
      | o => some o
    | .ok false => some (.nx ρ)
    | .exc c => some (.exc c ρ)
    | .bad => some .bad
open Classical in
noncomputable def whileO (t : En → R Bool) (b : En → O) (ρ : En) : O :=
  if h : ∃ (n : Nat) (o : O), wrun t b n ρ = some o then (Classical.choose_spec h).choose else .bad
def forO (b : D → En → O) : List D → En → O
  | [], ρ => .nx ρ
  | d :: ds, ρ => match b d ρ with
    | .nx ρ' => forO b ds ρ'
    | .ct ρ' => forO b ds ρ'
    | .bk ρ' => .nx ρ'
    | o => o
def ownL (ρ : En) (i : Nat) (f : List D → O) : O := match ρ[i]? with
  | some (.o ds) => f ds
  | _ => .bad
def setS (ρ : En) (i : Nat) (s : Sl) : O := if i < ρ.length then .nx (ρ.set i s) else .bad
/-- an except suite raises nothing -/
def noX : O → O
  | .exc _ _ => .bad
  | o => o
/-- the clause's name goes -/
def drO (i : Nat) : O → O
  | .nx ρ => if notOwn ρ i then .nx (ρ.set i .n) else .bad
  | .bk ρ => if notOwn ρ i then .bk (ρ.set i .n) else .bad
  | .ct ρ => if notOwn ρ i then .ct (ρ.set i .n) else .bad
  | o => o
def augD : Op → D → D → R D
  | .add, .int p, .int q => .ok (.int (p + q))
  | .sub, .int p, .int q => .ok (.int (p - q))
  | _, _, _ => .bad
/-- a part of a list put anew -/
def slsR (ds : List D) (d : D) (l h : Option Int) (f : List D → O) : O := match d, l, h with
  | .lst es, some a, some c => if 0 ≤ a ∧ a ≤ ds.length ∧ a ≤ c ∧ ds.length + es.length ≤ 16777216 then f (ds.take a.toNat ++ es ++ ds.drop c.toNat) else .bad
  | _, _, _ => .bad
mutual
noncomputable def exe (ρ : En) : St → O
  | .asg i own x => .of ρ (ev ρ x) fun d => if own then (match d with | .lst ds => setS ρ i (.o ds) | _ => .bad) else setS ρ i (.v d)
  | .unp ts x => .of ρ (ev ρ x) fun d => .of ρ (setT (.tp ts) d ρ) .nx
  | .par i j x y => .of ρ (ev ρ x) fun a => .of ρ (ev ρ y) fun b => if i < ρ.length ∧ j < ρ.length then .nx ((ρ.set i (.v a)).set j (.v b)) else .bad
  | .aug i op x => .of ρ (getv ρ i) fun a => .of ρ (ev ρ x) fun b => .of ρ (augD op a b) fun d => setS ρ i (.v d)
  | .ret x => .of ρ (ev ρ x) .rt
  | .retN => .rt .non
  | .exp x => .of ρ (ev ρ x) fun _ => .nx ρ
  | .app i x => ownL ρ i fun ds => .of ρ (ev ρ x) fun d => if ds.length < 16777216 then .nx (ρ.set i (.o (ds ++ [d]))) else .bad
  | .rev i => ownL ρ i fun ds => .nx (ρ.set i (.o ds.reverse))
  | .clr i => ownL ρ i fun _ => .nx (ρ.set i (.o []))
  | .ins _ _ _ => .bad
  | .popE _ _ => .bad
  | .sti i k x => .of ρ (ev ρ x) fun d => ownL ρ i fun ds => .of ρ (ev ρ k) fun kd => match kd with
    | .int k => match ixN ds.length k with
      | some j => .nx (ρ.set i (.o (ds.set j d)))
      | none => .bad
    | _ => .bad
  | .sls i lo hi x => .of ρ (ev ρ x) fun d => ownL ρ i fun ds => .of ρ ((ev ρ lo).bind optI) fun l => .of ρ ((ev ρ hi).bind optI) fun h => slsR ds d l h fun es => .nx (ρ.set i (.o es))
  | .ife c a b => .of ρ (tst ρ c) fun t => if t then exs ρ a else exs ρ b
  | .whl c b => whileO (fun ρ => tst ρ c) (fun ρ => exs ρ b) ρ
  | .for t it b => .of ρ ((ev ρ it).bind itemsOf) fun ds => forO (fun d ρ => .of ρ (setT t d ρ) fun ρ' => exs ρ' b) ds ρ
  | .rai c => .exc c ρ
  | .tri b c h => match exs ρ b with
    | .exc k ρ' => if subX k c then noX (exs ρ' h) else .exc k ρ'
    | o => o
  | .tas b c i h => match exs ρ b with
    | .exc k ρ' => if subX k c then (if i < ρ'.length then drO i (noX (exs (ρ'.set i (.v (.exc k))) h)) else .bad) else .exc k ρ'
    | o => o
  | .par3 i j l x y z => .of ρ (ev ρ x) fun a => .of ρ (ev ρ y) fun b => .of ρ (ev ρ z) fun c => if i < ρ.length ∧ j < ρ.length ∧ l < ρ.length then .nx (((ρ.set i (.v a)).set j (.v b)).set l (.v c)) else .bad
  | .frz i => match ρ[i]? with
    | some (.o ds) => .nx (ρ.set i (.v (.lst ds)))
    | _ => .bad
  | .brk => .bk ρ
  | .cnt => .ct ρ
  | .pas => .nx ρ
  | .asgF i own x => .ofx ρ (evx ρ x) fun d ρ' => if own then (match d with | .lst ds => setS ρ' i (.o ds) | _ => .bad) else setS ρ' i (.v d)
  | .appF i x => ownL ρ i fun _ => .ofx ρ (evx ρ x) fun d ρ' => ownL ρ' i fun ds => if ds.length < 16777216 then .nx (ρ'.set i (.o (ds ++ [d]))) else .bad
  | .insF i k x => ownL ρ i fun _ => .ofx ρ (evx ρ k) fun k ρ1 => .ofx ρ1 (evx ρ1 x) fun d ρ' => ownL ρ' i fun ds => match k with
    | .int k => if ds.length < 16777216 ∧ 0 ≤ k ∧ k < 2 ^ 63 then .nx (ρ'.set i (.o (ds.take k.toNat ++ [d] ++ ds.drop k.toNat))) else .bad
    | _ => .bad
  | .popF i k => ownL ρ i fun _ => .ofx ρ (evx ρ k) fun k ρ' => ownL ρ' i fun ds => match k with
    | .int k => if 0 ≤ k ∧ k < ds.length ∧ k < 2 ^ 63 then .nx (ρ'.set i (.o (ds.eraseIdx k.toNat))) else .bad
    | _ => .bad
  | .extF i x => ownL ρ i fun _ => .ofx ρ (evx ρ x) fun d ρ' => ownL ρ' i fun ds => match d with
    | .lst es => if ds.length + es.length ≤ 16777216 then .nx (ρ'.set i (.o (ds ++ es))) else .bad
    | _ => .bad
  | .expF x => .ofx ρ (evx ρ x) fun _ ρ' => .nx ρ'
  | .ifeF c a b => .ofx ρ (evx ρ c) fun d ρ' => match truD d with | some true => exs ρ' a | some false => exs ρ' b | none => .bad
  | .forF t it b => .ofx ρ (evx ρ it) fun d ρ' => .of ρ' (itemsOf d) fun ds => forO (fun d ρ => .of ρ (setT t d ρ) fun ρ' => exs ρ' b) ds ρ'
  | .retF x => .ofx ρ (evx ρ x) fun d _ => .rt d
  | .unpF ts x => .ofx ρ (evx ρ x) fun d ρ' => .of ρ' (setT (.tp ts) d ρ') .nx
  | .stiF i k x => .ofx ρ (evx ρ x) fun d ρ' => ownL ρ' i fun ds => .of ρ' (ev ρ' k) fun kd => match kd with
    | .int k => match ixN ds.length k with
      | some j => .nx (ρ'.set i (.o (ds.set j d)))
      | none => .bad
    | _ => .bad
  | .retQ x => .ofx ρ (evx ρ x) fun d ρ' => qret ρ' d
  | .retQN => qret ρ .non
  | .stq k x => .of ρ (ev ρ x) fun d => match ρ[(0 : Nat)]? with
    | some (.q ds) => .of ρ (ev ρ k) fun kd => match kd with
      | .int k => match ixN ds.length k with
        | some j => .nx (ρ.set 0 (.q (ds.set j d)))
        | none => .bad
      | _ => .bad
    | _ => .bad
noncomputable def exs (ρ : En) : List St → O
  | [] => .nx ρ
  | s :: ss => match exe ρ s with
    | .nx ρ' => exs ρ' ss
    | o => o
end
def O.end : O → R D
  | .nx _ => .ok .non
  | .rt d => .ok d
  | .exc c _ => .exc c
  | _ => .bad
/-- a def: how many slots, its body -/
noncomputable def defR (n k : Nat) (b : List St) (args : List D) : R D :=
  if args.length = k ∧ k ≤ n then (exs (args.map .v ++ List.replicate (n - k) .n) b).end else .bad
/-- the end of a def that changes its first argument -/
def O.endQ : O → R D
  | .nx ρ => match ρ[(0 : Nat)]? with
    | some (.q out) => .ok (.tup [.non, .lst out])
    | _ => .bad
  | .rq d out => .ok (.tup [d, .lst out])
  | .exc c _ => .exc c
  | _ => .bad
noncomputable def defQ (n k : Nat) (b : List St) (args : List D) : R D := match args with
  | .lst l :: as => if args.length = k ∧ k ≤ n then (exs (.q l :: (as.map .v ++ List.replicate (n - k) .n)) b).endQ else .bad
  | _ => .bad
end OL
/-! what the head's run looks at (ahead of all else: the kernel's memory) -/
namespace OL
open PySem PySem.Spec PyProof.Rows L2
def frees : List Str := ["len", "abs", "max", "min", "int", "str", "list", "tuple", "all", "any", "bool", "isinstance", "range", "enumerate", "zip", "reversed", "dict", "ValueError"]
def excNames : List String := ["LeashError", "NoRatio", "NoLine", "NoPlace", "NoWay", "NoWalk", "NoFence", "NoSquare", "NoLines", "NoText", "NoName", "Twice", "TooMany", "NoRow", "NoDeed"]
/-- what the top must say: no built-in is hidden, the errors that are there are errors and lie as they ought -/
def modFa (pres : List String) : List He.Fa := frees.map .free ++ (excNames.filter fun k => !pres.contains k).map (fun k => .free (Str.ofString k)) ++
  pres.flatMap (fun k => .glo (Str.ofString k) :: .exc (Str.ofString k) :: pres.map fun k' => .exm (Str.ofString k) (Str.ofString k') (subX k k'))
def dd (x : Str) (st : Stmt) (dfl : List He.Dv) : He.DefD := ⟨(x, none), x, x, defArgs st, defBody st, defScope st, dfl, []⟩
def tyL : List String := ["NoneType", "bool", "int", "str", "tuple", "list", "dict"]
def excB (K : PySem.W.Frag) (C : Addr) : Bool := decide (PySem.W.findIn K (.ref C) "__getattribute__" = some (some (.builtin "BaseException.__getattribute__"))) && (decide (PySem.W.findIn K (.ref C) "__getattr__" = some none) &&
  (decide (PySem.W.subIn K (.ref C) (.type "BaseException") = some true) && (PySem.W.hasDictIn K C && (decide (PySem.W.findIn K (.ref C) "__class__" = some (some (.builtin "object.__class__"))) &&
  (decide (PySem.W.specialIn K (.builtin "object.__class__") "__get__" = some (some (.builtin "getset_descriptor.__get__"))) && (decide (PySem.W.takesIn K (.builtin "object.__class__") = some true) && decide (PySem.W.mroIn K C (.type "object") = some true)))))))
def tpAll (tups : List (String × List Int)) (K : PySem.W.Frag) : Bool := tups.all fun t => He.tupB K (Str.ofString t.1) (t.2.map He.Dv.int)
def exAll (pres : List String) (K : PySem.W.Frag) : Bool := decide (PySem.W.nsIn K cStatics "sys.int_max_str_digits" = some none) && pres.all fun k => excB K (He.ga K (Str.ofString k)) && (decide (PySem.W.kitOne K (.ref (He.ga K (Str.ofString k))) (.type "ValueError") = some true) &&
  ((tyL.all fun t => decide (PySem.W.kitOne K (.type t) (.ref (He.ga K (Str.ofString k))) = some false)) && pres.all fun k' => decide (PySem.W.kitOne K (.ref (He.ga K (Str.ofString k))) (.ref (He.ga K (Str.ofString k'))) = some (subX k k'))))
def obsX (pres : List String) (tups : List (String × List Int)) (fa : List He.Fa) (fn : List He.DefD) (K : PySem.W.Frag) : He.AlD := ((He.obsD fa fn K).1 && (exAll pres K && tpAll tups K), (He.obsD fa fn K).2)
def SaysX (pres : List String) (tups : List (String × List Int)) (fa : List He.Fa) (fn : List He.DefD) (K : PySem.W.Frag) : Prop := obsX pres tups fa fn K = He.valD fn
/-- all addresses, the module's names first, then what the top has made -/
def asN (n : Nat) : List Addr := mainGlobals :: ((List.range n).drop 120 ++ (List.range n).take 120)
def obsXG (pres : List String) (tups : List (String × List Int)) (fa : List He.Fa) (fn : List He.DefD) (n : Nat) (g : Addr → Option Obj) : He.AlD := obsX pres tups fa fn (He.frG g (asN n))
def hookX (pres : List String) (tups : List (String × List Int)) (fa : List He.Fa) (fn : List He.DefD) : PySem.W.Hook where
  α := He.AlD
  obs := fun s => obsXG pres tups fa fn s.heap.objs.size s.heap.get?
  val := fun _ => He.valD fn
  says := fun _ h => ∃ K : PySem.W.Frag, K.In h ∧ SaysX pres tups fa fn K
  of := fun _ _ e => ⟨_, He.frG_in, e⟩
  keeps := fun _ _ _ ⟨K, hK, c⟩ k => ⟨K, PySem.W.Frag.In.keeps hK k, c⟩
theorem obsXG_eq {pres : List String} {tups : List (String × List Int)} {fa : List He.Fa} {fn : List He.DefD} (s : PySem.W.SharedT) : obsXG pres tups fa fn s.n (HandSHeadRun.getT s) = (hookX pres tups fa fn).obs s.abs := by
  have e : HandSHeadRun.getT s = s.abs.heap.get? := funext fun a => HandSHeadRun.getT_eq s a
  have z : s.abs.heap.objs.size = s.n := PySem.W.absHeap_size _ _ _
  show _ = obsXG pres tups fa fn s.abs.heap.objs.size s.abs.heap.get?
  rw [e, z]
/-- the run's equation part by part (the kernel's memory) -/
theorem run_join {r : PySem.W.OpenRow} {q : Program} {H : PySem.W.Hook} {ob : PySem.W.SharedT → H.α} {M : Nat} {loose : List PySem.Str} {w : World}
    (h1 : ∀ os : OsState, (HandSHeadRun.endF (HandSHeadRun.stepQ (HandSHeadRun.denQ HandSHeadRun.tabQ) r.prog w) M r.prog w os).map (fun s => (HandSHeadRun.looksF r.prog (PySem.W.boot_heap w.params) s.abs, HandSHeadRun.seenQ q loose (importedModules r.prog.main.body) (fun s => PySem.W.xlAt q [] s && PySem.W.recOk r.toRowW.records s) s.abs)) = some (true, PySem.W.openGood q loose))
    (h3 : ∀ os : OsState, (HandSHeadRun.endF (HandSHeadRun.stepQ (HandSHeadRun.denQ HandSHeadRun.tabQ) r.prog w) M r.prog w os).map ob = some (H.val w)) : HandSHeadRun.RunEq r q H ob M loose w := fun os => by
  have a := h1 os
  have c := h3 os
  cases e : HandSHeadRun.endF (HandSHeadRun.stepQ (HandSHeadRun.denQ HandSHeadRun.tabQ) r.prog w) M r.prog w os with
  | none => rw [e] at a; cases a
  | some s =>
    rw [e] at a c
    rw [Option.map_some] at a c ⊢
    have a1 := congrArg Prod.fst (Option.some.inj a)
    have a2 := congrArg Prod.snd (Option.some.inj a)
    have a3 := Option.some.inj c
    exact congrArg some (Prod.ext a1 (Prod.ext a2 a3))
end OL
namespace OL.LW
open PySem PySem.Spec PyProof.Rows L2
def top (i : Nat) : Stmt := PySem.Challenge.pw_oneleash_k57_fractions_misread.main.body.getD i (.Pass ⟨0, 0, 0, 0⟩)
abbrev s_is_whole : Stmt := top 9
abbrev s_divisor : Stmt := top 10
abbrev s_is_ratio : Stmt := top 11
abbrev s_figures_in : Stmt := top 15
abbrev s_whole_in : Stmt := top 16
abbrev s_read_ratio : Stmt := top 17
abbrev s__law_begun : Stmt := top 19
abbrev s__law_take : Stmt := top 20
abbrev s__law_wide : Stmt := top 21
abbrev s__law_divisor : Stmt := top 22
abbrev s__law_ratio : Stmt := top 23
abbrev s__law_below : Stmt := top 24
abbrev s__law_whole_in : Stmt := top 25
abbrev s__law_fraction : Stmt := top 26
abbrev s__law_shown : Stmt := top 27
abbrev s__law_altered : Stmt := top 28
abbrev s__law_drawn : Stmt := top 29
abbrev s__law_plain : Stmt := top 30
abbrev s__law_told_of : Stmt := top 31
abbrev s_law : Stmt := top 32
def pres : List String := ["LeashError", "NoRatio", "NoLine", "NoPlace", "NoWay", "NoWalk", "NoText"]
def more : List He.Fa :=
  [.glo "is_whole", .glo "divisor", .glo "is_ratio", .glo "figures_in", .glo "whole_in", .glo "read_ratio", .glo "_law_begun", .glo "_law_take", .glo "_law_wide", .glo "_law_divisor",
   .glo "_law_ratio", .glo "_law_below", .glo "_law_whole_in", .glo "_law_fraction", .glo "_law_shown", .glo "_law_altered", .glo "_law_drawn", .glo "_law_plain", .glo "_law_told_of", .glo "law",
   .int (Str.ofString "MOST_FIGURES") 1000, .str (Str.ofString "FIGURES") "0123456789"]
def tups : List (String × List Int) := []
def fas : List He.Fa := modFa pres ++ more
def fns : List He.DefD :=
  [dd "is_whole" s_is_whole [], dd "divisor" s_divisor [], dd "is_ratio" s_is_ratio [], dd "figures_in" s_figures_in [], dd "whole_in" s_whole_in [], dd "read_ratio" s_read_ratio [],
   dd "_law_begun" s__law_begun [], dd "_law_take" s__law_take [], dd "_law_wide" s__law_wide [], dd "_law_divisor" s__law_divisor [], dd "_law_ratio" s__law_ratio [],
   dd "_law_below" s__law_below [], dd "_law_whole_in" s__law_whole_in [], dd "_law_fraction" s__law_fraction [], dd "_law_shown" s__law_shown [], dd "_law_altered" s__law_altered [],
   dd "_law_drawn" s__law_drawn [], dd "_law_plain" s__law_plain [], dd "_law_told_of" s__law_told_of [], dd "law" s_law []]
abbrev RR : PySem.W.OpenRow := PySem.W.OpenLaw.row PySem.Challenge.rw_oneleash_k57_fractions_misread
abbrev hk : PySem.W.Hook := hookX pres tups fas fns
def ob (s : PySem.W.SharedT) : He.AlD := obsXG pres tups fas fns s.n (HandSHeadRun.getT s)
theorem ob_eq (s : PySem.W.SharedT) : ob s = hk.obs s.abs := obsXG_eq s
def names0 : List Str := ["LeashError", "NoRatio", "NoLine", "NoPlace", "NoWay", "NoWalk", "NoText", "FIGURES", "MOST_FIGURES", "is_whole", "divisor", "is_ratio", "figures_in", "whole_in", "read_ratio", "_law_begun", "_law_take", "_law_wide", "_law_divisor", "_law_ratio"]
def names1 : List Str := ["_law_below", "_law_whole_in", "_law_fraction", "_law_shown", "_law_altered", "_law_drawn", "_law_plain", "_law_told_of"]
def names : List Str := names0 ++ names1
theorem run1 (w : World) (os : OsState) : (HandSHeadRun.endF (HandSHeadRun.stepQ (HandSHeadRun.denQ HandSHeadRun.tabQ) RR.prog w) 15000 RR.prog w os).map (fun s => (HandSHeadRun.looksF RR.prog (PySem.W.boot_heap w.params) s.abs, HandSHeadRun.seenQ (PySem.W.view RR.prog [32]) names (importedModules RR.prog.main.body) (fun s => PySem.W.xlAt (PySem.W.view RR.prog [32]) [] s && PySem.W.recOk RR.toRowW.records s) s.abs)) = some (true, PySem.W.openGood (PySem.W.view RR.prog [32]) names) := by kernel_rfl
theorem run3 (w : World) (os : OsState) : (HandSHeadRun.endF (HandSHeadRun.stepQ (HandSHeadRun.denQ HandSHeadRun.tabQ) RR.prog w) 15000 RR.prog w os).map ob = some (hk.val w) := by kernel_rfl
theorem run (w : World) : HandSHeadRun.RunEq RR (PySem.W.view RR.prog [32]) hk ob 15000 names w := run_join (run1 w) (run3 w)
end OL.LW
/-! whole numbers of more than 640 figures, written and read -/
namespace OL
open PySem PySem.Calls PySem.NumText PyProof.Rows
theorem max_digits {M : Model} {A : Around} {E : Value → Shared → Prop} {s : Shared} {Q : Nat → Shared → Prop} (hn : s.heap.NoDigits) (h : Q 4300 s) : wpAny M A Builtin.intMaxStrDigits Q E s := by
  obtain ⟨mc, hns, hnone⟩ := hn
  unfold Builtin.intMaxStrDigits
  refine wpAny_bind (wpAny_nsGet hns ?_)
  rw [hnone]
  exact wpAny_pure h
theorem wp_big {M : Model} {A : Around} {E : Value → Shared → Prop} {s : Shared} {Q : Value → Shared → Prop} {v : Value} {text : List Nat} {n : Int} (hn : s.heap.NoDigits)
    (hs : ¬ (text.takeWhile (· != 0)).length ≤ 640) (hr : (int_private% "readNumeral") 4300 10 (text.takeWhile (· != 0)) = (int_private% "Numeral.value") n)
    (ha : ((text.takeWhile (· != 0)).length == text.length) = true) (h : Q (.int n s.toks) { s with toks := s.toks + 1 }) :
    wpAny M A ((int_private% "intFromText") v text 10) Q E s := by
  obtain ⟨hp, g, d, tk, os⟩ := s
  have md : ∀ {Q : Nat → Shared → Prop} {A : Around} {E : Value → Shared → Prop}, Q 4300 ⟨hp, g, d, tk, os⟩ → wpAny M A Builtin.intMaxStrDigits Q E ⟨hp, g, d, tk, os⟩ := fun q => max_digits hn q
  repeat (any_goals (first
    | assumption
    | (refine md ?_)
    | (with_reducible refine wpAny_ite_false (by rw [decide_eq_false hs]) ?_)
    | (with_reducible refine wpAny_ite_true (decide_eq_true ha) ?_)
    | wp_step))
  all_goals (try rw [hr])
  all_goals (try dsimp only)
  repeat (any_goals (first
    | assumption
    | (with_reducible refine wpAny_ite_true (decide_eq_true ha) ?_)
    | wp_step))
section
open PySem.Builtin PySem.Builtin.Str PySem.Builtin.Int
variable {prog : Program} {w : World} {A : Around} {E : Value → Shared → Prop} {s : Shared} {a : Int} {t : Tok}
theorem repr_big {Q : Value → Shared → Prop} (hn : s.heap.NoDigits) (hl : a.natAbs < 10 ^ 4300) (h : Q (.str (toString a) s.toks) { s with toks := s.toks + 1 }) :
    wpAny (model prog w) A (call (.builtin "int.__repr__") [.int a t]) Q E s := by
  refine wpAny_call_entry F.slot_int_repr (typeIs_int s a t) F.entry_int_repr ?_ (F.args_int_repr_1 _)
  unfold Builtin.«int.__repr__»
  show wpAny _ _ (do let r ← Builtin.overDigitLimit? a; _) _ _ s
  refine wpAny_bind (overDigitLimit_any hn (fun hlt => ?_) (fun hge => absurd hl (Nat.not_lt.mpr hge)))
  exact wpAny_bind (wpAny_mkStr (wpAny_pure ⟨_, rfl, h⟩) (int_text_fits10 hlt))
theorem strOf_big {Q : Value → Shared → Prop} (hn : s.heap.NoDigits) (hl : a.natAbs < 10 ^ 4300) (h : Q (.str (toString a) s.toks) { s with toks := s.toks + 1 }) :
    wpAny (model prog w) A (PySem.Builtin.Str.strOf (.int a t)) Q E s := by
  unfold PySem.Builtin.Str.strOf
  rw [show isExactStr (.int a t) = false from rfl]
  try (have hv : [Value.int a t].any Value.onHeap = false := rfl; simp only [cRoomFor, hv, Bool.false_eq_true, if_false, pure_bind])
  refine wpAny_bind (m := callSpecial? (.int a t) (Str.ofString "__str__")) (wpAny_callSpecial?_slot (name := Str.ofString "__str__") (typeIs_int s a t) F.slot_int_str ?_)
  refine wpAny_call_entry F.slot_int_str (typeIs_int s a t) entry_object_str ?_ (args_object_str _)
  unfold Builtin.«object.__str__»
  refine wpAny_bind (m := slotArgs "__str__" 0 _) (wpAny_pure ?_)
  try (have hv : [Value.int a t].any Value.onHeap = false := rfl; simp only [cRoomFor, hv, Bool.false_eq_true, if_false, pure_bind])
  refine wpAny_bind (m := callSpecialIfBound? (.int a t) (Str.ofString "__repr__")) (wpAny_callSpecialIfBound?_slot (name := Str.ofString "__repr__") (typeIs_int s a t) F.slot_int_repr
    (repr_big hn hl ?_))
  exact wpAny_pure ⟨_, rfl, wpAny_pure h⟩
theorem str_big {Q : Value → Shared → Prop} (hn : s.heap.NoDigits) (hl : a.natAbs < 10 ^ 4300)
    (h : Q (.str (toString a) s.toks) { s with toks := s.toks + 1 }) : wpAny (model prog w) A (call (.type "str") [.int a t]) Q E s :=
  callType_new F.called_str (by decide) (F.typeCall_str_1 _) (F.newCall_str_1 _) (fun obj => F.args_object_init_2 obj _) F.entry_str_new
    (meets_str_new (S := fun A R s => s.heap.NoDigits ∧ R (.ok (.ret (.str (toString a) s.toks))) { s with toks := s.toks + 1 })
      fun _ _ _ _ _ hq => strOf_big hq.1 hl hq.2)
    ⟨hn, typeIs_str _ _ _, h⟩
end
structure Hid (p : Prop) : Prop where
  out : p
open PySem.W.KIN (str_int str_idx str_trunc) in
theorem meets_big {x : PySem.Str} {u : Tok} {n : Int} (hl : x.length ≤ sizeLine) (hs : ¬ (numSeenOf x).length ≤ 640) (hn : PySem.intText? x = some n) :
    Meets (Builtin.«int.__new__» ⟨[.type "int", .str x u], []⟩) (fun A R s => s.heap.NoDigits ∧ R (.ok (.ret (.int n s.toks))) { s with toks := s.toks + 1 }) := fun prog w A R s hq => by
  refine wpAny_mono (Q := fun fin s' => ∃ v, fin = .done (.ret v) ∧ R (.ok (.ret v)) s') ?_ (fun fin s' h' => by obtain ⟨v, rfl, hv⟩ := h'; exact hv) fun _ _ x => x
  obtain ⟨hp, g, d, tk, os⟩ := s
  obtain ⟨nd, h⟩ := hq
  have f1 := F.conv_sub_int
  have f2 := F.madeHere_int
  have f3 := str_int
  have f4 := str_idx
  have f5 := str_trunc
  have f6 : typeOf (.str x u) = pure (.type "str") := rfl
  have hr : (int_private% "readNumeral") 4300 10 (numSeenOf x) = (int_private% "Numeral.value") n ∧ ((numSeenOf x).length == (numTextOf x).length) = true := by
    rcases read4300 x hl with ⟨m, h1, h2, h3⟩ | ⟨h1, _⟩
    · rw [hn] at h1
      injection h1 with h1
      subst h1
      exact ⟨h3, h2⟩
    · rw [hn] at h1
      cases h1
  have hk := Hid.mk (And.intro hs hr)
  have nk := Hid.mk nd
  clear hs hr hl hn nd
  repeat (any_goals (first
    | assumption
    | ((with_reducible show wpAny _ _ ((int_private% "intFromText") _ _ _) _ _ _); refine wp_big nk.out hk.out.1 hk.out.2.1 hk.out.2.2 ?_)
    | wp_step))
  all_goals first | exact ⟨_, rfl, h⟩ | skip
open PySem.W.KIN (str_int str_idx str_trunc) in
theorem meets_small {x : PySem.Str} {u : Tok} {n : Int} (hl : x.length ≤ sizeLine) (hs : (numSeenOf x).length ≤ 640) (hn : PySem.intText? x = some n) :
    Meets (Builtin.«int.__new__» ⟨[.type "int", .str x u], []⟩) (fun A R s => s.heap.NoDigits ∧ R (.ok (.ret (.int n s.toks))) { s with toks := s.toks + 1 }) := fun prog w A R s hq => by
  refine wpAny_mono (Q := fun fin s' => ∃ v, fin = .done (.ret v) ∧ R (.ok (.ret v)) s') ?_ (fun fin s' h' => by obtain ⟨v, rfl, hv⟩ := h'; exact hv) fun _ _ x => x
  obtain ⟨hp, g, d, tk, os⟩ := s
  obtain ⟨nd, h⟩ := hq
  have f1 := F.conv_sub_int
  have f2 := F.madeHere_int
  have f3 := str_int
  have f4 := str_idx
  have f5 := str_trunc
  have f6 : typeOf (.str x u) = pure (.type "str") := rfl
  have hr : (int_private% "readNumeral") 0 10 (numSeenOf x) = (int_private% "Numeral.value") n ∧ ((numSeenOf x).length == (numTextOf x).length) = true := by
    rcases read0 x hs with ⟨m, h1, h2, h3⟩ | ⟨h1, _⟩
    · rw [hn] at h1
      injection h1 with h1
      subst h1
      exact ⟨h3, h2⟩
    · rw [hn] at h1
      cases h1
  have hk := Hid.mk (And.intro hs hr)
  have nk := Hid.mk nd
  clear hs hr hl hn nd
  repeat (any_goals (first
    | assumption
    | ((with_reducible show wpAny _ _ ((int_private% "intFromText") _ _ _) _ _ _); refine PySem.W.KIN.wp_text hk.out.1 hk.out.2.1 hk.out.2.2 ?_)
    | wp_step))
  all_goals first | exact ⟨_, rfl, h⟩ | skip
theorem int_big {prog : Program} {w : World} {A : Around} {E : Value → Shared → Prop} {s : Shared} {x : PySem.Str} {t : Tok} {n : Int} {Q : Value → Shared → Prop} (hn : s.heap.NoDigits) (hl : x.length ≤ sizeLine) (hi : PySem.intText? x = some n)
    (h : Q (.int n s.toks) { s with toks := s.toks + 1 }) : wpAny (model prog w) A (call (.type "int") [.str x t]) Q E s := by
  by_cases hs : (numSeenOf x).length ≤ 640
  · exact call_int_1 (meets_small hl hs hi) ⟨hn, rfl, h⟩
  · exact call_int_1 (meets_big hl hs hi) ⟨hn, rfl, h⟩
end OL
/-! How plain data lies in the heap, and what stays of that. -/
namespace OL
open PySem PySem.Spec PyProof.Rows L2
/-- a list that nobody changes: frozen, or the module's own -/
def ScA (K : PySem.W.Frag) (H : Hp) (a : Addr) (xs : List V) : Prop := (∃ o : Obj, H a = some (.frz o (.lst xs))) ∨
  ∃ (o : Obj) (its : Array Value) (n : Nat), K.lookup a = some o ∧ o.cls = .type "list" ∧ o.dict = none ∧ o.data = .seq its n ∧ its.size ≤ sizeLine ∧ Vals xs its.toList
theorem ScA.sq {K : PySem.W.Frag} {H : Hp} {a : Addr} {xs : List V} (h : ScA K H a xs) : SqL K H a xs := h.elim (fun ⟨o, e⟩ => .inl (.inr ⟨o, e⟩)) .inr
def isExc (k : String) : Bool := ["LeashError", "NoRatio", "NoLine", "NoPlace", "NoWay", "NoWalk", "NoFence", "NoSquare", "NoLines", "NoText", "NoName", "Twice", "TooMany", "NoRow", "NoDeed"].contains k
/-- an error's object, as isinstance wants it -/
def ErP (cls : Value) (a : Addr) (h : Heap) : Prop := ∃ (ob : Obj) (fs : Array Value), h.get? a = some ob ∧ Zc cls none ob ∧ ob.data = .fields fs
def KeO (cls : Value) (a : Addr) : HO := .ext (ErP cls a)
mutual
/-- the value v bears the data d in the heap H; its lists stand at addresses of Z -/
inductive Rp (K : PySem.W.Frag) (mg : Str → Option Value) (H : Hp) (Z : Addr → Prop) : D → V → Prop
  | non : Rp K mg H Z .non .non
  | bl (b : Bool) : Rp K mg H Z (.bl b) (.bl b)
  | int (i : Int) : Rp K mg H Z (.int i) (.int i)
  | str (x : Str) : Rp K mg H Z (.str x) (.str x)
  | tup {a : Addr} {xs : List V} {ds : List D} : SqT K H a xs → RpA K mg H Z ds xs → Rp K mg H Z (.tup ds) (.ref a)
  | lst {a : Addr} {xs : List V} {ds : List D} : H a = some (.lst xs) → Z a → RpA K mg H Z ds xs → Rp K mg H Z (.lst ds) (.ref a)
  | scr {a : Addr} {ns : List Int} : ScA K H a (ns.map V.int) → Rp K mg H Z (.scr ns) (.ref a)
  | dic {a : Addr} {kvs : List (Key × V)} {n : Nat} : H a = some (.dK kvs) → Z a → Rp K mg H Z (.dic n) (.ref a)
  | exc {a C : Addr} {c : String} {φ : Heap → Prop} : H a = some (.ext φ) → (∀ h, φ h → ErP (.ref C) a h) → mg (Str.ofString c) = some (.ref C) → OL.isExc c = true → Rp K mg H Z (.exc c) (.ref a)
inductive RpA (K : PySem.W.Frag) (mg : Str → Option Value) (H : Hp) (Z : Addr → Prop) : List D → List V → Prop
  | nil : RpA K mg H Z [] []
  | cons {d : D} {ds : List D} {v : V} {vs : List V} : Rp K mg H Z d v → RpA K mg H Z ds vs → RpA K mg H Z (d :: ds) (v :: vs)
end
/-- what may change in place -/
def mutO : HO → Bool
  | .lst _ => true
  | .dK _ => true
  | .dT _ => true
  | .ins _ _ _ => true
  | .set _ _ => true
  | _ => false
/-- what is not changed: all but what may change outside of Z -/
def Stay (H : Hp) (Z : Addr → Prop) (H' : Hp) : Prop := ∀ a o, H a = some o → (mutO o = true → Z a) → H' a = some o
theorem Stay.of_same {H H' : Hp} {Z : Addr → Prop} (h : Same H H') : Stay H Z H' := fun a o e _ => h a o e
theorem Stay.sqT {K : PySem.W.Frag} {H H' : Hp} {Z : Addr → Prop} {a : Addr} {xs : List V} (h : Stay H Z H') (s : SqT K H a xs) : SqT K H' a xs := by
  rcases s with (s | ⟨o, s⟩) | s
  · exact .inl (.inl (h _ _ s (fun z => by cases z)))
  · exact .inl (.inr ⟨o, h _ _ s (fun z => by cases z)⟩)
  · exact .inr s
theorem Stay.scA {K : PySem.W.Frag} {H H' : Hp} {Z : Addr → Prop} {a : Addr} {xs : List V} (h : Stay H Z H') (s : ScA K H a xs) : ScA K H' a xs := by
  rcases s with ⟨o, s⟩ | s
  · exact .inl ⟨o, h _ _ s (fun z => by cases z)⟩
  · exact .inr s
section
variable {K : PySem.W.Frag} {mg : Str → Option Value} {H H' : Hp} {Z Z' : Addr → Prop}
mutual
theorem Rp.mono (h : Stay H Z H') (hz : ∀ a o, H a = some o → Z a → Z' a) : ∀ {d : D} {v : V}, Rp K mg H Z d v → Rp K mg H' Z' d v
  | _, _, .non => .non
  | _, _, .bl b => .bl b
  | _, _, .int i => .int i
  | _, _, .str x => .str x
  | _, _, .tup s r => .tup (h.sqT s) (RpA.mono h hz r)
  | _, _, .lst e z r => .lst (h _ _ e fun _ => z) (hz _ _ e z) (RpA.mono h hz r)
  | _, _, .scr e => .scr (h.scA e)
  | _, _, .dic e z => .dic (h _ _ e fun _ => z) (hz _ _ e z)
  | _, _, .exc e f m k => .exc (h _ _ e (fun z => by cases z)) f m k
theorem RpA.mono (h : Stay H Z H') (hz : ∀ a o, H a = some o → Z a → Z' a) : ∀ {ds : List D} {vs : List V}, RpA K mg H Z ds vs → RpA K mg H' Z' ds vs
  | _, _, .nil => .nil
  | _, _, .cons r t => .cons (Rp.mono h hz r) (RpA.mono h hz t)
end
theorem Rp.same {d : D} {v : V} (r : Rp K mg H Z d v) (h : Same H H') : Rp K mg H' Z d v := r.mono (.of_same h) fun _ _ _ z => z
theorem RpA.same {ds : List D} {vs : List V} (r : RpA K mg H Z ds vs) (h : Same H H') : RpA K mg H' Z ds vs := r.mono (.of_same h) fun _ _ _ z => z
theorem Rp.weak {d : D} {v : V} (r : Rp K mg H Z d v) (hz : ∀ a o, H a = some o → Z a → Z' a) : Rp K mg H Z' d v := r.mono (.of_same (Same.refl _)) hz
theorem RpA.weak {ds : List D} {vs : List V} (r : RpA K mg H Z ds vs) (hz : ∀ a o, H a = some o → Z a → Z' a) : RpA K mg H Z' ds vs := r.mono (.of_same (Same.refl _)) hz
theorem RpA.length : ∀ {ds : List D} {vs : List V}, RpA K mg H Z ds vs → ds.length = vs.length
  | _, _, .nil => rfl
  | _, _, .cons _ t => congrArg (· + 1) (RpA.length t)
theorem RpA.get : ∀ {ds : List D} {vs : List V} {i : Nat} {d : D}, RpA K mg H Z ds vs → ds[i]? = some d → ∃ v, vs[i]? = some v ∧ Rp K mg H Z d v
  | _, _, _, _, .nil, e => by simp at e
  | _, _, 0, _, .cons r _, e => by simp at e; subst e; exact ⟨_, rfl, r⟩
  | _, _, i + 1, d, .cons _ t, e => by
    obtain ⟨v, h1, h2⟩ := RpA.get (i := i) (d := d) t (by simpa using e)
    exact ⟨v, by simpa using h1, h2⟩
theorem RpA.getV : ∀ {ds : List D} {vs : List V} {i : Nat} {v : V}, RpA K mg H Z ds vs → vs[i]? = some v → ∃ d, ds[i]? = some d ∧ Rp K mg H Z d v
  | _, _, _, _, .nil, e => by simp at e
  | _, _, 0, _, .cons r _, e => by simp at e; subst e; exact ⟨_, rfl, r⟩
  | _, _, i + 1, d, .cons _ t, e => by
    obtain ⟨v, h1, h2⟩ := RpA.getV (i := i) t (by simpa using e)
    exact ⟨v, by simpa using h1, h2⟩
theorem RpA.append : ∀ {ds es : List D} {vs us : List V}, RpA K mg H Z ds vs → RpA K mg H Z es us → RpA K mg H Z (ds ++ es) (vs ++ us)
  | _, _, _, _, .nil, s => s
  | _, _, _, _, .cons r t, s => .cons r (RpA.append t s)
theorem RpA.take : ∀ {ds : List D} {vs : List V} (n : Nat), RpA K mg H Z ds vs → RpA K mg H Z (ds.take n) (vs.take n)
  | _, _, 0, _ => .nil
  | _, _, _ + 1, .nil => .nil
  | _, _, n + 1, .cons r t => .cons r (RpA.take n t)
theorem RpA.drop : ∀ {ds : List D} {vs : List V} (n : Nat), RpA K mg H Z ds vs → RpA K mg H Z (ds.drop n) (vs.drop n)
  | _, _, 0, r => r
  | _, _, _ + 1, .nil => .nil
  | _, _, n + 1, .cons _ t => RpA.drop n t
theorem RpA.reverse {ds : List D} {vs : List V} (r : RpA K mg H Z ds vs) : RpA K mg H Z ds.reverse vs.reverse := by
  induction ds generalizing vs with
  | nil => cases r; exact .nil
  | cons d ds ih =>
    cases r with
    | cons a b =>
      rw [List.reverse_cons, List.reverse_cons]
      exact (ih b).append (.cons a .nil)
theorem RpA.set {d : D} {v : V} (r : Rp K mg H Z d v) : ∀ {ds : List D} {vs : List V} (i : Nat), RpA K mg H Z ds vs → RpA K mg H Z (ds.set i d) (vs.set i v)
  | _, _, _, .nil => .nil
  | _, _, 0, .cons _ t => .cons r t
  | _, _, i + 1, .cons q t => .cons q (RpA.set r i t)
theorem RpA.eraseIdx : ∀ {ds : List D} {vs : List V} (i : Nat), RpA K mg H Z ds vs → RpA K mg H Z (ds.eraseIdx i) (vs.eraseIdx i)
  | _, _, _, .nil => .nil
  | _, _, 0, .cons _ t => t
  | _, _, i + 1, .cons q t => .cons q (RpA.eraseIdx i t)
theorem RpA.rep {ds : List D} {vs : List V} (r : RpA K mg H Z ds vs) : ∀ k : Nat, RpA K mg H Z (List.replicate k ds).flatten (List.replicate k vs).flatten
  | 0 => .nil
  | k + 1 => by
    rw [List.replicate_succ, List.replicate_succ, List.flatten_cons, List.flatten_cons]
    exact r.append (RpA.rep r k)
theorem RpA.ints : ∀ (ns : List Int), RpA K mg H Z (ns.map .int) (ns.map V.int)
  | [] => .nil
  | n :: ns => .cons (.int n) (RpA.ints ns)
theorem RpA.cut {ds : List D} {vs : List V} (r : RpA K mg H Z ds vs) (lo hi : Option Int) : RpA K mg H Z (cutD ds lo hi) (cutV vs lo hi) := by
  unfold cutD cutV
  rw [r.length]
  exact (r.drop _).take _
theorem RpA.atI {ds : List D} {vs : List V} {i : Int} {d : D} (r : RpA K mg H Z ds vs) (h : L2.atI ds i = some d) : ∃ v, L2.atI vs i = some v ∧ Rp K mg H Z d v := by
  unfold L2.atI at h ⊢
  rw [r.length] at h
  cases e : ixN vs.length i with
  | none => rw [e] at h; cases h
  | some j =>
    rw [e] at h
    exact r.get h
mutual
/-- data without lists stands whatever Z -/
theorem Rp.flat : ∀ {d : D} {v : V}, Rp K mg H Z d v → OL.flat d = true → Rp K mg H Z' d v
  | _, _, .non, _ => .non
  | _, _, .bl b, _ => .bl b
  | _, _, .int i, _ => .int i
  | _, _, .str x, _ => .str x
  | _, _, .tup s r, f => .tup s (RpA.flat r (by unfold OL.flat at f; exact f))
  | _, _, .lst _ _ _, f => by unfold OL.flat at f; cases f
  | _, _, .scr _, f => by unfold OL.flat at f; cases f
  | _, _, .dic _ _, f => by unfold OL.flat at f; cases f
  | _, _, .exc _ _ _ _, f => by unfold OL.flat at f; cases f
theorem RpA.flat : ∀ {ds : List D} {vs : List V}, RpA K mg H Z ds vs → OL.flatL ds = true → RpA K mg H Z' ds vs
  | _, _, .nil, _ => .nil
  | _, _, .cons r t, f => by
    unfold OL.flatL at f
    rw [Bool.and_eq_true] at f
    exact .cons (Rp.flat r f.1) (RpA.flat t f.2)
end
mutual
theorem Rp.dp : ∀ {d : D} {v : V}, Rp K mg H Z d v → PyData.canLay0 (toP d) = true → Dp K H v (toP d)
  | _, _, .non, _ => .non
  | _, _, .bl b, _ => .bl b
  | _, _, .int i, _ => .int i
  | _, _, .str x, _ => .str x
  | _, _, .tup s r, f => .tup s (RpA.dp r (by unfold toP PyData.canLay0 at f; exact f))
  | _, _, .lst e _ r, f => .lst (SqL.of e) (RpA.dp r (by unfold toP PyData.canLay0 at f; exact f))
  | _, _, .scr (ns := ns) e, f => by
    unfold toP
    refine .lst e.sq ?_
    induction ns with
    | nil => exact .nil
    | cons n ns ih => exact .cons (.int n) (scr_dp ns)
  | _, _, .dic _ _, f => by unfold toP PyData.canLay0 at f; cases f
  | _, _, .exc _ _ _ _, f => by unfold toP PyData.canLay0 at f; cases f
theorem RpA.dp : ∀ {ds : List D} {vs : List V}, RpA K mg H Z ds vs → PyData.canLayAll0 (toPL ds) = true → DpAll K H vs (toPL ds)
  | _, _, .nil, _ => by unfold toPL; exact .nil
  | _, _, .cons r t, f => by
    unfold toPL at f ⊢
    unfold PyData.canLayAll0 at f
    rw [Bool.and_eq_true] at f
    exact .cons (Rp.dp r f.1) (RpA.dp t f.2)
theorem scr_dp : ∀ (ns : List Int), DpAll K H (ns.map V.int) (ns.map PyData.int)
  | [] => .nil
  | n :: ns => .cons (.int n) (scr_dp ns)
end
end
end OL
/-! The slots of a frame against the small language's slots; readings of expressions. -/
namespace OL
open PySem PySem.Spec PyProof.Rows L2
/-- what a body stands on: the written part, the module's names, the heap at its entry, where lists may stand -/
structure GQ where
  g : Addr → Prop
  q : Option Addr
structure Cn where
  K : PySem.W.Frag
  mg : Str → Option Value
  H0 : Hp
  G : GQ
@[reducible] def Cn.Gp (c : Cn) : Addr → Prop := c.G.g
/-- the caller's list that may be changed -/
@[reducible] def Cn.Qa (c : Cn) : Option Addr := c.G.q
abbrev Sg := List (Option V)
def own (σ : Sg) (ρ : En) (a : Addr) : Prop := ∃ (i : Nat) (ds : List D), ρ[i]? = some (.o ds) ∧ σ[i]? = some (some (V.ref a))
def Gd (c : Cn) (a : Addr) : Prop := c.Gp a
def Zf (c : Cn) (σ : Sg) (ρ : En) (a : Addr) : Prop := Gd c a ∧ ¬ own σ ρ a
structure ER (c : Cn) (H : Hp) (σ : Sg) (ρ : En) : Prop where
  len : σ.length = ρ.length
  sm : ∀ a o, c.H0 a = some o → c.Qa ≠ some a → H a = some o
  nw : ∀ p, H p = none → c.Gp p
  dm : ∀ p, H p = none → c.H0 p = none
  qg : ∀ a, c.Qa = some a → ¬ c.Gp a ∧ (∃ o, c.H0 a = some o) ∧ ∃ xs, H a = some (.lst xs)
  lsq : ∀ (i : Nat) (ds : List D), ρ[i]? = some (.q ds) → i = 0 ∧ ∃ (a : Addr) (xs : List V), σ[i]? = some (some (V.ref a)) ∧ c.Qa = some a ∧ H a = some (.lst xs) ∧ RpA c.K c.mg H (Zf c σ ρ) ds xs
  val : ∀ (i : Nat) (d : D), ρ[i]? = some (.v d) → ∃ v, σ[i]? = some (some v) ∧ Rp c.K c.mg H (Zf c σ ρ) d v
  lst : ∀ (i : Nat) (ds : List D), ρ[i]? = some (.o ds) → ∃ (a : Addr) (xs : List V), σ[i]? = some (some (V.ref a)) ∧ H a = some (.lst xs) ∧ (c.H0 a = none ∧ c.Gp a) ∧ RpA c.K c.mg H (Zf c σ ρ) ds xs
  uniq : ∀ (i j : Nat) (a : Addr) (ds es : List D), ρ[i]? = some (.o ds) → ρ[j]? = some (.o es) → σ[i]? = some (some (V.ref a)) → σ[j]? = some (some (V.ref a)) → i = j
section
variable {c : Cn} {H H' : Hp} {σ : Sg} {ρ : En}
theorem ER.same (h : ER c H σ ρ) (s : Same H H') : ER c H' σ ρ where
  len := h.len
  sm := fun a o e n => s _ _ (h.sm a o e n)
  nw := fun p hp => h.nw p (s.free hp)
  dm := fun p hp => h.dm p (s.free hp)
  qg := fun a e => let ⟨g1, g2, xs, g3⟩ := h.qg a e; ⟨g1, g2, xs, s _ _ g3⟩
  lsq := fun i ds e => let ⟨z, a, xs, e1, e2, e3, r⟩ := h.lsq i ds e; ⟨z, a, xs, e1, e2, s _ _ e3, r.same s⟩
  val := fun i d e => let ⟨v, e1, r⟩ := h.val i d e; ⟨v, e1, r.same s⟩
  lst := fun i ds e => let ⟨a, xs, e1, e2, e3, r⟩ := h.lst i ds e; ⟨a, xs, e1, s _ _ e2, e3, r.same s⟩
  uniq := h.uniq
theorem ER.newZ (h : ER c H σ ρ) {p : Addr} (hp : H p = none) : Zf c σ ρ p :=
  ⟨h.nw p hp, fun ⟨i, ds, e1, e2⟩ => by
    obtain ⟨a, xs, e3, e4, _⟩ := h.lst i ds e1
    rw [e2] at e3
    cases e3
    rw [hp] at e4
    cases e4⟩
end
/-- readable data: as above, or a list of one's own -/
inductive Rb (K : PySem.W.Frag) (mg : Str → Option Value) (H : Hp) (Z : Addr → Prop) : D → V → Prop
  | p {d : D} {v : V} : Rp K mg H Z d v → Rb K mg H Z d v
  | o {a : Addr} {xs : List V} {ds : List D} : H a = some (.lst xs) → RpA K mg H Z ds xs → Rb K mg H Z (.lst ds) (.ref a)
inductive RbA (K : PySem.W.Frag) (mg : Str → Option Value) (H : Hp) (Z : Addr → Prop) : List D → List V → Prop
  | nil : RbA K mg H Z [] []
  | cons {d : D} {ds : List D} {v : V} {vs : List V} : Rb K mg H Z d v → RbA K mg H Z ds vs → RbA K mg H Z (d :: ds) (v :: vs)
section
variable {K : PySem.W.Frag} {mg : Str → Option Value} {H H' : Hp} {Z Z' : Addr → Prop}
theorem Rb.same {d : D} {v : V} (r : Rb K mg H Z d v) (h : Same H H') : Rb K mg H' Z d v := by
  cases r with
  | p r => exact .p (r.same h)
  | o e r => exact .o (h _ _ e) (r.same h)
theorem RbA.same : ∀ {ds : List D} {vs : List V}, RbA K mg H Z ds vs → Same H H' → RbA K mg H' Z ds vs
  | _, _, .nil, _ => .nil
  | _, _, .cons r t, h => .cons (r.same h) (RbA.same t h)
theorem Rb.top {d : D} {v : V} (r : Rb K mg H Z d v) : Rp K mg H (fun _ => True) d v := by
  cases r with
  | p r => exact r.weak fun _ _ _ _ => trivial
  | o e r => exact .lst e trivial (r.weak fun _ _ _ _ => trivial)
theorem RbA.top : ∀ {ds : List D} {vs : List V}, RbA K mg H Z ds vs → RpA K mg H (fun _ => True) ds vs
  | _, _, .nil => .nil
  | _, _, .cons r t => .cons r.top (RbA.top t)
theorem RbA.of : ∀ {ds : List D} {vs : List V}, RpA K mg H Z ds vs → RbA K mg H Z ds vs
  | _, _, .nil => .nil
  | _, _, .cons r t => .cons (.p r) (RbA.of t)
/-- a readable list: its values -/
theorem Rb.lst {ds : List D} {v : V} (r : Rb K mg H Z (.lst ds) v) : ∃ a xs, v = .ref a ∧ H a = some (.lst xs) ∧ RpA K mg H Z ds xs := by
  cases r with
  | p r => cases r with | lst e _ r => exact ⟨_, _, rfl, e, r⟩
  | o e r => exact ⟨_, _, rfl, e, r⟩
theorem Rb.tup {ds : List D} {v : V} (r : Rb K mg H Z (.tup ds) v) : ∃ a xs, v = .ref a ∧ SqT K H a xs ∧ RpA K mg H Z ds xs := by
  cases r with | p r => cases r with | tup e r => exact ⟨_, _, rfl, e, r⟩
theorem Rb.int {i : Int} {v : V} (r : Rb K mg H Z (.int i) v) : v = .int i := by
  cases r with | p r => cases r; rfl
theorem Rb.str {i : Str} {v : V} (r : Rb K mg H Z (.str i) v) : v = .str i := by
  cases r with | p r => cases r; rfl
theorem Rb.bl {i : Bool} {v : V} (r : Rb K mg H Z (.bl i) v) : v = .bl i := by
  cases r with | p r => cases r; rfl
theorem Rb.non {v : V} (r : Rb K mg H Z .non v) : v = .non := by
  cases r with | p r => cases r; rfl
theorem Rb.scr {ns : List Int} {v : V} (r : Rb K mg H Z (.scr ns) v) : ∃ a, v = .ref a ∧ ScA K H a (ns.map V.int) := by
  cases r with | p r => cases r with | scr e => exact ⟨_, rfl, e⟩
theorem Rb.val {d : D} {v : V} (r : Rb K mg H Z d v) (s : scalD d = true) : v = valD d := by
  cases r with
  | p r => cases r <;> first | rfl | cases s
  | o _ _ => cases s
end
/-- not a list of one's own -/
def nb : Ex → Bool
  | .bor _ => false
  | _ => true
/-- hands back a new list, if a list at all -/
def frx : Ex → Bool
  | .lst _ => true
  | .lc .. => true
  | .sl .. => true
  | .blt .list _ => true
  | .bin .. => true
  | .rvl _ => true
  | .sm .split _ _ => true
  | .call f _ _ => f.fr
  | _ => false
/-- behind an expression -/
structure Po (c : Cn) (σ : Sg) (ρ : En) (x : Ex) (H H' : Hp) (d : D) (v : V) : Prop where
  same : Same H H'
  rb : Rb c.K c.mg H' (Zf c σ ρ) d v
  rp : nb x = true → Rp c.K c.mg H' (Zf c σ ρ) d v
  fr : frx x = true → ∀ ds, d = .lst ds → ∃ a xs, v = .ref a ∧ H a = none ∧ H' a = some (.lst xs) ∧ RpA c.K c.mg H' (fun b => Zf c σ ρ b ∧ b ≠ a) ds xs
structure PoA (c : Cn) (σ : Sg) (ρ : En) (xs : List Ex) (H H' : Hp) (ds : List D) (vs : List V) : Prop where
  same : Same H H'
  rb : RbA c.K c.mg H' (Zf c σ ρ) ds vs
  rp : xs.all nb = true → RpA c.K c.mg H' (Zf c σ ρ) ds vs
theorem Po.plain {c : Cn} {σ : Sg} {ρ : En} {x : Ex} {H H' : Hp} {d : D} {v : V} (s : Same H H') (r : Rp c.K c.mg H' (Zf c σ ρ) d v) (f : frx x = false) : Po c σ ρ x H H' d v :=
  ⟨s, .p r, fun _ => r, fun z => by rw [f] at z; cases z⟩
/-- an answer that is no list -/
theorem Po.noL {c : Cn} {σ : Sg} {ρ : En} {x : Ex} {H H' : Hp} {d : D} {v : V} (s : Same H H') (r : Rp c.K c.mg H' (Zf c σ ρ) d v) (f : ∀ ds, d ≠ .lst ds) : Po c σ ρ x H H' d v :=
  ⟨s, .p r, fun _ => r, fun _ ds z => absurd z (f ds)⟩
/-- a new list -/
theorem Po.newL {c : Cn} {σ : Sg} {ρ : En} {x : Ex} {H H1 : Hp} {ds : List D} {xs : List V} {p : Addr} (h : ER c H σ ρ) (s : Same H H1) (hp : H1 p = none) (r : RpA c.K c.mg H1 (Zf c σ ρ) ds xs) : Po c σ ρ x H (upd H1 p (.lst xs)) (.lst ds) (.ref p) := by
  have s1 : Same H1 (upd H1 p (.lst xs)) := fun b o e => by rw [upd_ne (ne_of_none e hp)]; exact e
  have z : Zf c σ ρ p := (h.same s).newZ hp
  have r1 : RpA c.K c.mg (upd H1 p (.lst xs)) (fun b => Zf c σ ρ b ∧ b ≠ p) ds xs := (r.mono (Z' := fun b => Zf c σ ρ b ∧ b ≠ p) (.of_same s1) fun a o e q => ⟨q, ne_of_none e hp⟩)
  have r2 : Rp c.K c.mg (upd H1 p (.lst xs)) (Zf c σ ρ) (.lst ds) (.ref p) := .lst upd_same z (r1.weak fun _ _ _ q => q.1)
  refine ⟨s.trans s1, .p r2, fun _ => r2, fun _ es e => ?_⟩
  cases e
  exact ⟨p, xs, rfl, s.free hp, upd_same, r1⟩
theorem same_upd {H : Hp} {p : Addr} {o : HO} (h : H p = none) : Same H (upd H p o) := fun b x e => by
  rw [upd_ne (ne_of_none e h)]
  exact e
/-- what is wished of an error of the class named k -/
def XW (c : Cn) (W : WX) (k : String) (σ : Sg) (H : Hp) : Prop := ∀ C, isExc k = true → c.mg (Str.ofString k) = some (.ref C) → W (.ref C) none σ H
def tX (c : Cn) (W : WX) (x : Ex) : TE := fun σ H Q => ∃ ρ, ER c H σ ρ ∧ (ev ρ x).all (fun d => ∀ v H', Po c σ ρ x H H' d v → Q v H') (fun k => ∀ H', Same H H' → XW c W k σ H')
def tA (c : Cn) (W : WX) (xs : List Ex) : TA := fun σ H Q => ∃ ρ, ER c H σ ρ ∧ (evs ρ xs).all (fun ds => ∀ vs H', PoA c σ ρ xs H H' ds vs → Q vs H') (fun k => ∀ H', Same H H' → XW c W k σ H')
def tT (c : Cn) (W : WX) (x : Ex) : TT := fun σ H Q => ∃ ρ, ER c H σ ρ ∧ (tst ρ x).all (fun b => ∀ H', Same H H' → Q b H') (fun k => ∀ H', Same H H' → XW c W k σ H')
theorem pe_imp {X : Cx} {e : Expr} {t t' : TE} (h : PE X e t) (i : ∀ σ H Q, t' σ H Q → t σ H Q) : PE X e t' := ⟨fun pins s σ H Q I q => h.run pins s σ H Q I (i σ H Q q)⟩
theorem pt_imp {X : Cx} {e : Expr} {t t' : TT} (h : PT X e t) (i : ∀ σ H Q, t' σ H Q → t σ H Q) : PT X e t' := ⟨fun pins s σ H Q I q => h.run pins s σ H Q I (i σ H Q q)⟩
theorem pa_imp {X : Cx} {e : List Expr} {t t' : TA} (h : PA X e t) (i : ∀ σ H Q, t' σ H Q → t σ H Q) : PA X e t' := ⟨fun pos pins s σ H Q I q => h.run pos pins s σ H Q I (i σ H Q q)⟩
theorem ps_imp {X : Cx} {e : Stmt} {t t' : TS} (h : PS X e t) (i : ∀ D σ H, t' D σ H → t D σ H) : PS X e t' := ⟨fun pins s σ H D I q => h.run pins s σ H D I (i D σ H q)⟩
theorem pss_imp {X : Cx} {e : List Stmt} {t t' : TS} (h : PSs X e t) (i : ∀ D σ H, t' D σ H → t D σ H) : PSs X e t' := ⟨fun pins s σ H D I q => h.run pins s σ H D I (i D σ H q)⟩
/-- the step of a sequence of parts: the first part, then what is wanted behind it -/
theorem tX_then {c : Cn} {W : WX} {x : Ex} {σ : Sg} {H : Hp} {ρ : En} {Q : VK} {β : Type} {f : D → R β} {p : β → Prop} (h : ER c H σ ρ)
    (q : ((ev ρ x).bind f).all p (fun k => ∀ H', Same H H' → XW c W k σ H'))
    (hk : ∀ d v H', ev ρ x = .ok d → Po c σ ρ x H H' d v → ER c H' σ ρ → (f d).all p (fun k => ∀ H'', Same H' H'' → XW c W k σ H'') → Q v H') : tX c W x σ H Q := by
  refine ⟨ρ, h, ?_⟩
  cases e : ev ρ x with
  | ok d =>
    rw [e] at q
    intro v H' po
    refine hk d v H' e po (h.same po.same) ?_
    have q' : (f d).all p (fun k => ∀ H', Same H H' → XW c W k σ H') := q
    cases e2 : f d with
    | ok b => rw [e2] at q'; exact q'
    | exc k => rw [e2] at q'; exact fun H'' s => q' H'' (po.same.trans s)
    | bad => rw [e2] at q'; exact q'.elim
  | exc k => rw [e] at q; exact q
  | bad => rw [e] at q; exact q.elim
theorem tA_then {c : Cn} {W : WX} {xs : List Ex} {σ : Sg} {H : Hp} {ρ : En} {Q : List V → Hp → Prop} {β : Type} {f : List D → R β} {p : β → Prop} (h : ER c H σ ρ)
    (q : ((evs ρ xs).bind f).all p (fun k => ∀ H', Same H H' → XW c W k σ H'))
    (hk : ∀ ds vs H', evs ρ xs = .ok ds → PoA c σ ρ xs H H' ds vs → ER c H' σ ρ → (f ds).all p (fun k => ∀ H'', Same H' H'' → XW c W k σ H'') → Q vs H') : tA c W xs σ H Q := by
  refine ⟨ρ, h, ?_⟩
  cases e : evs ρ xs with
  | ok d =>
    rw [e] at q
    intro v H' po
    refine hk d v H' e po (h.same po.same) ?_
    have q' : (f d).all p (fun k => ∀ H', Same H H' → XW c W k σ H') := q
    cases e2 : f d with
    | ok b => rw [e2] at q'; exact q'
    | exc k => rw [e2] at q'; exact fun H'' s => q' H'' (po.same.trans s)
    | bad => rw [e2] at q'; exact q'.elim
  | exc k => rw [e] at q; exact q
  | bad => rw [e] at q; exact q.elim
end OL
/-! a comprehension whose item raises: the exception goes through the comprehension's block -/
namespace OL
open PySem PySem.Spec PyProof.Rows L2
/-- as XE, held at L -/
def XEat (X : Cx) (L : Addr) (W : WX) (u : Value) (s' : Shared) : Prop :=
  ∃ (a : Addr) (B : Heap) (sI : Shared) (pins : List (Addr × Obj)) (σ : Sg) (H : Hp) (cls : Value) (d : Option Addr),
    u = .ref a ∧ Inv X pins σ H sI ∧ (∀ b o, sI.heap.get? b = some o → b ∉ frs X.stack → B.get? b = some o) ∧ sI.heap.UpToSlots s'.heap ∧
      Sky B X.stack a (Zc cls d) L s'.heap ∧ H a = none ∧ s'.os = sI.os ∧ AllBare s'.gens ∧ W cls d σ H
/-- what is taken, also by the frame of the def around -/
def TakesF (X : Cx) (W : WX) : Prop := Takes X W ∧ ((∀ c d σ H, ¬ W c d σ H) ∨ ∃ (e0 : Env) (l0 : List Env) (L : Addr), X.stack = e0 :: l0 ∧ e0.frame = some L ∧ X.env.frame = some L ∧ ∀ u s', XEat X L W u s' → X.xe u s')
theorem takesF_top {X : Cx} {W : WX} (tk : Takes X W) (st : X.stack = X.env :: X.outer) (fr : X.env.frame = some X.env.locals) : TakesF X W := ⟨tk, .inr ⟨X.env, X.outer, X.env.locals, st, fr, fr, fun u s' x => tk u s' x⟩⟩
theorem takesF_none {X : Cx} {W : WX} (h : ∀ c d σ H, ¬ W c d σ H) : TakesF X W := ⟨fun u s' ⟨a, B, sI, pins, σ, H, cls, d, e, I, nb, up, sky, na, os, ag, w⟩ => absurd w (h _ _ _ _), .inl h⟩
/-- nothing is let out -/
theorem takesF0 {X : Cx} : TakesF X (fun _ _ _ _ => False) := takesF_none fun _ _ _ _ h => h
section
variable {M : Model} {A : Around} {E : Value → Shared → Prop} {s : Shared} {Z : Obj → Prop} {base : Heap} {env : Env} {outer l : List Env} {L e : Addr}
open HandSPX in
/-- noted by the frame, whatever frame holds it -/
theorem note_any {fl : Value} {Q : Unit → Shared → Prop} (hZ : Steady Z) (hfr : A.frames = some (env :: outer)) (hf : env.frame = some L) (hkb : base.StaysIn s.heap) (hen : base.get? e = none) (hl : s.heap.FunFrames base (env :: outer))
    (ht : TracedZ s.heap base e Z fl) (hne : ¬ ((fl == rawInt L) = true))
    (hQ : ∀ h', HeldZ base (env :: outer) e Z L h' → s.heap.UpToSlots h' → Q () { s with heap := h' }) : wpAny M A (noteFrame (.ref e) env) Q E s := by
  obtain ⟨oe, vs, T, oT, ts, he, hz, hd, h1, hnT, hTe, hT, hdT, h3⟩ := ht
  unfold noteFrame
  simp only [hf]
  refine wpAny_bind (wpAny_field he hd h1 ?_)
  rw [if_pos (show (Value.ref T != Value.none) = true from by simp)]
  refine wpAny_bind (wpAny_field hT hdT h3 ?_)
  rw [if_neg hne]
  refine wpAny_bind (wpAny_setField hT hdT (Array.getElem?_eq_some_iff.mp h3).1 ?_)
  have other : ∀ b, b ≠ T → (s.heap.update T (Obj.mapFields (·.setIfInBounds 3 Value.none))).get? b = s.heap.get? b := fun b hb => Heap.get?_update_other _ _ (Ne.symm hb)
  have noRecord : ∀ b o, s.heap.get? b = some o → (∀ vs, o.data ≠ .fields vs) → b ≠ T := fun b o hb hnf q => by
    rw [q, hT] at hb; injection hb with hb; subst hb; exact hnf ts hdT
  refine wpAny_entryZ hZ hfr (hl.of_keeps fun b o hb hnf => ⟨o, (other b (noRecord b o hb hnf)).trans hb, rfl⟩) hf ((other e (Ne.symm hTe)).trans he)
    (fun b o hbo => (other b fun q => by rw [q, hnT] at hbo; cases hbo).trans (hkb b o hbo)) hen hd (Array.getElem?_eq_some_iff.mp h1).1 hz fun h' hN => ?_
  obtain ⟨x1, x2, x3, x4⟩ := hN
  exact hQ h' ⟨x1, hen, x2, x3⟩ fun b o hb hnf => x4 b o ((other b (noRecord b o hb hnf)).trans hb) hnf
open HandSPX in
/-- in the air, wherever held: noted by the frame -/
theorem Sky.note {La : Addr} {Q : Unit → Shared → Prop} (hZ : Steady Z) (hfr : A.frames = some (env :: outer)) (hf : env.frame = some L) (x : Sky base (env :: outer) e Z La s.heap)
    (hQ : ∀ h', HeldZ base (env :: outer) e Z L h' → s.heap.UpToSlots h' → Q () { s with heap := h' }) : wpAny M A (noteFrame (.ref e) env) Q E s := by
  rcases x with ⟨hB, hn, hl, oe, vs, he, hz, hd, h1⟩ | fl | hh
  · exact look_newZ hZ hfr hl hf he hB hn hd h1 hz hQ
  · exact looks_onZ hZ hfr hf fl hQ
  · by_cases h : La = L
    · subst h
      exact againZ hf hh.2.2.2 (hQ s.heap hh (Heap.UpToSlots.refl _))
    · obtain ⟨f1, f2, f3, f4⟩ := hh
      exact note_any hZ hfr hf f1 f2 f3 f4 (fun z => h (Int.ofNat.inj (by simpa [rawInt] using z))) hQ
end
/-- the block's context, exceptions of W taken (with the slots of the def around) -/
def blkXe (X : Cx) (s : Shared) (H : Hp) (scope : Scope) (ce : Env) (fp : List Addr) (W : WX) (σ : Sg) : Value → Shared → Prop := fun u s' =>
  ∃ La : Addr, XEat (X.blk s H scope ce fp) La (fun c d _ H => W c d σ H) u s'
abbrev bx (X : Cx) (s : Shared) (H : Hp) (scope : Scope) (ce : Env) (fp : List Addr) (W : WX) (σ : Sg) : Cx := (X.blk s H scope ce fp).tr [] (blkXe X s H scope ce fp W σ)
section
variable {X : Cx} {s : Shared} {H : Hp} {scope : Scope} {ce : Env} {fp : List Addr} {W : WX} {σ : Sg} {pins : List (Addr × Obj)} {σ' : Sg} {H' : Hp} {s' : Shared}
theorem Inv.toBx (I : Inv (X.blk s H scope ce fp) pins σ' H' s') : Inv (bx X s H scope ce fp W σ) pins σ' H' s' :=
  ⟨I.ok.toTry _ _, I.os, I.bare, I.base, I.loc, I.cell, I.free, I.freeC, I.pin, I.hok, I.len⟩
theorem Inv.ofBx (I : Inv (bx X s H scope ce fp W σ) pins σ' H' s') : Inv (X.blk s H scope ce fp) pins σ' H' s' :=
  ⟨I.ok.ofTry, I.os, I.bare, I.base, I.loc, I.cell, I.free, I.freeC, I.pin, I.hok, I.len⟩
theorem takes_bx (tk : TakesF X W) (hf : ce.frame = X.env.frame) : TakesF (bx X s H scope ce fp W σ) (fun c d _ H => W c d σ H) := by
  have key : ∀ (L : Addr) (u : Value) (s' : Shared), XEat (bx X s H scope ce fp W σ) L (fun c d _ H => W c d σ H) u s' → (bx X s H scope ce fp W σ).xe u s' := fun L u s' ⟨a, B, sI, pins, σ1, H1, cls, d, e, I, nb, up, sky, na, os, ag, w⟩ =>
    ⟨L, a, B, sI, pins, σ1, H1, cls, d, e, Inv.ofBx I, nb, up, sky, na, os, ag, w⟩
  refine ⟨fun u s' x => key _ u s' x, ?_⟩
  rcases tk.2 with h | ⟨e0, l0, L, h1, h2, h3, h4⟩
  · exact .inl fun c d _ H => h c d σ H
  · exact .inr ⟨e0, l0, L, h1, h2, hf.trans h3, fun u s' x => key L u s' x⟩
open HandSPX in
theorem block_raise {u : Value} (tk : TakesF X W) (I3 : Inv X pins σ H s) (hfp : ∀ b ∈ fp, FpOk X pins H b ∧ b < s.heap.objs.size) (hf : ce.frame = X.env.frame) (cL : ce.locals = s.heap.objs.size)
    (x : blkXe X s H scope ce fp W σ u s') : notedBy (model X.prog X.w) X.A ce (CompFails (model X.prog X.w) X.A X.xe ce) u s' := by
  obtain ⟨La, a, B, sI, pins', σ1, H1, cls, d, rfl, J, nb, up, sky, na, os, ag, w⟩ := x
  rcases tk.2 with h | ⟨e0, l0, L, hst, hf0, hfe, acc⟩
  · exact absurd w (h _ _ _ _)
  have hfr : X.A.frames = some (e0 :: l0) := by
    have z : X.A.frames = some X.stack := I3.ok.frames
    rw [z, hst]
  have sky : Sky B X.stack a (Zc cls d) La s'.heap := sky
  have nb : ∀ b o, sI.heap.get? b = some o → b ∉ frs X.stack → B.get? b = some o := nb
  rw [hst] at sky
  show wpAny _ _ (noteFrame (.ref a) ce) _ _ s'
  rw [noteFrame_env _ (show ce.frame = e0.frame by rw [hf, hfe, hf0])]
  obtain ⟨m, hn, _⟩ := J.loc
  have hn : sI.heap.Ns ce.locals m := hn
  have nC : H1 s.heap.objs.size = none := by
    have z : H1 ce.locals = none := J.free
    rw [cL] at z
    exact z
  -- back in the def's context
  have I4 : Inv X pins σ H1 sI := I3.call' (ch := fp) J.os J.base J.hok J.bare fun b hb => ⟨(hfp b hb).1.2.2.2.1, (hfp b hb).1.2.1, (hfp b hb).1.2.2.2.2.1, (hfp b hb).1.2.2.2.2.2⟩
  obtain ⟨f0, f1, f2, f3, f4, f5⟩ := I3.fpOk (Nat.le_refl _) nC
  refine Sky.note Zc.steady hfr hf0 sky fun h1 hh up1 => ?_
  have hn1 : h1.Ns ce.locals m := up1.ns (up.ns hn)
  refine ⟨m, hn1, fun h2 m2 hn2 sb => ?_⟩
  obtain ⟨k1, k2, k3, oe, vs, T, oT, ts, he, hz, hd, h1', hnT, hTe, hT, hdT, h3⟩ := hh
  obtain ⟨oL, es, ep, hoL, hdL, _⟩ := hn1
  have ne1 : a ≠ ce.locals := fun z => by
    rw [z, hoL] at he; injection he with he; subst he; rw [hdL] at hd; cases hd
  have ne2 : T ≠ ce.locals := fun z => by
    rw [z, hoL] at hT; injection hT with hT; subst hT; rw [hdL] at hdT; cases hdT
  have he2 : h2.get? a = some oe := (sb.2 a ne1).trans he
  have hT2 : h2.get? T = some oT := (sb.2 T ne2).trans hT
  -- the ground without the block's names
  have hid : ∀ (G : Heap) b o, (PySem.W.hideAll G [ce.locals]).get? b = some o → G.get? b = some o ∧ b ≠ ce.locals := fun G b o e => ⟨PySem.W.of_hideAll _ e, fun z => by
    rw [z, PySem.W.hideAll_none [ce.locals] List.mem_cons_self] at e; cases e⟩
  have hidn : ∀ (G : Heap) b, G.get? b = none → (PySem.W.hideAll G [ce.locals]).get? b = none := fun G b e => by
    cases q : (PySem.W.hideAll G [ce.locals]).get? b with
    | none => rfl
    | some o => have z := (hid G b o q).1; rw [e] at z; cases z
  have held2 : HeldZ (PySem.W.hideAll B [ce.locals]) (e0 :: l0) a (Zc cls d) L h2 := by
    refine ⟨fun b o e => ?_, hidn B a k2, funFrames_none (Heap.FunFrames.sameBut sb hn2 k3) fun b hb => hidn B b (k3.mem hb).1, oe, vs, T, oT, ts, he2, hz, hd, h1', hidn B T hnT, hTe, hT2, hdT, h3⟩
    obtain ⟨q1, q2⟩ := hid B b o e
    exact (sb.2 b q2).trans (k1 b o q1)
  unfold PySem.passOn
  refine wpAny_bind (wpAny_field he2 hd h1' ?_)
  rw [if_neg (show ¬ ((Value.ref T == Value.none) = true) from by simp)]
  rw [show ce.frame = some L by rw [hf, hfe]]
  refine wpAny_bind (setFlight_onZ (l := e0 :: l0) (s := { s' with heap := h2 }) held2 fun h4 hh4 up4 => wpAny_throw ?_)
  refine acc _ _ ⟨a, PySem.W.hideAll B [ce.locals], { sI with heap := PySem.W.hideAll sI.heap [ce.locals] }, pins, σ, H1, cls, d, rfl, ?_, fun b o e hb => ?_, fun b o e hnf => ?_, .inr (.inr (by rw [hst]; exact hh4)), na, os, ag, w⟩
  · exact I4.turned (it := s.heap.objs.size) (h' := PySem.W.hideAll sI.heap [ce.locals]) (t' := sI.toks) (fun b o hb e => PySem.W.hideAll_get _ e fun z => hb (by rw [← cL]; exact List.mem_singleton.mp z)) f0 f1 f3 f4 f5
  · obtain ⟨q1, q2⟩ := hid sI.heap b o e
    exact PySem.W.hideAll_get _ (nb b o q1 hb) fun z => q2 (List.mem_singleton.mp z)
  · obtain ⟨q1, q2⟩ := hid sI.heap b o e
    obtain ⟨sl, e1⟩ := (up.trans up1) b o q1 hnf
    have e2 : h2.get? b = some { o with slots := sl } := (sb.2 b q2).trans e1
    obtain ⟨sl2, e3⟩ := up4 b _ e2 hnf
    exact ⟨sl2, e3⟩
end
section
variable {X : Cx}
/-- as the kit's tLc, the item's reading by the slots of the def around -/
abbrev tLcX (wi : TI) (g : TG) (tt : TT) (te : Sg → TE) (vs : List Nat) : TE := fun σ H Q => tLc wi g tt (te σ) vs σ H Q
theorem lc_coreX {W : WX} {pins : List (Addr × Obj)} {s : Shared} {σ : Sg} {H : Hp} {Q : VK} {elt tg iter : Expr} {ifs : List Expr} {scope : Scope} {own : List (Str × Nat)} {pos pos' : Pos} {wi : TI} {g : TG} {tt : TT} {te : TE} {use : Option (Value → Sem Unit)} {Qf : Value → Shared → Prop}
    (tk : TakesF X W) (hc : X.calm = true) (hN : X.N.Nodup) (I : Inv X pins σ H s) (hi : PI X tg iter wi) (ok : BlkOk X.N X.env.scope scope own)
    (hg : ∀ (s : Shared) (H : Hp) (C : Addr) (cl : List (Str × Addr)) (fp : List Addr), PG (X.blk s H scope (compEnvC scope cl C X.env) fp) tg g) (ht : ∀ (s : Shared) (H : Hp) (C : Addr) (cl : List (Str × Addr)) (fp : List Addr), PTs (X.blk s H scope (compEnvC scope cl C X.env) fp) ifs tt)
    (he : ∀ (s : Shared) (H : Hp) (C : Addr) (cl : List (Str × Addr)) (fp : List Addr), PE (bx X s H scope (compEnvC scope cl C X.env) fp W σ) elt te) (hs : ∀ x, foldedSetIterable iter X.env x = pure x)
    (h : tLc wi g tt te (own.map (·.2)) σ H Q)
    (hRR : ∀ D ce C s' m H', ce.locals = C → Inv X pins σ H' s' → Q (.ref D) H' → s'.heap.Ns C m → FpOk X pins H' C → compEnds (model X.prog X.w) X.A X.xe use Qf (.ref D) ce (.ok .next) s') :
    wpAny (model X.prog X.w) X.A (comprehension (.ListComp elt [⟨tg, iter, ifs, 0⟩] scope pos) scope X.env pos' (newList []) false (eval iter X.env) use) Qf X.xe s := by
  have hfree : ∀ y ∈ scope.names, y.2 = .free → ∃ c, X.env.cells.lookup y.1 = some c := fun y hy e => by
    rcases ok.free y hy e with k | k
    · exact I.ok.has _ (.inl k)
    · exact I.ok.has _ (.inr k)
  refine comprehension_at (use := use) rfl hs (closure_ok hfree) ok.kind (fun y hy e => by rw [ok.uniq y hy, e])
    (thn (hi.run pins s σ H _ I h) fun xv s1 hx => thn hx fun itv s2 h2 => ?_)
  obtain ⟨it, fp, tn, J, H2, e, I2, T, st2, f2, q⟩ := h2
  subst e
  refine wpAny_newObj_type (newEnv_comp ?_) (by show 0 ≤ sizeLine; decide)
  generalize hD : s2.heap.objs.size = D
  have hDn : H2 D = none := I2.hok.fresh (Nat.le_of_eq hD)
  obtain ⟨W', ⟨m0, w0⟩, turn⟩ := q D hDn
  -- the new list
  generalize hs3 : ({ s2 with heap := s2.heap.push { cls := .type "list", data := .seq ([] : List Value).toArray } } : Shared) = s3
  have I3 : Inv X pins σ (upd H2 D (.lst [])) s3 := by
    rw [← hs3]
    refine I2.laid (t' := s2.toks) (fun b o e => Heap.get?_push_of_some _ e) (Nat.le_of_eq hD) ⟨Nat.zero_le _, [], 0, .nil, ?_⟩
    rw [← hD]
    exact Heap.get?_push_size _ rfl
  have h3 : s3.heap = s2.heap.push { cls := .type "list", data := .seq ([] : List Value).toArray } := by rw [← hs3]
  have sz : ∀ b ∈ fp, b < s2.heap.objs.size := fun b hb => by
    obtain ⟨o, e, _⟩ := T.obj _ _ st2 b hb
    exact Heap.lt_size e
  have f3 : ∀ b ∈ fp, FpOk X pins (upd H2 D (.lst [])) b ∧ b < s3.heap.objs.size := fun b hb => by
    have hlt := sz b hb
    refine ⟨⟨?_, (f2 b hb).2⟩, by rw [h3, Heap.size_push]; exact Nat.lt_succ_of_lt hlt⟩
    rw [upd_ne (by rw [← hD]; exact Nat.ne_of_lt hlt)]
    exact (f2 b hb).1
  have st3 : tn 0 s3.heap := T.keep _ _ _ st2 fun b _ o e => by rw [h3]; exact Heap.get?_push_of_some _ e
  have I4 := block_start I3 ok hN f3
  have pg := hg s3 (upd H2 D (.lst [])) s3.heap.objs.size (cellsFrom (s3.heap.objs.size + 1) scope.names (cloFrom X.env.cells scope.names [])) fp
  have pt := ht s3 (upd H2 D (.lst [])) s3.heap.objs.size (cellsFrom (s3.heap.objs.size + 1) scope.names (cloFrom X.env.cells scope.names [])) fp
  have pe := he s3 (upd H2 D (.lst [])) s3.heap.objs.size (cellsFrom (s3.heap.objs.size + 1) scope.names (cloFrom X.env.cells scope.names [])) fp
  show codeAny _ _ (.compStart (.ListComp elt [⟨tg, iter, ifs, 0⟩] scope pos) 0 (.ref it) (.ref D) (compEnvC scope (cellsFrom (s3.heap.objs.size + 1) scope.names (cloFrom X.env.cells scope.names [])) s3.heap.objs.size X.env)) (compEnds (model X.prog X.w) X.A X.xe use Qf (.ref D) (compEnvC scope (cellsFrom (s3.heap.objs.size + 1) scope.names (cloFrom X.env.cells scope.names [])) s3.heap.objs.size X.env)) { s3 with heap := pushCells (s3.heap.push { cls := .type "dict", data := .dict #[] }) scope.names }
  have nfp : ∀ b ∈ fp, (upd H2 D (.lst [])) b = none := fun b hb => (f3 b hb).1.1
  generalize hce : compEnvC scope (cellsFrom (s3.heap.objs.size + 1) scope.names (cloFrom X.env.cells scope.names [])) s3.heap.objs.size X.env = ce at I4 pg pt pe ⊢
  have cL : ce.locals = s3.heap.objs.size := by subst hce; rfl
  have cF : ce.frame = X.env.frame := by subst hce; rfl
  generalize hH3 : upd H2 D (.lst []) = H3 at I3 I4 pg pt pe w0 nfp f3
  generalize hs4 : ({ s3 with heap := pushCells (s3.heap.push { cls := .type "dict", data := .dict #[] }) scope.names } : Shared) = s4 at I4 ⊢
  have st4 : tn 0 s4.heap := T.keep _ _ _ st3 fun b _ o e => by rw [← hs4]; exact pushCells_keeps _ _ _ _ (Heap.get?_push_of_some _ e)
  have stat : ∀ {σ' : Sg} {H' : Hp} {s' : Shared}, Inv (X.blk s3 H3 scope ce fp) [] σ' H' s' → (∀ b ∈ fp, H' b = none) → ∀ b ∈ fp, FpOk (X.blk s3 H3 scope ce fp) [] H' b := fun {σ' H' s'} I' hn b hb =>
    ⟨hn b hb, (I'.ok.exf b hb).1, I'.ok.exfs b hb, .inl hb, fun x c e => (I'.ok.exf b hb).2 x c e, fun p hp => absurd (show p ∈ ([] : List (Addr × Obj)) ++ [] from hp) (by simp)⟩
  have loop : codeAny (model X.prog X.w) X.A (.compLoop (.ListComp elt [⟨tg, iter, ifs, 0⟩] scope pos) 0 (.ref it) (.ref D) ce) (compEnds (model X.prog X.w) X.A X.xe use Qf (.ref D) ce) s4 := by
    refine compLoop_any (fun n s' => ∃ i H', Inv (X.blk s3 H3 scope ce fp) [] (wipe σ (own.map (·.2))) H' s' ∧ tn i s'.heap ∧ (∀ b ∈ fp, H' b = none) ∧ W' i n H') ?_ m0 ⟨0, H3, I4, st4, nfp, w0⟩
    rintro n s5 ⟨i, H5, I5, st5, n5, w5⟩
    rcases turn i n H5 w5 with ⟨stop, qq⟩ | ⟨go, Nx, hNx, step⟩
    · have td := T.done (X.blk s3 H3 scope ce fp) rfl rfl rfl hc i [] s5 _ H5 (fun _ _ => False) I5 (stat I5 n5) st5 stop
      refine thnF td fun r s6 ⟨hr, I6⟩ => ?_
      subst hr
      -- back in the def's context
      have I7 : Inv X pins σ H5 s6 := I3.call' (ch := fp) I6.os I6.base I6.hok I6.bare fun b hb => ⟨(f3 b hb).1.2.2.2.1, (f3 b hb).1.2.1, (f3 b hb).1.2.2.2.2.1, (f3 b hb).1.2.2.2.2.2⟩
      have nC : H5 s3.heap.objs.size = none := by
        have z : H5 ce.locals = none := I6.free
        rw [cL] at z
        exact z
      obtain ⟨m, hn, _⟩ := I6.loc
      have hn : s6.heap.Ns ce.locals m := hn
      rw [cL] at hn
      exact hRR D ce s3.heap.objs.size s6 m H5 cL I7 qq hn (I3.fpOk (Nat.le_refl _) nC)
    · have ti := T.item (X.blk s3 H3 scope ce fp) rfl rfl rfl hc i [] s5 _ H5 (fun _ _ => False) I5 (stat I5 n5) st5 go
      refine thnF ti fun r s6 ⟨u, hr, h6⟩ => ?_
      subst hr
      refine thnF h6 fun _ s7 ⟨x, H7, I7, r7, y7, st7, n7⟩ => ?_
      have I7' := I7.pinned (stat I7 n7) (T.obj _ _ st7)
      refine thnF (pg.run _ s7 _ H7 x u _ I7' r7 (step x H7 y7)) fun _ s8 ⟨σ8, H8, I8, hw8, q8⟩ => ?_
      refine thnF (pt.run _ s8 σ8 H8 _ I8 q8) fun b s9 ⟨H9, I9, q9⟩ => ?_
      -- the turn's end
      have fin : ∀ {s' : Shared} {H' : Hp}, Inv (X.blk s3 H3 scope ce fp) ([] ++ pinsAt fp s7.heap) σ8 H' s' → Nx H' → ∃ m, m < n ∧ ∃ i H', Inv (X.blk s3 H3 scope ce fp) [] (wipe σ (own.map (·.2))) H' s' ∧ tn i s'.heap ∧ (∀ b ∈ fp, H' b = none) ∧ W' i m H' := fun {s' H'} I' nx => by
        obtain ⟨m', hm, w'⟩ := hNx H' nx
        have pin' : ∀ b ∈ fp, ∀ o, s7.heap.get? b = some o → s'.heap.get? b = some o ∧ H' b = none := fun b hb o e =>
          let z := I'.pin (b, o) (List.mem_append_right _ (List.mem_append_right _ (mem_pinsAt hb e)))
          ⟨z.1, z.2.1⟩
        have hl : (wipe σ (own.map (·.2))).length = σ8.length := by rw [← hw8, wipe_length]
        refine ⟨m', hm, i + 1, H', (I'.unpinned (pins := [])).weak hl (fun j v e => ?_), T.keep _ _ _ st7 fun b hb o e => (pin' b hb o e).1, fun b hb => ?_, w'⟩
        · rw [← hw8] at e
          exact (wipe_some e).1
        · obtain ⟨o, e, _⟩ := T.obj _ _ st7 b hb
          exact (pin' b hb o e).2
      cases b with
      | false =>
        simp only [Bool.false_eq_true, if_false] at q9 ⊢
        exact fin I9 q9
      | true =>
        simp only [if_true] at q9 ⊢
        refine wpAny_mono (pe.run _ s9 σ8 H9 _ (Inv.toBx I9) q9) (fun z s10 ⟨yv, H10, I10, r10, acc, hD10, hz10, nx⟩ => ?_) fun u s10 x => block_raise tk I3 f3 cF cL x
        exact app_ok (X := X.blk s3 H3 scope ce fp) (Inv.ofBx I10) hD10 hz10 r10 fun s11 I11 => fin I11 nx
  exact codeAny_compStart_list loop (T.self X.A 0 _ _ _ st4 loop)
/-- as a value -/
theorem pe_lcX {W : WX} {elt tg iter : Expr} {ifs : List Expr} {scope : Scope} {own : List (Str × Nat)} {pos : Pos} {wi : TI} {g : TG} {tt : TT} {te : Sg → TE} (tk : TakesF X W) (hc : X.calm = true) (hN : X.N.Nodup) (hi : PI X tg iter wi) (ok : BlkOk X.N X.env.scope scope own)
    (hg : ∀ (s : Shared) (H : Hp) (C : Addr) (cl : List (Str × Addr)) (fp : List Addr), PG (X.blk s H scope (compEnvC scope cl C X.env) fp) tg g) (ht : ∀ (s : Shared) (H : Hp) (C : Addr) (cl : List (Str × Addr)) (fp : List Addr), PTs (X.blk s H scope (compEnvC scope cl C X.env) fp) ifs tt)
    (he : ∀ (σ : Sg) (s : Shared) (H : Hp) (C : Addr) (cl : List (Str × Addr)) (fp : List Addr), PE (bx X s H scope (compEnvC scope cl C X.env) fp W σ) elt (te σ)) (hs : ∀ x, foldedSetIterable iter X.env x = pure x := by intro _; rfl) :
    PE X (.ListComp elt [⟨tg, iter, ifs, 0⟩] scope pos) (tLcX wi g tt te (own.map (·.2))) := by
  refine ⟨fun pins s σ H Q I h => ?_⟩
  rw [eval_ListComp]
  refine lc_coreX tk hc hN I hi ok hg ht (he σ) hs h fun D ce C s' m H' hC I' q hn f => ⟨m, by rw [hC]; exact hn, fun h'' sb => ?_⟩
  rw [hC] at sb
  obtain ⟨f0, f1, f2, f3, f4, f5⟩ := f
  exact ⟨.ref D, H', I'.turned (t' := s'.toks) (fun b o hb e => (sb.2 b hb).trans e) f0 f1 f3 f4 f5, rfl, q⟩
/-- name = [..] on one line, the name a local -/
theorem ps_setLcX {W : WX} {i : Nat} {y : Str} {py : Pos} {elt tg iter : Expr} {ifs : List Expr} {scope : Scope} {own : List (Str × Nat)} {pos spos : Pos} {wi : TI} {g : TG} {tt : TT} {te : Sg → TE} (tk : TakesF X W) (hc : X.calm = true) (hN : X.N.Nodup) (hy : X.N[i]? = some y) (hyl : X.env.scope.names.lookup y = some .local)
    (hsw : swapsWith (.ListComp elt [⟨tg, iter, ifs, 0⟩] scope pos) (some (.Name y py)) spos.line X.env = pure true) (hi : PI X tg iter wi) (ok : BlkOk X.N X.env.scope scope own)
    (hg : ∀ (s : Shared) (H : Hp) (C : Addr) (cl : List (Str × Addr)) (fp : List Addr), PG (X.blk s H scope (compEnvC scope cl C X.env) fp) tg g) (ht : ∀ (s : Shared) (H : Hp) (C : Addr) (cl : List (Str × Addr)) (fp : List Addr), PTs (X.blk s H scope (compEnvC scope cl C X.env) fp) ifs tt)
    (he : ∀ (σ : Sg) (s : Shared) (H : Hp) (C : Addr) (cl : List (Str × Addr)) (fp : List Addr), PE (bx X s H scope (compEnvC scope cl C X.env) fp W σ) elt (te σ)) (hs : ∀ x, foldedSetIterable iter X.env x = pure x := by intro _; rfl) :
    PS X (.Assign [.Name y py] (.ListComp elt [⟨tg, iter, ifs, 0⟩] scope pos) spos) (tAsg (tLcX wi g tt te (own.map (·.2))) (gName i)) := by
  refine ⟨fun pins s σ H D I h => ?_⟩
  rw [exec_Assign_Name_used _ _ _ _ hsw]
  refine wpAny_bind (wpAny_standAt (wpAny_bind ?_))
  show wpAny _ X.A (do let _ ← comprehension (.ListComp elt [⟨tg, iter, ifs, 0⟩] scope pos) scope X.env (firstIterPos [⟨tg, iter, ifs, 0⟩] pos) (newList []) false (eval iter X.env) (some (assign (.Name y py) X.env))) _ _ s
  have h : tLc wi g tt (te σ) (own.map (·.2)) σ H (fun x H1 => gName i x σ H1 D.nx) := h
  refine wpAny_bind (thn (lc_coreX (Qf := fun _ s' => SP X pins D .next s') tk hc hN I hi ok hg ht (he σ) hs h fun L ce C s' m H' hC I' q hn f => ?_) fun _ s' hq => wpAny_pure (wpAny_pure hq))
  show wpAny _ _ (assign (.Name y py) X.env (.ref L)) _ _ _
  refine wpAny_assign_Name (store_ok2 (v := V.ref L) I' hN hy (.inl hyl) rfl (fun s2 I2 ⟨a, sb, ha⟩ => ?_) (.inr hyl))
  obtain ⟨f0, f1, f2, f3, f4, f5⟩ := f
  have haC : C ≠ a := by
    rcases ha with z | z
    · rw [z]; exact f1
    · exact fun e => f4 y a z e.symm
  rw [hC]
  refine ⟨m, hn.sameBut sb haC, fun h3 sb3 => ?_⟩
  exact ⟨_, H', I2.turned (t' := s2.toks) (fun b o hb e => (sb3.2 b hb).trans e) f0 f1 f3 f4 f5, q⟩
end
end OL
/-! The operations on values, by what they do to plain data. -/
namespace OL
open PySem PySem.Spec PyProof.Rows L2
/-- what an operation hands back of the heap H: a scalar, or a new list -/
inductive Nw (K : PySem.W.Frag) (mg : Str → Option Value) (H : Hp) (Z : Addr → Prop) : D → V → Hp → Prop
  | sc {d : D} : scalD d = true → Nw K mg H Z d (valD d) H
  | nl {p : Addr} {xs : List V} {ds : List D} : H p = none → RpA K mg H Z ds xs → Nw K mg H Z (.lst ds) (.ref p) (upd H p (.lst xs))
  | nt {p : Addr} {xs : List V} {ds : List D} : H p = none → RpA K mg H Z ds xs → Nw K mg H Z (.tup ds) (.ref p) (upd H p (.tup xs))
theorem rp_scal {K : PySem.W.Frag} {mg : Str → Option Value} {H : Hp} {Z : Addr → Prop} : ∀ {d : D}, scalD d = true → Rp K mg H Z d (valD d)
  | .non, _ => .non
  | .bl b, _ => .bl b
  | .int i, _ => .int i
  | .str x, _ => .str x
  | .tup _, h => by cases h
  | .lst _, h => by cases h
  | .scr _, h => by cases h
  | .dic _, h => by cases h
  | .exc _, h => by cases h
theorem Nw.po {c : Cn} {σ : Sg} {ρ : En} {x : Ex} {H H1 H' : Hp} {d : D} {v : V} (h : ER c H σ ρ) (s : Same H H1) (n : Nw c.K c.mg H1 (Zf c σ ρ) d v H') : Po c σ ρ x H H' d v := by
  cases n with
  | sc e => exact .noL s (rp_scal e) fun ds z => by rw [z] at e; cases e
  | nl hp r => exact .newL h s hp r
  | nt hp r =>
    exact .noL (s.trans (same_upd hp)) (.tup (SqT.of upd_same) (r.same (same_upd hp))) fun ds z => by cases z
theorem line_eq : sizeLine = 16777216 := sizeLine_eq
def opOf : Op → Operator
  | .add => .Add | .sub => .Sub | .mul => .Mult | .div => .FloorDiv | .mod => .Mod | .pow => .Pow | .shl => .LShift | .shr => .RShift | .band => .BitAnd
def rBin (K : PySem.W.Frag) (mg : Str → Option Value) (op : Op) : R2 := fun x y H Q => ∃ (Z : Addr → Prop) (E : String → Prop) (a b : D), Rb K mg H Z a x ∧ Rb K mg H Z b y ∧
  (binD op a b).all (fun d => ∀ v H', Nw K mg H Z d v H' → Q v H') E
section
variable {X : Cx}
theorem op_divG : OpR X (binaryOp .FloorDiv) (rI (fun _ j => j ≠ 0 ∧ j.natAbs.log2 < 9000) fun i j => .int (i.fdiv j)) :=
  opI fun _ _ _ _ _ _ _ hc q => floordiv_int hc.1 q (.inl (PyProof.noPylong_of_log2 hc.2))
theorem op_powW : OpR X (binaryOp .Pow) (rI (fun i j => 0 ≤ j ∧ (Builtin.Int.intBits i : Int) * j ≤ 134217728) fun i j => .int (i ^ j.toNat)) := opI fun _ _ _ _ _ _ _ hc q => pow_int hc.1 hc.2 q
/-- list + list, either one read -/
theorem op_catS : OpR X (binaryOp .Add) (fun x y H Q => ∃ l b xs zs, x = .ref l ∧ y = .ref b ∧ SqL X.K H l xs ∧ SqL X.K H b zs ∧ xs.length + zs.length ≤ sizeLine ∧ ∀ p, H p = none → Q (.ref p) (upd H p (.lst (xs ++ zs)))) := by
  intro pins s σ H x y v u Q I rx ry h
  obtain ⟨l, b, xs, zs, rfl, rfl, hH, hB, hz, q⟩ := h
  cases rx
  cases ry
  obtain ⟨its, r, ⟨⟨cls, dd, data, sl⟩, n, ho, hc, hd0, hd⟩, _⟩ := I.list hH
  obtain ⟨its2, r2, ⟨⟨cls2, dd2, data2, sl2⟩, n2, ho2, hc2, hd02, hd2⟩, _⟩ := I.list hB
  simp only at hc hd hc2 hd2
  subst hc hd hc2 hd2
  have l1 := r.length
  have l2 := r2.length
  refine PySem.concat_meets ⟨_, ho, rfl⟩ ⟨_, ho2, rfl⟩ noFill_list_add seq_list_add PySem.F.slot_list_add PySem.F.entry_list_add (PySem.F.args_list_add_2 _ _) (list_addW l b its.toArray its2.toArray n n2 dd dd2 sl sl2 (by simp only [List.size_toArray]; omega)) ⟨ho, ho2, ?_⟩
  have e : its.toArray ++ its2.toArray = (its ++ its2).toArray := by simp
  rw [e]
  exact ⟨.ref _, _, I.lnew (t' := s.toks) (r.append r2) (by rw [List.length_append]; omega), rfl, q _ I.fresh⟩
theorem rep_size (a : Array Nat) : ∀ (n : Nat) (b : Array Nat), ((List.replicate n a).foldl (· ++ ·) b).size = b.size + n * a.size
  | 0, b => by simp
  | n + 1, b => by
    rw [List.replicate_succ, List.foldl_cons, rep_size a n, Array.size_append, Nat.add_mul]
    omega
/-- text * int -/
theorem op_mul_str : OpR X (binaryOp .Mult) (fun x y H Q => ∃ (z : Str) (k : Int), x = .str z ∧ y = .int k ∧ 0 ≤ k ∧ z.length * k.toNat ≤ 16777216 ∧ k < 2 ^ 62 ∧ Q (.str ⟨(List.replicate k.toNat z.cps).foldl (· ++ ·) #[]⟩) H) := by
  intro pins s σ H x y v u Q I rx ry h
  obtain ⟨z, k, rfl, rfl, h0, hz, hk, q⟩ := h
  obtain ⟨t, rfl⟩ := rx
  obtain ⟨t', rfl⟩ := ry
  refine P.mul_str (by rw [decide_eq_false (by omega), decide_eq_false (by omega)]; rfl) (fun h1 h2 => ?_) (fun h1 h2 => ?_) ?_
  · have hm : (z.length : Int) * k ≤ 2 ^ 63 - 1 := by
      have e : ((z.length * k.toNat : Nat) : Int) = (z.length : Int) * k := by rw [Int.natCast_mul, Int.toNat_of_nonneg h0]
      rw [← e]; omega
    have := (Int.le_ediv_iff_mul_le (by omega : 0 < k)).mpr hm
    omega
  · unfold Builtin.Str.tooLong
    rw [decide_eq_false]
    rw [sizeLine_eq]
    omega
  · split
    · rename_i hlt
      have e : k = 0 := by omega
      subst e
      exact ⟨by decide, ⟨.str _, H, I.tok _, ⟨_, rfl⟩, q⟩⟩
    · split
      · rename_i h1
        have e : (⟨(List.replicate k.toNat z.cps).foldl (· ++ ·) #[]⟩ : Str) = z := by
          rw [Bool.or_eq_true] at h1
          rcases h1 with h1 | h1
          · have : k = 1 := by simpa using h1
            subst this
            simp
          · have hzl : z.cps = #[] := by
              have : z.length = 0 := by simpa using h1
              exact Array.eq_empty_of_size_eq_zero this
            have : ∀ n : Nat, (List.replicate n (#[] : Array Nat)).foldl (· ++ ·) #[] = #[] := by
              intro n
              induction n with
              | zero => rfl
              | succ n ih => rw [List.replicate_succ, List.foldl_cons]; simpa using ih
            rw [hzl, this]
            cases z
            simp_all
        rw [e] at q
        exact ⟨.str z, H, I, ⟨_, rfl⟩, q⟩
      · refine ⟨?_, ⟨.str _, H, I.tok _, ⟨_, rfl⟩, q⟩⟩
        show (List.foldl (fun x1 x2 => x1 ++ x2) #[] (List.replicate k.toNat z.cps)).size ≤ sizeLine
        rw [rep_size, line_eq, Nat.mul_comm]
        have : z.cps.size * k.toNat ≤ 16777216 := hz
        simpa using this
theorem op_bin (op : Op) : OpR X (binaryOp (opOf op)) (rBin X.K X.mg op) := by
  intro pins s σ H x y v u Q I rx ry h
  obtain ⟨Z, E, a, b, ra, rb, h⟩ := h
  unfold binD at h
  split at h
  · cases ra.int; cases rb.int
    exact op_add pins s σ H _ _ v u Q I rx ry ⟨_, _, rfl, rfl, h _ _ (.sc rfl)⟩
  · cases ra.str; cases rb.str
    split at h
    · rename_i hl
      exact op_add_str pins s σ H _ _ v u Q I rx ry ⟨_, _, rfl, rfl, by rw [line_eq]; exact hl, h _ _ (.sc rfl)⟩
    · exact h.elim
  · split at h
    · rename_i hl
      obtain ⟨p, xs, rfl, e1, r1⟩ := ra.lst
      obtain ⟨q, ys, rfl, e2, r2⟩ := rb.lst
      exact op_cat pins s σ H _ _ v u Q I rx ry ⟨_, _, _, _, rfl, rfl, e1, e2, by rw [line_eq, ← r1.length, ← r2.length]; exact hl, fun n hn => h _ _ (.nl hn (r1.append r2))⟩
    · exact h.elim
  · cases ra.int; cases rb.int
    exact op_sub pins s σ H _ _ v u Q I rx ry ⟨_, _, rfl, rfl, h _ _ (.sc rfl)⟩
  · cases ra.int; cases rb.int
    split at h
    · rename_i hl
      unfold mulOk at hl
      rw [Bool.or_eq_true, Bool.or_eq_true] at hl
      rcases hl with hl | hl | hl
      · have hl2 := of_decide_eq_true hl
        exact op_mulW pins s σ H _ _ v u Q I rx ry ⟨_, _, rfl, rfl, hl2, h _ _ (.sc rfl)⟩
      · have hl2 := of_decide_eq_true hl
        exact op_mul pins s σ H _ _ v u Q I rx ry ⟨_, _, rfl, rfl, .inl ⟨by omega, by omega⟩, h _ _ (.sc rfl)⟩
      · have hl2 := of_decide_eq_true hl
        exact op_mul pins s σ H _ _ v u Q I rx ry ⟨_, _, rfl, rfl, .inr ⟨by omega, by omega⟩, h _ _ (.sc rfl)⟩
    · exact h.elim
  · split at h
    · rename_i hl
      obtain ⟨p, xs, rfl, e1, r1⟩ := ra.lst
      cases rb.int
      exact op_rep pins s σ H _ _ v u Q I rx ry ⟨_, _, _, rfl, rfl, e1, by have := hl.1; omega, hl.2.1, by rw [line_eq, ← r1.length]; exact hl.2.2, fun n hn => h _ _ (.nl hn (r1.rep _))⟩
    · exact h.elim
  · cases ra.int; cases rb.int
    split at h
    · rename_i hl
      unfold divOk at hl
      rw [Bool.and_eq_true] at hl
      exact op_divG pins s σ H _ _ v u Q I rx ry ⟨_, _, rfl, rfl, ⟨of_decide_eq_true hl.1, of_decide_eq_true hl.2⟩, h _ _ (.sc rfl)⟩
    · exact h.elim
  · cases ra.int; cases rb.int
    split at h
    · rename_i hl
      exact op_modN pins s σ H _ _ v u Q I rx ry ⟨_, _, rfl, rfl, hl, h _ _ (.sc rfl)⟩
    · exact h.elim
  · cases ra.int; cases rb.int
    split at h
    · rename_i hl
      unfold pwOk at hl
      rw [Bool.and_eq_true] at hl
      exact op_powW pins s σ H _ _ v u Q I rx ry ⟨_, _, rfl, rfl, ⟨of_decide_eq_true hl.1, of_decide_eq_true hl.2⟩, h _ _ (.sc rfl)⟩
    · exact h.elim
  · cases ra.int; cases rb.int
    split at h
    · rename_i hl
      unfold powOk at hl
      rw [Bool.and_eq_true, Bool.and_eq_true] at hl
      exact op_shl pins s σ H _ _ v u Q I rx ry ⟨_, _, rfl, rfl, ⟨of_decide_eq_true hl.1.1, of_decide_eq_true hl.1.2, of_decide_eq_true hl.2⟩, h _ _ (.sc rfl)⟩
    · exact h.elim
  · cases ra.int; cases rb.int
    split at h
    · rename_i hl
      exact op_shr pins s σ H _ _ v u Q I rx ry ⟨_, _, rfl, rfl, hl, h _ _ (.sc rfl)⟩
    · exact h.elim
  · cases ra.int; cases rb.int
    exact op_and pins s σ H _ _ v u Q I rx ry ⟨_, _, rfl, rfl, h _ _ (.sc rfl)⟩
  · split at h
    · rename_i hl
      obtain ⟨p, xs, rfl, e1, r1⟩ := ra.tup
      obtain ⟨q, ys, rfl, e2, r2⟩ := rb.tup
      have l1 := r1.length
      have l2 := r2.length
      refine op_catT pins s σ H _ _ v u Q I rx ry ⟨_, _, _, _, rfl, rfl, e1, e2, fun z => ?_, by rw [line_eq, ← l1, ← l2]; exact hl.2.2, fun z => ?_, fun _ n hn => h _ _ (.nt hn (r1.append r2))⟩
      · subst z
        have := hl.1
        cases r1
        cases this
      · subst z
        have := hl.2.1
        cases r2
        cases this
    · exact h.elim
  · split at h
    · rename_i hl
      obtain ⟨p, xs, rfl, e1, r1⟩ := ra.lst
      obtain ⟨q, rfl, e2⟩ := rb.scr
      exact op_catS pins s σ H _ _ v u Q I rx ry ⟨_, _, _, _, rfl, rfl, SqL.of e1, e2.sq, by rw [line_eq, ← r1.length, List.length_map]; exact hl, fun n hn => h _ _ (.nl hn (r1.append (RpA.ints _)))⟩
    · exact h.elim
  · cases ra.str; cases rb.int
    split at h
    · rename_i hl
      exact op_mul_str pins s σ H _ _ v u Q I rx ry ⟨_, _, rfl, rfl, hl.1, hl.2.1, hl.2.2, h _ _ (.sc rfl)⟩
    · exact h.elim
  · exact h.elim
def cpOf : Cp → CmpOp
  | .lt => .Lt | .le => .LtE | .gt => .Gt | .ge => .GtE | .eq => .Eq | .ne => .NotEq | .is => .Is | .isn => .IsNot | .inn => .In | .nin => .NotIn
def rCmp (K : PySem.W.Frag) (mg : Str → Option Value) (op : Cp) : R2 := fun x y H Q => ∃ (Z : Addr → Prop) (E : String → Prop) (a b : D), Rb K mg H Z a x ∧ Rb K mg H Z b y ∧
  (cpD op a b).all (fun d => ∀ v H', Nw K mg H Z d v H' → Q v H') E
theorem flat_val : ∀ {d : D}, scalD d = true → flatV (valD d) = true
  | .non, _ => rfl
  | .bl b, _ => rfl
  | .int i, _ => rfl
  | .str x, _ => rfl
  | .tup _, h => by cases h
  | .lst _, h => by cases h
  | .scr _, h => by cases h
  | .dic _, h => by cases h
  | .exc _, h => by cases h
theorem RpA.vals {K : PySem.W.Frag} {mg : Str → Option Value} {H : Hp} {Z : Addr → Prop} : ∀ {ds : List D} {vs : List V}, RpA K mg H Z ds vs → ds.all scalD = true → vs = ds.map valD
  | _, _, .nil, _ => rfl
  | _, _, .cons r t, h => by
    rw [List.all_cons, Bool.and_eq_true] at h
    rw [List.map_cons, ← RpA.vals t h.2, ← (Rb.p r).val h.1]
theorem all_flat : ∀ {ds : List D}, ds.all scalD = true → (ds.map valD).all flatV = true
  | [], _ => rfl
  | d :: ds, h => by
    rw [List.all_cons, Bool.and_eq_true] at h
    rw [List.map_cons, List.all_cons, flat_val h.1, all_flat h.2]
    rfl
theorem inV_map (x : D) (ds : List D) : inV (valD x) (ds.map valD) = inD x ds := by
  unfold inV inD
  rw [List.any_map]
  rfl
theorem lay_of {d : D} (h : shp d = true) : PyData.canLay0 (toP d) = true := SeqAt.canLay_of_shaped h
theorem Rb.dp {K : PySem.W.Frag} {mg : Str → Option Value} {H : Hp} {Z : Addr → Prop} {d : D} {v : V} (r : Rb K mg H Z d v) (h : shp d = true) : Dp K H v (toP d) := r.top.dp (lay_of h)
theorem op_cmp (hu : X.A.units + 65 < cLine) (op : Cp) : OpR X (compareOp (cpOf op)) (rCmp X.K X.mg op) := by
  intro pins s σ H x y v u Q I rx ry h
  obtain ⟨Z, E, a, b, ra, rb, h⟩ := h
  have isN : ∀ {a : D} {x : V} {k : Bool}, Rb X.K X.mg H Z a x → RelV x v → Q (.bl k) H → (decide (x = V.non) = k) → wpAny (model X.prog X.w) X.A (compareOp .Is v u) (EP X pins σ Q) X.xe s ∨ True := fun _ _ _ _ => .inr trivial
  unfold cpD at h
  split at h
  · cases ra.int; cases rb.int
    exact op_lt pins s σ H _ _ v u Q I rx ry ⟨_, _, rfl, rfl, h _ _ (.sc rfl)⟩
  · cases ra.int; cases rb.int
    exact op_le pins s σ H _ _ v u Q I rx ry ⟨_, _, rfl, rfl, h _ _ (.sc rfl)⟩
  · cases ra.int; cases rb.int
    exact op_gt pins s σ H _ _ v u Q I rx ry ⟨_, _, rfl, rfl, h _ _ (.sc rfl)⟩
  · cases ra.int; cases rb.int
    exact op_ge pins s σ H _ _ v u Q I rx ry ⟨_, _, rfl, rfl, h _ _ (.sc rfl)⟩
  · split at h
    · rename_i hs
      rw [Bool.and_eq_true] at hs
      exact op_eqD (by omega) pins s σ H _ _ v u Q I rx ry ⟨_, _, ra.dp hs.1, rb.dp hs.2, hs.1, hs.2, h _ _ (.sc rfl)⟩
    · exact h.elim
  · split at h
    · rename_i hs
      rw [Bool.and_eq_true] at hs
      exact op_neD (by omega) pins s σ H _ _ v u Q I rx ry ⟨_, _, ra.dp hs.1, rb.dp hs.2, hs.1, hs.2, h _ _ (.sc rfl)⟩
    · exact h.elim
  · cases ra.bl; cases rb.bl
    exact op_isBl pins s σ H _ _ v u Q I rx ry ⟨_, _, rfl, rfl, h _ _ (.sc rfl)⟩
  · cases ra.bl; cases rb.bl
    exact op_notBl pins s σ H _ _ v u Q I rx ry ⟨_, _, rfl, rfl, h _ _ (.sc rfl)⟩
  · cases ra.non; cases rb.non
    exact op_isN pins s σ H _ _ v u Q I rx ry ⟨rfl, h _ _ (.sc rfl)⟩
  · cases ra.bl; cases rb.non
    exact op_isN pins s σ H _ _ v u Q I rx ry ⟨rfl, h _ _ (.sc rfl)⟩
  · cases ra.int; cases rb.non
    exact op_isN pins s σ H _ _ v u Q I rx ry ⟨rfl, h _ _ (.sc rfl)⟩
  · cases ra.str; cases rb.non
    exact op_isN pins s σ H _ _ v u Q I rx ry ⟨rfl, h _ _ (.sc rfl)⟩
  · obtain ⟨p, xs, rfl, _⟩ := ra.tup; cases rb.non
    exact op_isN pins s σ H _ _ v u Q I rx ry ⟨rfl, h _ _ (.sc rfl)⟩
  · obtain ⟨p, xs, rfl, _⟩ := ra.lst; cases rb.non
    exact op_isN pins s σ H _ _ v u Q I rx ry ⟨rfl, h _ _ (.sc rfl)⟩
  · cases ra with
    | p ra =>
      cases ra
      cases rb.non
      exact op_isN pins s σ H _ _ v u Q I rx ry ⟨rfl, h _ _ (.sc rfl)⟩
  · cases ra.non; cases rb.non
    exact op_notN pins s σ H _ _ v u Q I rx ry ⟨rfl, h _ _ (.sc rfl)⟩
  · cases ra.bl; cases rb.non
    exact op_notN pins s σ H _ _ v u Q I rx ry ⟨rfl, h _ _ (.sc rfl)⟩
  · cases ra.int; cases rb.non
    exact op_notN pins s σ H _ _ v u Q I rx ry ⟨rfl, h _ _ (.sc rfl)⟩
  · cases ra.str; cases rb.non
    exact op_notN pins s σ H _ _ v u Q I rx ry ⟨rfl, h _ _ (.sc rfl)⟩
  · obtain ⟨p, xs, rfl, _⟩ := ra.tup; cases rb.non
    exact op_notN pins s σ H _ _ v u Q I rx ry ⟨rfl, h _ _ (.sc rfl)⟩
  · obtain ⟨p, xs, rfl, _⟩ := ra.lst; cases rb.non
    exact op_notN pins s σ H _ _ v u Q I rx ry ⟨rfl, h _ _ (.sc rfl)⟩
  · cases ra with
    | p ra =>
      cases ra
      cases rb.non
      exact op_notN pins s σ H _ _ v u Q I rx ry ⟨rfl, h _ _ (.sc rfl)⟩
  · cases ra.str; cases rb.str
    exact op_in_str pins s σ H _ _ v u Q I rx ry ⟨_, _, rfl, rfl, h _ _ (.sc rfl)⟩
  · cases ra.str; cases rb.str
    exact op_notin_str pins s σ H _ _ v u Q I rx ry ⟨_, _, rfl, rfl, h _ _ (.sc rfl)⟩
  · obtain ⟨p, ys, rfl, e, r⟩ := rb.tup
    split at h
    · rename_i hs
      rw [Bool.and_eq_true] at hs
      cases ra.val hs.1
      cases r.vals hs.2
      exact op_in_seq pins s σ H _ _ v u Q I rx ry ⟨_, _, rfl, .inr e, flat_val hs.1, all_flat hs.2, by rw [inV_map]; exact h _ _ (.sc rfl)⟩
    · exact h.elim
  · obtain ⟨p, ys, rfl, e, r⟩ := rb.tup
    split at h
    · rename_i hs
      rw [Bool.and_eq_true] at hs
      cases ra.val hs.1
      cases r.vals hs.2
      exact op_notIn_seq pins s σ H _ _ v u Q I rx ry ⟨_, _, rfl, .inr e, flat_val hs.1, all_flat hs.2, by rw [inV_map]; exact h _ _ (.sc rfl)⟩
    · exact h.elim
  · split at h
    · rename_i hs
      obtain ⟨p, ys, rfl, e, r⟩ := rb.lst
      rw [Bool.and_eq_true] at hs
      cases ra.val hs.1
      cases r.vals hs.2
      exact op_in_seq pins s σ H _ _ v u Q I rx ry ⟨_, _, rfl, .inl (SqL.of e), flat_val hs.1, all_flat hs.2, by rw [inV_map]; exact h _ _ (.sc rfl)⟩
    · split at h
      · rename_i hs
        rw [Bool.and_eq_true] at hs
        have r2 := rb.dp hs.2
        have s2 := hs.2
        unfold shp at s2
        unfold toP at r2 s2
        exact op_inD hu pins s σ H _ _ v u Q I rx ry ⟨_, _, ra.dp hs.1, r2, hs.1, s2, h _ _ (.sc rfl)⟩
      · exact h.elim
  · split at h
    · rename_i hs
      obtain ⟨p, ys, rfl, e, r⟩ := rb.lst
      rw [Bool.and_eq_true] at hs
      cases ra.val hs.1
      cases r.vals hs.2
      exact op_notIn_seq pins s σ H _ _ v u Q I rx ry ⟨_, _, rfl, .inl (SqL.of e), flat_val hs.1, all_flat hs.2, by rw [inV_map]; exact h _ _ (.sc rfl)⟩
    · split at h
      · rename_i hs
        rw [Bool.and_eq_true] at hs
        have r2 := rb.dp hs.2
        have s2 := hs.2
        unfold shp at s2
        unfold toP at r2 s2
        exact op_notInD hu pins s σ H _ _ v u Q I rx ry ⟨_, _, ra.dp hs.1, r2, hs.1, s2, h _ _ (.sc rfl)⟩
      · exact h.elim
  · exact h.elim
end
end OL
/-! Which text of the small language a text of the program is; what a body may lean on. -/
namespace OL
open PySem PySem.Spec PyProof.Rows L2
def visB (sc : Scope) (x : Str) : Bool := match sc.names.lookup x with
  | some .local => true
  | some .cell => true
  | some .free => true
  | _ => false
def glB (sc : Scope) (x : Str) : Bool := match sc.names.lookup x with
  | some .globalImplicit => true
  | _ => false
def dbg (x : Str) : Bool := !(x == ("__debug__" : Str)) && !(x == ("__classdict__" : Str)) && !(x == ("__name__" : Str))
def litOk : D → Const → Bool
  | .non, .none => true
  | .bl a, .bool b => a == b
  | .int i, .int j => decide (i = j)
  | .str x, .str y => decide (x = y)
  | _, _ => false
def noSlice : Expr → Bool
  | .Slice .. => false
  | _ => true
def noStar : Expr → Bool
  | .Starred .. => false
  | _ => true
def bltName : Blt → Str
  | .len => "len" | .abs => "abs" | .max => "max" | .min => "min" | .int => "int" | .str => "str" | .list => "list" | .tuple => "tuple" | .all => "all" | .any => "any" | .bool => "bool"
def smName : Sm → Str
  | .part => "partition" | .split => "split" | .join => "join" | .upper => "upper" | .starts => "startswith"
def smAr : Sm → Nat
  | .upper => 0
  | _ => 1
def tyName : String → Bool
  | "int" => true | "bool" => true | "str" => true | "list" => true | "tuple" => true | "dict" => true
  | _ => false
def ckTy (sc : Scope) : List String → List Expr → Bool
  | [], [] => true
  | c :: cs, .Name x _ :: es => x == Str.ofString c && tyName c && glB sc x && noStar (.Name x ⟨0, 0, 0, 0⟩) && ckTy sc cs es
  | _, _ => false
def ckTys (sc : Scope) : List String → Expr → Bool
  | [c], .Name x _ => x == Str.ofString c && tyName c && glB sc x
  | c :: d :: cs, .Tuple es _ _ => decide (cs.length ≤ 100) && ckTy sc (c :: d :: cs) es
  | _, _ => false
/-- classes of errors -/
def ckXs (sc : Scope) : List String → List Expr → Bool
  | [], [] => true
  | c :: cs, .Name x _ :: es => x == Str.ofString c && (c == "ValueError" || isExc c) && glB sc x && dbg x && noStar (.Name x ⟨0, 0, 0, 0⟩) && ckXs sc cs es
  | _, _ => false
def ckX (sc : Scope) : List String → Expr → Bool
  | [c], .Name x _ => x == Str.ofString c && (c == "ValueError" || isExc c) && glB sc x && dbg x
  | c :: d :: cs, .Tuple es _ _ => decide (cs.length ≤ 100) && ckXs sc (c :: d :: cs) es
  | _, _ => false
mutual
def ckG (N : List Str) (cel : Bool) (sc : Scope) : Tg → Expr → Bool
  | .nm i, .Name x _ => decide (N[i]? = some x) && (match sc.names.lookup x with | some .local => true | some .cell => cel | _ => false)
  | .tp ts, .Tuple es _ _ => ckGs N cel sc ts es
  | _, _ => false
def ckGs (N : List Str) (cel : Bool) (sc : Scope) : List Tg → List Expr → Bool
  | [], [] => true
  | t :: ts, e :: es => ckG N cel sc t e && noStar e && ckGs N cel sc ts es
  | _, _ => false
end
def isTup : Expr → Bool
  | .Tuple .. => true
  | _ => false
/- the names of a target with their slots -/
mutual
def ownT : Tg → Expr → List (Str × Nat)
  | .nm i, .Name x _ => [(x, i)]
  | .tp ts, .Tuple es _ _ => ownTs ts es
  | _, _ => []
def ownTs : List Tg → List Expr → List (Str × Nat)
  | t :: ts, e :: es => ownT t e ++ ownTs ts es
  | _, _ => []
end
/-- a plain iterable: no call of the walked kinds -/
def ckIt : Ex → Bool
  | .rng _ => true
  | .enum _ => true
  | .zip _ _ => true
  | .revd _ => true
  | _ => false
def optC (nop : Bool) (o : Option Expr) (f : Expr → Bool) : Bool := match nop, o with
  | true, none => true
  | true, some _ => false
  | false, some e => f e
  | false, none => false
def cdC (nop : Bool) (o : List Expr) (f : Expr → Bool) : Bool := match nop, o with
  | true, [] => true
  | true, _ :: _ => false
  | false, [e] => f e
  | false, _ => false
mutual
def ck (N : List Str) : Ex → Scope → Expr → Bool
  | .var i, sc, .Name x _ => decide (N[i]? = some x) && visB sc x && dbg x
  | .bor i, sc, .Name x _ => decide (N[i]? = some x) && visB sc x && dbg x
  | .lit d, _, .Constant k _ _ => litOk d k
  | .glob n d, sc, .Name x _ => x == Str.ofString n && glB sc x && dbg x
  | .tup xs, sc, .Tuple es _ _ => ckL N xs sc es && xs.all nb
  | .lst xs, sc, .List es _ => ckL N xs sc es && xs.all nb
  | .bin op x y, sc, .BinOp a o b _ => decide (o = opOf op) && ck N x sc a && ck N y sc b
  | .neg x, sc, .UnaryOp o a _ => decide (o = .USub) && ck N x sc a
  | .cmp op x y, sc, .Compare a [o] [b] _ => decide (o = cpOf op) && !(behindInMarks o b) && ck N x sc a && ck N y sc b
  | .chain op op' x y z, sc, .Compare a [o, o'] [b, e] _ => decide (o = cpOf op) && decide (o' = cpOf op') && !(lastMarks [o, o'] [b, e]) && ck N x sc a && ck N y sc b && ck N z sc e
  | .and xs, sc, .BoolOp o es _ => decide (o = .And) && ckL N xs sc es && !xs.isEmpty && xs.all nb
  | .or xs, sc, .BoolOp o es _ => decide (o = .Or) && ckL N xs sc es && !xs.isEmpty && xs.all nb
  | .not x, sc, .UnaryOp o a _ => decide (o = .Not) && ck N x sc a
  | .ite t x y, sc, .IfExp e a b _ => ck N t sc e && ck N x sc a && ck N y sc b && nb x && nb y
  | .ix x i, sc, .Subscript a b _ => noSlice b && ck N x sc a && ck N i sc b
  | .sl x lo hi, sc, .Subscript a (.Slice l h none _) _ => ck N x sc a && optC (isNop lo) l (fun e => ck N lo sc e) && optC (isNop hi) h (fun e => ck N hi sc e)
  | .call f fl xs, sc, .Call (.Name x _) es [] _ => x == Str.ofString f.name && glB sc x && dbg x && ckL N xs sc es && !xs.isEmpty && (fl || xs.all nb) && !f.io
  | .blt b xs, sc, .Call (.Name x _) es [] _ => x == bltName b && glB sc x && ckL N xs sc es && !xs.isEmpty
  | .mth .bitlen x [], sc, .Call (.Attribute o a ap) [] [] p => a == ("bit_length" : Str) && (ap.endLine == p.line) && ck N x sc o
  | .sm m x xs, sc, .Call (.Attribute o a ap) es [] p => a == smName m && (ap.endLine == p.line) && ck N x sc o && ckL N xs sc es && decide (xs.length = smAr m)
  | .isi x cs, sc, .Call (.Name f _) [a, t] [] _ => f == ("isinstance" : Str) && glB sc f && noStar a && noStar t && ck N x sc a && ckTys sc cs t
  | .isx x cs, sc, .Call (.Name f _) [a, t] [] _ => f == ("isinstance" : Str) && glB sc f && noStar a && noStar t && ck N x sc a && ckX sc cs t
  | .rvl x, sc, .Subscript a (.Slice none none (some (.UnaryOp .USub (.Constant (.int 1) _ _) _)) _) _ => ck N x sc a
  | .rvl x, sc, .Call (.Name f _) [.Call (.Name g _) [a] [] _] [] _ => f == ("list" : Str) && glB sc f && g == ("reversed" : Str) && glB sc g && noStar a && ck N x sc a
  | .lc elt tg it cond, sc, .ListComp e [⟨t, i, ifs, n⟩] scope _ => decide (n = 0) && blkC N sc scope (ownT tg t) && ckG N false (relS scope sc) tg t && ck N elt (relS scope sc) e && cdC (isNop cond) ifs (fun e => ck N cond (relS scope sc) e) && nb elt &&
      decide ((ownT tg t).map (·.2) = slotsT tg) && (match ckIt it with | true => ckJ N it sc i (isTup t) | false => ck N it sc i && nb it) && !(match i with | .Set .. => true | _ => false)
  | _, _, _ => false
def ckL (N : List Str) : List Ex → Scope → List Expr → Bool
  | [], _, [] => true
  | x :: xs, sc, e :: es => ck N x sc e && noStar e && ckL N xs sc es
  | _, _, _ => false
/-- what is walked; tup: the target is a written tuple -/
def ckJ (N : List Str) : Ex → Scope → Expr → Bool → Bool
  | .rng [x], sc, .Call (.Name f _) [a] [] _, _ => f == ("range" : Str) && glB sc f && noStar a && ck N x sc a
  | .rng [x, y], sc, .Call (.Name f _) [a, b] [] _, _ => f == ("range" : Str) && glB sc f && noStar a && noStar b && ck N x sc a && ck N y sc b
  | .enum x, sc, .Call (.Name f _) [a] [] _, tup => tup && f == ("enumerate" : Str) && glB sc f && noStar a && ck N x sc a && nb x
  | .zip x y, sc, .Call (.Name f _) [a, b] [] _, tup => tup && f == ("zip" : Str) && glB sc f && noStar a && noStar b && ck N x sc a && ck N y sc b && nb x && nb y
  | .revd x, sc, .Call (.Name f _) [a] [] _, _ => f == ("reversed" : Str) && glB sc f && noStar a && ck N x sc a && nb x
  | _, _, _, _ => false
end
def ckO (N : List Str) (x : Ex) (sc : Scope) (o : Option Expr) : Bool := optC (isNop x) o (ck N x sc)
def ckCd (N : List Str) (x : Ex) (sc : Scope) (es : List Expr) : Bool := cdC (isNop x) es (ck N x sc)
def ckI (N : List Str) (it : Ex) (sc : Scope) (i : Expr) (tup : Bool) : Bool := match ckIt it with | true => ckJ N it sc i tup | false => ck N it sc i && nb it
mutual
/-- may stand in an except suite -/
def hotOk : Ex → Bool
  | .nop => true
  | .var _ => true
  | .bor _ => true
  | .lit _ => true
  | .glob _ _ => true
  | .tup xs => hotOkL xs
  | .lst xs => hotOkL xs
  | .bin _ x y => hotOk x && hotOk y
  | .neg x => hotOk x
  | .cmp _ x y => hotOk x && hotOk y
  | .chain _ _ x y z => hotOk x && hotOk y && hotOk z
  | .and xs => hotOkL xs
  | .or xs => hotOkL xs
  | .not x => hotOk x
  | .ix x i => hotOk x && hotOk i
  | .isx x _ => hotOk x
  | _ => false
def hotOkL : List Ex → Bool
  | [] => true
  | x :: xs => hotOk x && hotOkL xs
end
def isE : D → Bool
  | .exc _ => true
  | _ => false
mutual
/-- the defs and constants that it leans on -/
def cal (tb : Fn → Prop) (tg : String → D → Prop) : Ex → Prop
  | .glob n d => tg n d ∧ isE d = false
  | .tup xs => calL tb tg xs
  | .lst xs => calL tb tg xs
  | .bin _ x y => cal tb tg x ∧ cal tb tg y
  | .neg x => cal tb tg x
  | .cmp _ x y => cal tb tg x ∧ cal tb tg y
  | .chain _ _ x y z => cal tb tg x ∧ cal tb tg y ∧ cal tb tg z
  | .and xs => calL tb tg xs
  | .or xs => calL tb tg xs
  | .not x => cal tb tg x
  | .ite c x y => cal tb tg c ∧ cal tb tg x ∧ cal tb tg y
  | .ix x i => cal tb tg x ∧ cal tb tg i
  | .sl x lo hi => cal tb tg x ∧ cal tb tg lo ∧ cal tb tg hi
  | .call f _ xs => tb f ∧ calL tb tg xs
  | .blt _ xs => calL tb tg xs
  | .mth _ x xs => cal tb tg x ∧ calL tb tg xs
  | .isi x _ => cal tb tg x
  | .isx x cs => cal tb tg x ∧ ∀ k ∈ cs, k = "ValueError" ∨ tg k (.exc k)
  | .rvl x => cal tb tg x
  | .lc elt _ it cond => cal tb tg elt ∧ cal tb tg it ∧ cal tb tg cond
  | .rng xs => calL tb tg xs
  | .enum x => cal tb tg x
  | .zip x y => cal tb tg x ∧ cal tb tg y
  | .revd x => cal tb tg x
  | .sm _ x xs => cal tb tg x ∧ calL tb tg xs
  | _ => True
def calL (tb : Fn → Prop) (tg : String → D → Prop) : List Ex → Prop
  | [] => True
  | x :: xs => cal tb tg x ∧ calL tb tg xs
end
/-- a def's promise: it does to plain data what F says -/
def spF (K : PySem.W.Frag) (mg : Str → Option Value) (F : List D → R D) (fr : Bool) (n : Nat) : Sp := fun vs H Q E => vs.length = n ∧ ∃ (Z : Addr → Prop) (ds : List D), RpA K mg H Z ds vs ∧
  (F ds).all (fun d => ∀ v H', Same H H' → Rp K mg H' (fun a => Z a ∨ H a = none) d v →
      (fr = true → ∀ es, d = .lst es → ∃ a xs, v = .ref a ∧ H a = none ∧ H' a = some (.lst xs) ∧ RpA K mg H' (fun b => (Z b ∨ H b = none) ∧ b ≠ a) es xs) → Q v H')
    (fun k => ∀ C H', isExc k = true → mg (Str.ofString k) = some (.ref C) → Same H H' → E (.ref C) none H')
/-- the same of a def that changes its first argument, a list -/
def spQ (K : PySem.W.Frag) (mg : Str → Option Value) (F : List D → R D) (fr : Bool) (n : Nat) : Sp := fun vs H Q E => vs.length = n ∧ ∃ (Z : Addr → Prop) (a : Addr) (us xs : List V) (l ds : List D), vs = .ref a :: us ∧ H a = some (.lst xs) ∧ ¬ Z a ∧ RpA K mg H Z l xs ∧ RpA K mg H Z ds us ∧
  (F (.lst l :: ds)).all (fun r => ∃ d out, r = .tup [d, .lst out] ∧ ∀ v H' ys, (∀ b o, H b = some o → b ≠ a → H' b = some o) → H' a = some (.lst ys) → RpA K mg H' (fun b => Z b ∨ H b = none) out ys → Rp K mg H' (fun b => Z b ∨ H b = none) d v →
      (fr = true → ∀ es, d = .lst es → ∃ a' xs, v = .ref a' ∧ H a' = none ∧ H' a' = some (.lst xs) ∧ RpA K mg H' (fun b => (Z b ∨ H b = none) ∧ b ≠ a') es xs ∧ RpA K mg H' (fun b => (Z b ∨ H b = none) ∧ b ≠ a') out ys) → Q v H')
    (fun k => ∀ C H', isExc k = true → mg (Str.ofString k) = some (.ref C) → (∀ b o, H b = some o → b ≠ a → H' b = some o) → (∃ ys, H' a = some (.lst ys)) → E (.ref C) none H')
def spG (K : PySem.W.Frag) (mg : Str → Option Value) (f : Fn) (n : Nat) : Sp := if f.io then spQ K mg f.run f.fr n else spF K mg f.run f.fr n
structure CallOk (X : Cx) (f : Fn) : Prop where
  ex : ∃ (k : Nat) (fa : Addr) (fd : FuncData) (ps : List Str) (ds : List Value), FnOk X.prog X.w X.K X.mg X.base (L2.CX X.prog X.w) k fa fd ps (spG X.K X.mg f ps.length) ∧ Room k X.A ∧
    X.mg (Str.ofString f.name) = some (.ref fa) ∧ PySem.W.keepIn X.K (.ref fa) = true ∧ Binds X.K fd ps ds ∧ Vals (f.dfl.map valD) ds ∧ ∀ zs, f.run zs ≠ .bad → zs.length = ps.length
  dfl : f.dfl.all scalD = true
def othN : List Str := ["ValueError", "isinstance", "range", "enumerate", "zip", "reversed", "int", "bool", "str", "list", "tuple", "dict"]
/-- the errors' classes, as isinstance asks them -/
structure XKit (K : PySem.W.Frag) (mg : Str → Option Value) : Prop where
  ec : ∀ k C, isExc k = true → mg (Str.ofString k) = some (.ref C) → ExcC K C
  kk : ∀ k k' C C', isExc k = true → isExc k' = true → mg (Str.ofString k) = some (.ref C) → mg (Str.ofString k') = some (.ref C') → PySem.W.kitOne K (.ref C) (.ref C') = some (subX k k')
  kv : ∀ k C, isExc k = true → mg (Str.ofString k) = some (.ref C) → PySem.W.kitOne K (.ref C) (.type "ValueError") = some true
  kn : ∀ t ∈ ["NoneType", "bool", "int", "str", "tuple", "list", "dict"], ∀ k C, isExc k = true → mg (Str.ofString k) = some (.ref C) → PySem.W.kitOne K (.type t) (.ref C) = some false
  dg : PySem.W.nsIn K cStatics "sys.int_max_str_digits" = some none
/-- no limit of its own on figures -/
theorem digits_of {X : Cx} {pins : List (Addr × Obj)} {σ : Sg} {H : Hp} {s : Shared} (k : XKit X.K X.mg) (I : Inv X pins σ H s) : s.heap.NoDigits := let ⟨mc, ns, _⟩ := I.nolimit; ⟨mc, ns, PySem.W.ns_none_of I.kIn ns k.dg⟩
structure Good (tb : Fn → Prop) (tg : String → D → Prop) (X : Cx) (hot : Bool) : Prop where
  nd : X.N.Nodup
  un : X.A.units + 65 < cLine
  calm : hot = false → X.calm = true
  calls : hot = false → ∀ f, tb f → CallOk X f
  blt : ∀ b : Blt, X.mg (bltName b) = none
  oth : ∀ x ∈ othN, X.mg x = none
  xk : XKit X.K X.mg
  gle : ∀ n m, tg n (.exc m) → ∃ C, X.mg (Str.ofString n) = some (.ref C)
  glb : ∀ n d, tg n d → isE d = false → ∃ u v, X.mg (Str.ofString n) = some u ∧ RelV v u ∧ ∀ H Z, Rp X.K X.mg H Z d v
abbrev cn (X : Cx) (H0 : Hp) (Gp : GQ) : Cn := ⟨X.K, X.mg, H0, Gp⟩
/-! ### reading the checks off -/
theorem vis_of {sc : Scope} {x : Str} (h : visB sc x = true) : Vis sc x := by
  unfold visB at h
  split at h
  · exact .inl (by assumption)
  · exact .inr (.inl (by assumption))
  · exact .inr (.inr (by assumption))
  · cases h
theorem gl_of {X : Cx} {x : Str} (h : glB X.env.scope x = true) : Gl X x := by
  unfold glB at h
  split at h
  · assumption
  · cases h
theorem dbg_of {x : Str} (h : dbg x = true) : (x == ("__debug__" : Str)) = false ∧ (x == ("__classdict__" : Str)) = false ∧ x ≠ "__name__" := by
  unfold dbg at h
  simp only [Bool.and_eq_true, Bool.not_eq_true'] at h
  exact ⟨h.1.1, h.1.2, by simpa using h.2⟩
theorem star_of {e : Expr} (h : noStar e = true) (es : List Expr) (env : Env) : starEach (e :: es) env = (false, eval e env) :: starEach es env := by
  cases e <;> first | rfl | cases h
theorem nostars {N : List Str} : ∀ {xs : List Ex} {sc : Scope} {es : List Expr}, ckL N xs sc es = true → ∀ (env : Env) (pos : Pos), (backTo pos (starEach es env)).any (·.1) = false
  | [], _, [], _, _, _ => rfl
  | [], _, _ :: _, h, _, _ => by unfold ckL at h; cases h
  | _ :: _, _, [], h, _, _ => by unfold ckL at h; cases h
  | x :: xs, sc, e :: es, h, env, pos => by
    unfold ckL at h
    rw [Bool.and_eq_true, Bool.and_eq_true] at h
    rw [star_of h.1.2]
    show (false || (backTo pos (starEach es env)).any (·.1)) = false
    rw [nostars h.2 env pos]
    rfl
theorem plainIx_of {b : Expr} (h : noSlice b = true) : PlainIx b := by
  intro o i
  cases b <;> first | rfl | cases h
end OL
namespace OL
open PySem PySem.Spec PyProof.Rows L2
section
variable {N : List Str} {sc : Scope} {e : Expr} {x y z : Ex} {xs : List Ex} {i : Nat} {op : Op} {cp cp' : Cp}
theorem ck_var (h : ck N (.var i) sc e = true) : ∃ n p, e = .Name n p ∧ N[i]? = some n ∧ visB sc n = true ∧ dbg n = true := by
  cases e <;> (try simp [ck] at h)
  exact ⟨_, _, rfl, h.1.1, h.1.2, h.2⟩
theorem ck_bor (h : ck N (.bor i) sc e = true) : ∃ n p, e = .Name n p ∧ N[i]? = some n ∧ visB sc n = true ∧ dbg n = true := by
  cases e <;> (try simp [ck] at h)
  exact ⟨_, _, rfl, h.1.1, h.1.2, h.2⟩
theorem ck_lit {d : D} (h : ck N (.lit d) sc e = true) : ∃ k j p, e = .Constant k j p ∧ litOk d k = true := by
  cases e <;> (try simp [ck] at h)
  exact ⟨_, _, _, rfl, h⟩
theorem ck_glob {n : String} {d : D} (h : ck N (.glob n d) sc e = true) : ∃ p, e = .Name (Str.ofString n) p ∧ glB sc (Str.ofString n) = true ∧ dbg (Str.ofString n) = true := by
  cases e <;> (try simp [ck] at h)
  obtain ⟨⟨rfl, h1⟩, h2⟩ := h
  exact ⟨_, rfl, h1, h2⟩
theorem ck_tup (h : ck N (.tup xs) sc e = true) : ∃ es k p, e = .Tuple es k p ∧ ckL N xs sc es = true ∧ xs.all nb = true := by
  cases e <;> (try simp [ck] at h)
  exact ⟨_, _, _, rfl, h.1, by simpa using h.2⟩
theorem ck_lst (h : ck N (.lst xs) sc e = true) : ∃ es p, e = .List es p ∧ ckL N xs sc es = true ∧ xs.all nb = true := by
  cases e <;> (try simp [ck] at h)
  exact ⟨_, _, rfl, h.1, by simpa using h.2⟩
theorem ck_bin (h : ck N (.bin op x y) sc e = true) : ∃ a b p, e = .BinOp a (opOf op) b p ∧ ck N x sc a = true ∧ ck N y sc b = true := by
  cases e <;> (try simp [ck] at h)
  obtain ⟨⟨rfl, h1⟩, h2⟩ := h
  exact ⟨_, _, _, rfl, h1, h2⟩
theorem ck_neg (h : ck N (.neg x) sc e = true) : ∃ a p, e = .UnaryOp .USub a p ∧ ck N x sc a = true := by
  cases e <;> (try simp [ck] at h)
  obtain ⟨rfl, h1⟩ := h
  exact ⟨_, _, rfl, h1⟩
theorem ck_not (h : ck N (.not x) sc e = true) : ∃ a p, e = .UnaryOp .Not a p ∧ ck N x sc a = true := by
  cases e <;> (try simp [ck] at h)
  obtain ⟨rfl, h1⟩ := h
  exact ⟨_, _, rfl, h1⟩
theorem ck_cmp (h : ck N (.cmp cp x y) sc e = true) : ∃ a b p, e = .Compare a [cpOf cp] [b] p ∧ behindInMarks (cpOf cp) b = false ∧ ck N x sc a = true ∧ ck N y sc b = true := by
  cases e <;> (try simp [ck] at h)
  rename_i l ops bs p
  match ops, bs, h with
  | [o], [b], h =>
    first | simp [ck] at h | simp at h
    obtain ⟨⟨⟨rfl, h1⟩, h2⟩, h3⟩ := h
    exact ⟨_, _, _, rfl, h1, h2, h3⟩
  | [], _, h => first | (simp [ck] at h; done) | (simp at h; done) | skip
  | [o], [], h => first | (simp [ck] at h; done) | (simp at h; done) | skip
  | [o], _ :: _ :: _, h => first | (simp [ck] at h; done) | (simp at h; done) | skip
  | _ :: _ :: _, _, h => first | (simp [ck] at h; done) | (simp at h; done) | skip
theorem ck_chain (h : ck N (.chain cp cp' x y z) sc e = true) : ∃ a b d p, e = .Compare a [cpOf cp, cpOf cp'] [b, d] p ∧ lastMarks [cpOf cp, cpOf cp'] [b, d] = false ∧ ck N x sc a = true ∧ ck N y sc b = true ∧ ck N z sc d = true := by
  cases e <;> (try simp [ck] at h)
  rename_i l ops bs p
  match ops, bs, h with
  | [o, o'], [b, d], h =>
    first | simp [ck] at h | simp at h
    obtain ⟨⟨⟨⟨⟨rfl, rfl⟩, h1⟩, h2⟩, h3⟩, h4⟩ := h
    exact ⟨_, _, _, _, rfl, h1, h2, h3, h4⟩
  | [], _, h => first | (simp [ck] at h; done) | (simp at h; done) | skip
  | [_], _, h => first | (simp [ck] at h; done) | (simp at h; done) | skip
  | [_, _], [], h => first | (simp [ck] at h; done) | (simp at h; done) | skip
  | [_, _], [_], h => first | (simp [ck] at h; done) | (simp at h; done) | skip
  | [_, _], _ :: _ :: _ :: _, h => first | (simp [ck] at h; done) | (simp at h; done) | skip
  | _ :: _ :: _ :: _, _, h => first | (simp [ck] at h; done) | (simp at h; done) | skip
theorem ck_and (h : ck N (.and xs) sc e = true) : ∃ es p, e = .BoolOp .And es p ∧ ckL N xs sc es = true ∧ xs ≠ [] ∧ xs.all nb = true := by
  cases e <;> (try simp [ck] at h)
  obtain ⟨⟨⟨rfl, h1⟩, h2⟩, h3⟩ := h
  exact ⟨_, _, rfl, h1, h2, by simpa using h3⟩
theorem ck_or (h : ck N (.or xs) sc e = true) : ∃ es p, e = .BoolOp .Or es p ∧ ckL N xs sc es = true ∧ xs ≠ [] ∧ xs.all nb = true := by
  cases e <;> (try simp [ck] at h)
  obtain ⟨⟨⟨rfl, h1⟩, h2⟩, h3⟩ := h
  exact ⟨_, _, rfl, h1, h2, by simpa using h3⟩
theorem ck_ite (h : ck N (.ite x y z) sc e = true) : ∃ a b d p, e = .IfExp a b d p ∧ ck N x sc a = true ∧ ck N y sc b = true ∧ ck N z sc d = true ∧ nb y = true ∧ nb z = true := by
  cases e <;> (try simp [ck] at h)
  exact ⟨_, _, _, _, rfl, h.1.1.1.1, h.1.1.1.2, h.1.1.2, h.1.2, h.2⟩
theorem ck_ix (h : ck N (.ix x y) sc e = true) : ∃ a b p, e = .Subscript a b p ∧ noSlice b = true ∧ ck N x sc a = true ∧ ck N y sc b = true := by
  cases e <;> (try simp [ck] at h)
  exact ⟨_, _, _, rfl, h.1.1, h.1.2, h.2⟩
theorem ck_sl (h : ck N (.sl x y z) sc e = true) : ∃ a l u q p, e = .Subscript a (.Slice l u none q) p ∧ ck N x sc a = true ∧ ckO N y sc l = true ∧ ckO N z sc u = true := by
  cases e <;> (try simp [ck] at h)
  rename_i a s p
  cases s <;> (try simp [ck] at h)
  rename_i l u st q
  cases st <;> (try simp [ck] at h)
  exact ⟨_, _, _, _, _, rfl, h.1.1, h.1.2, h.2⟩
theorem ck_call {f : Fn} {fl : Bool} (h : ck N (.call f fl xs) sc e = true) : ∃ q es p, e = .Call (.Name (Str.ofString f.name) q) es [] p ∧ glB sc (Str.ofString f.name) = true ∧ dbg (Str.ofString f.name) = true ∧ ckL N xs sc es = true ∧ xs ≠ [] ∧ (fl = true ∨ xs.all nb = true) ∧ f.io = false := by
  cases e <;> (try simp [ck] at h)
  rename_i fn es ks p
  cases fn <;> (try simp [ck] at h)
  cases ks <;> (try simp [ck] at h)
  obtain ⟨⟨⟨⟨⟨⟨rfl, h1⟩, h2⟩, h3⟩, h4⟩, h5⟩, h6⟩ := h
  exact ⟨_, _, _, rfl, h1, h2, h3, h4, by simpa using h5, h6⟩
theorem ck_blt {b : Blt} (h : ck N (.blt b xs) sc e = true) : ∃ q es p, e = .Call (.Name (bltName b) q) es [] p ∧ glB sc (bltName b) = true ∧ ckL N xs sc es = true ∧ xs ≠ [] := by
  cases e <;> (try simp [ck] at h)
  rename_i fn es ks p
  cases fn <;> (try simp [ck] at h)
  cases ks <;> (try simp [ck] at h)
  obtain ⟨⟨⟨rfl, h1⟩, h2⟩, h3⟩ := h
  exact ⟨_, _, _, rfl, h1, h2, h3⟩
theorem ck_bitlen (h : ck N (.mth .bitlen x xs) sc e = true) : xs = [] ∧ ∃ o ap p, e = .Call (.Attribute o ("bit_length" : Str) ap) [] [] p ∧ (ap.endLine == p.line) = true ∧ ck N x sc o = true := by
  cases xs with
  | cons _ _ => cases e <;> (try simp [ck] at h)
  | nil =>
    cases e <;> (try simp [ck] at h)
    rename_i fn es ks p
    cases fn <;> (try simp [ck] at h)
    cases es <;> (try simp [ck] at h)
    cases ks <;> (try simp [ck] at h)
    obtain ⟨⟨rfl, h1⟩, h2⟩ := h
    exact ⟨rfl, _, _, _, rfl, by simpa using h1, h2⟩
theorem ck_isi {cs : List String} (h : ck N (.isi x cs) sc e = true) : ∃ q a t p, e = .Call (.Name ("isinstance" : Str) q) [a, t] [] p ∧ glB sc ("isinstance" : Str) = true ∧ noStar a = true ∧ noStar t = true ∧ ck N x sc a = true ∧ ckTys sc cs t = true := by
  cases e <;> (try simp [ck] at h)
  rename_i fn es ks p
  cases fn <;> (try simp [ck] at h)
  match es, ks, h with
  | [a, t], [], h =>
    first | simp [ck] at h | simp at h
    obtain ⟨⟨⟨⟨⟨rfl, h1⟩, h2⟩, h3⟩, h4⟩, h5⟩ := h
    exact ⟨_, _, _, _, rfl, h1, h2, h3, h4, h5⟩
  | [], _, h => first | (simp [ck] at h; done) | (simp at h; done) | skip
  | [_], _, h => first | (simp [ck] at h; done) | (simp at h; done) | skip
  | _ :: _ :: _ :: _, _, h => first | (simp [ck] at h; done) | (simp at h; done) | skip
  | [_, _], _ :: _, h => first | (simp [ck] at h; done) | (simp at h; done) | skip
theorem ck_isx {cs : List String} (h : ck N (.isx x cs) sc e = true) : ∃ q a t p, e = .Call (.Name ("isinstance" : Str) q) [a, t] [] p ∧ glB sc ("isinstance" : Str) = true ∧ noStar a = true ∧ noStar t = true ∧ ck N x sc a = true ∧ ckX sc cs t = true := by
  cases e <;> (try simp [ck] at h)
  rename_i fn es ks p
  cases fn <;> (try simp [ck] at h)
  match es, ks, h with
  | [a, t], [], h =>
    first | simp [ck] at h | simp at h
    obtain ⟨⟨⟨⟨⟨rfl, h1⟩, h2⟩, h3⟩, h4⟩, h5⟩ := h
    exact ⟨_, _, _, _, rfl, h1, h2, h3, h4, h5⟩
  | [], _, h => first | (simp [ck] at h; done) | (simp at h; done) | skip
  | [_], _, h => first | (simp [ck] at h; done) | (simp at h; done) | skip
  | _ :: _ :: _ :: _, _, h => first | (simp [ck] at h; done) | (simp at h; done) | skip
  | [_, _], _ :: _, h => first | (simp [ck] at h; done) | (simp at h; done) | skip
theorem ck_rvl (h : ck N (.rvl x) sc e = true) : (∃ a k p1 p2 p3 p, e = .Subscript a (.Slice none none (some (.UnaryOp .USub (.Constant (.int 1) k p1) p2)) p3) p ∧ ck N x sc a = true) ∨
    ∃ q1 q2 a p1 p2, e = .Call (.Name ("list" : Str) q1) [.Call (.Name ("reversed" : Str) q2) [a] [] p1] [] p2 ∧ glB sc ("list" : Str) = true ∧ glB sc ("reversed" : Str) = true ∧ noStar a = true ∧ ck N x sc a = true := by
  unfold ck at h
  split at h <;> first | (cases h; done) | skip
  all_goals first | (rename_i heq; cases heq; done) | skip
  · (rename_i heq; cases heq)
    exact .inl ⟨_, _, _, _, _, _, rfl, h⟩
  · (rename_i heq; cases heq)
    simp only [Bool.and_eq_true, beq_iff_eq] at h
    obtain ⟨⟨⟨⟨⟨rfl, h1⟩, rfl⟩, h2⟩, h3⟩, h4⟩ := h
    exact .inr ⟨_, _, _, _, _, rfl, h1, h2, h3, h4⟩
theorem ck_lc {tg : Tg} {it cond : Ex} (h : ck N (.lc x tg it cond) sc e = true) : ∃ a t i ifs scope p, e = .ListComp a [⟨t, i, ifs, 0⟩] scope p ∧ blkC N sc scope (ownT tg t) = true ∧ ckG N false (relS scope sc) tg t = true ∧ ck N x (relS scope sc) a = true ∧ ckCd N cond (relS scope sc) ifs = true ∧ nb x = true ∧ (ownT tg t).map (·.2) = slotsT tg ∧ ckI N it sc i (isTup t) = true ∧ (∀ es k q, i ≠ .Set es k q) := by
  cases e <;> (try simp [ck] at h)
  rename_i a gs scope p
  match gs, h with
  | [⟨t, i, ifs, n⟩], h =>
    unfold ck at h
    simp at h
    obtain ⟨⟨⟨⟨⟨⟨⟨⟨h0, h1⟩, h2⟩, h3⟩, h4⟩, h5⟩, h6⟩, h7⟩, h8⟩ := h
    subst h0
    exact ⟨_, _, _, _, _, _, rfl, h1, h2, h3, h4, h5, h6, h7, fun es k q z => by subst z; simp at h8⟩
  | [], h => first | (simp [ck] at h; done) | (simp at h; done) | skip
  | _ :: _ :: _, h => first | (simp [ck] at h; done) | (simp at h; done) | skip
end
end OL
namespace OL
open PySem PySem.Spec PyProof.Rows L2
section
variable {X : Cx}
def rIxG (K : PySem.W.Frag) (mg : Str → Option Value) : R2 := fun x y H Q => ∃ (Z : Addr → Prop) (E : String → Prop) (a b : D), Rb K mg H Z a x ∧ Rb K mg H Z b y ∧ (ixD a b).all (fun d => ∀ v, Rp K mg H Z d v → Q v H) E
theorem ix_all : IxR X (rIxG X.K X.mg) := by
  intro va sl pins s σ H x y v u Q I rx ry h hs
  obtain ⟨Z, E, a, b, ra, rb, h⟩ := h
  unfold ixD at h
  split at h
  · rename_i xs i
    cases rb.int
    obtain ⟨p, vs, rfl, e, r⟩ := ra.tup
    split at h
    · rename_i d he
      obtain ⟨w, hw, rw'⟩ := r.atI he
      exact ix_seq va sl pins s σ H _ _ v u Q I rx ry (.inr (.inl ⟨_, _, _, _, rfl, rfl, e, hw, h _ rw'⟩)) hs
    · exact h.elim
  · cases rb.int
    obtain ⟨p, vs, rfl, e, r⟩ := ra.lst
    split at h
    · rename_i d he
      obtain ⟨w, hw, rw'⟩ := r.atI he
      exact ix_seq va sl pins s σ H _ _ v u Q I rx ry (.inl ⟨_, _, _, _, rfl, rfl, SqL.of e, hw, h _ rw'⟩) hs
    · exact h.elim
  · rename_i ns i
    cases rb.int
    obtain ⟨p, rfl, e⟩ := ra.scr
    split at h
    · rename_i d he
      have hw : atI (ns.map V.int) i = some (V.int d) := by
        unfold atI at he ⊢
        rw [List.length_map]
        cases q : ixN ns.length i with
        | none => rw [q] at he; cases he
        | some j =>
          rw [q] at he
          show (ns.map V.int)[j]? = _
          rw [List.getElem?_map, show ns[j]? = some d from he]
          rfl
      exact ix_seq va sl pins s σ H _ _ v u Q I rx ry (.inl ⟨_, _, _, _, rfl, rfl, e.sq, hw, h _ (.int _)⟩) hs
    · exact h.elim
  · cases rb.int
    cases ra.str
    split at h
    · rename_i hl
      split at h
      · rename_i c he
        exact ix_seq va sl pins s σ H _ _ v u Q I rx ry (.inr (.inr ⟨_, _, _, rfl, rfl, by rw [line_eq]; exact hl, he, h _ (.str _)⟩)) hs
      · exact h.elim
    · exact h.elim
  · exact h.elim
def rSlG (K : PySem.W.Frag) (mg : Str → Option Value) : V → Option Int → Option Int → Hp → VK → Prop := fun x lo hi H Q => ∃ (Z : Addr → Prop) (E : String → Prop) (a : D), Rb K mg H Z a x ∧
  (slD a lo hi).all (fun d => ∀ v H', Nw K mg H Z d v H' → Q v H') E
theorem sl_all : SlR X (rSlG X.K X.mg) := by
  intro pins s σ H x v vl vu lo hi sl Q I rx hs pl pu h
  obtain ⟨Z, E, a, ra, h⟩ := h
  unfold slD at h
  split at h
  · obtain ⟨p, vs, rfl, e, r⟩ := ra.lst
    exact sl_list pins s σ H _ v vl vu lo hi sl Q I rx hs pl pu ⟨_, _, rfl, SqL.of e, fun n hn => h _ _ (.nl hn (r.cut _ _))⟩
  · rename_i ns
    obtain ⟨p, rfl, e⟩ := ra.scr
    refine sl_list pins s σ H _ v vl vu lo hi sl Q I rx hs pl pu ⟨_, _, rfl, e.sq, fun n hn => h _ _ (.nl hn ?_)⟩
    have q := RpA.cut (RpA.ints (K := X.K) (mg := X.mg) (H := H) (Z := Z) ns) lo hi
    have e2 : cutD (ns.map D.int) lo hi = (cutD ns lo hi).map D.int := by
      unfold cutD
      rw [List.length_map, List.map_take, List.map_drop]
    rw [← e2]
    exact q
  · cases ra.str
    split at h
    · rename_i hl
      exact sl_str pins s σ H _ v vl vu lo hi sl Q I rx hs pl pu ⟨_, rfl, by rw [line_eq]; exact hl, h _ _ (.sc rfl)⟩
    · exact h.elim
  · exact h.elim
def rBlt (K : PySem.W.Frag) (mg : Str → Option Value) (b : Blt) : List V → Hp → VK → Prop := fun vs H Q => ∃ (Z : Addr → Prop) (E : String → Prop) (ds : List D), RbA K mg H Z ds vs ∧
  (bltD b ds).all (fun d => ∀ v H', Nw K mg H Z d v H' → Q v H') E
def bltV : Blt → Value
  | .len => .builtin "len" | .abs => .builtin "abs" | .max => .builtin "max" | .min => .builtin "min" | .all => .builtin "all" | .any => .builtin "any"
  | .int => .type "int" | .str => .type "str" | .list => .type "list" | .tuple => .type "tuple" | .bool => .type "bool"
section
variable {K : PySem.W.Frag} {mg : Str → Option Value} {H : Hp} {Z : Addr → Prop}
theorem RbA.one {d : D} {vs : List V} (r : RbA K mg H Z [d] vs) : ∃ v, vs = [v] ∧ Rb K mg H Z d v := by
  cases r with | cons a b => cases b; exact ⟨_, rfl, a⟩
theorem RbA.two {d e : D} {vs : List V} (r : RbA K mg H Z [d, e] vs) : ∃ v w, vs = [v, w] ∧ Rb K mg H Z d v ∧ Rb K mg H Z e w := by
  cases r with | cons a b => cases b with | cons c f => cases f; exact ⟨_, _, rfl, a, c⟩
theorem bools_of : ∀ {ds : List D} {bs : List Bool} {vs : List V}, RpA K mg H Z ds vs → (ds.mapM fun | .bl b => some b | _ => none) = some bs → vs = bs.map V.bl
  | [], bs, _, .nil, e => by
    cases bs with
    | nil => rfl
    | cons _ _ => cases e
  | d :: ds, bs, _, .cons r t, e => by
    cases d with
    | bl b =>
      cases r
      rw [List.mapM_cons] at e
      cases q : (ds.mapM fun | D.bl b => some b | _ => none) with
      | none => rw [q] at e; cases e
      | some cs =>
        rw [q] at e
        have e' : some (b :: cs) = some bs := e
        cases e'
        rw [bools_of t q]
        rfl
    | _ => rw [List.mapM_cons] at e; cases e
end
theorem call_blt (b : Blt) (dg : PySem.W.nsIn X.K cStatics "sys.int_max_str_digits" = some none) (hc : (b = .max ∨ b = .min ∨ b = .all ∨ b = .any) → X.calm = true) : CallR X (bltV b) (rBlt X.K X.mg b) := by
  intro pins s σ H xs us Q I r h
  obtain ⟨Z, E, ds, rd, h⟩ := h
  unfold bltD at h
  split at h
  · obtain ⟨v, rfl, rv⟩ := rd.one
    obtain ⟨p, ys, rfl, e, ra⟩ := rv.tup
    exact call_len_seq pins s σ H _ us Q I r ⟨_, _, rfl, .inr e, by rw [← ra.length]; exact h _ _ (.sc rfl)⟩
  · obtain ⟨v, rfl, rv⟩ := rd.one
    obtain ⟨p, ys, rfl, e, ra⟩ := rv.lst
    exact call_len_seq pins s σ H _ us Q I r ⟨_, _, rfl, .inl (SqL.of e), by rw [← ra.length]; exact h _ _ (.sc rfl)⟩
  · obtain ⟨v, rfl, rv⟩ := rd.one
    obtain ⟨p, rfl, e⟩ := rv.scr
    exact call_len_seq pins s σ H _ us Q I r ⟨_, _, rfl, .inl e.sq, by rw [List.length_map]; exact h _ _ (.sc rfl)⟩
  · obtain ⟨v, rfl, rv⟩ := rd.one
    cases rv.str
    split at h
    · rename_i hl
      exact call_len_str pins s σ H _ us Q I r ⟨_, rfl, by rw [line_eq]; exact hl, h _ _ (.sc rfl)⟩
    · exact h.elim
  · obtain ⟨v, rfl, rv⟩ := rd.one
    cases rv.int
    exact call_abs pins s σ H _ us Q I r ⟨_, rfl, h _ _ (.sc rfl)⟩
  · obtain ⟨v, w, rfl, rv, rw'⟩ := rd.two
    cases rv.int; cases rw'.int
    exact call_max2 (hc (.inl rfl)) pins s σ H _ us Q I r ⟨_, _, rfl, h _ _ (.sc rfl)⟩
  · obtain ⟨v, w, rfl, rv, rw'⟩ := rd.two
    cases rv.int; cases rw'.int
    exact call_min2 (hc (.inr (.inl rfl))) pins s σ H _ us Q I r ⟨_, _, rfl, h _ _ (.sc rfl)⟩
  · obtain ⟨v, rfl, rv⟩ := rd.one
    cases rv.int
    exact call_int1 pins s σ H _ us Q I r (.inl ⟨_, rfl, h _ _ (.sc rfl)⟩)
  · obtain ⟨v, rfl, rv⟩ := rd.one
    cases rv.bl
    exact call_int1 pins s σ H _ us Q I r (.inr ⟨_, rfl, h _ _ (.sc rfl)⟩)
  · obtain ⟨v, rfl, rv⟩ := rd.one
    cases rv.str
    split at h
    · rename_i n hn
      split at h
      · rename_i hl
        cases r with
        | cons r1 rs =>
          cases rs
          obtain ⟨t, rfl⟩ := r1
          have nd : s.heap.NoDigits := let ⟨mc, ns, _⟩ := I.nolimit; ⟨mc, ns, PySem.W.ns_none_of I.kIn ns dg⟩
          exact int_big nd (by rw [sizeLine_eq]; omega) hn ⟨.int _, H, I.tok _, ⟨_, rfl⟩, h _ _ (.sc rfl)⟩
      · exact h.elim
    · exact h.elim
  · obtain ⟨v, rfl, rv⟩ := rd.one
    cases rv.int
    split at h
    · rename_i hl
      obtain ⟨u, rfl, t, rfl⟩ := vals1 r
      have nd : s.heap.NoDigits := let ⟨mc, ns, _⟩ := I.nolimit; ⟨mc, ns, PySem.W.ns_none_of I.kIn ns dg⟩
      exact str_big nd (Nat.lt_of_lt_of_le (lt_of_log2 hl) pow_lo) ⟨.str _, H, I.tok _, ⟨_, rfl⟩, h _ _ (.sc rfl)⟩
    · exact h.elim
  · obtain ⟨v, rfl, rv⟩ := rd.one
    obtain ⟨p, ys, rfl, e, ra⟩ := rv.lst
    exact call_list_of pins s σ H _ us Q I r ⟨_, _, rfl, .inl (SqL.of e), fun n hn => h _ _ (.nl hn ra)⟩
  · obtain ⟨v, rfl, rv⟩ := rd.one
    obtain ⟨p, ys, rfl, e, ra⟩ := rv.tup
    exact call_list_of pins s σ H _ us Q I r ⟨_, _, rfl, .inr e, fun n hn => h _ _ (.nl hn ra)⟩
  · obtain ⟨v, rfl, rv⟩ := rd.one
    obtain ⟨p, rfl, e⟩ := rv.scr
    exact call_list_of pins s σ H _ us Q I r ⟨_, _, rfl, .inl e.sq, fun n hn => h _ _ (.nl hn (RpA.ints _))⟩
  · obtain ⟨v, rfl, rv⟩ := rd.one
    obtain ⟨p, ys, rfl, e, ra⟩ := rv.lst
    exact call_tuple_of pins s σ H _ us Q I r ⟨_, _, rfl, .inl ⟨SqL.of e, fun n hn => h _ _ (.nt hn ra)⟩⟩
  · obtain ⟨v, rfl, rv⟩ := rd.one
    obtain ⟨p, ys, rfl, e, ra⟩ := rv.lst
    split at h
    · rename_i bs hb
      exact cr_all (hc (.inr (.inr (.inl rfl)))) pins s σ H _ us Q I r ⟨_, _, rfl, by rw [← bools_of ra hb]; exact SqL.of e, h _ _ (.sc rfl)⟩
    · exact h.elim
  · obtain ⟨v, rfl, rv⟩ := rd.one
    obtain ⟨p, ys, rfl, e, ra⟩ := rv.lst
    split at h
    · rename_i bs hb
      exact cr_any (hc (.inr (.inr (.inr rfl)))) pins s σ H _ us Q I r ⟨_, _, rfl, by rw [← bools_of ra hb]; exact SqL.of e, h _ _ (.sc rfl)⟩
    · exact h.elim
  · exact h.elim
/-! ### types -/
theorem kit_fin : ∀ t ∈ ["NoneType", "bool", "int", "str", "tuple", "list", "dict"], ∀ k ∈ ["int", "bool", "str", "list", "tuple", "dict"], kitB t k = some (isT t k) := by decide +kernel
theorem tyD_mem {d : D} {t : String} (h : tyD d = some t) : t ∈ ["NoneType", "bool", "int", "str", "tuple", "list", "dict"] := by
  cases d <;> cases h <;> decide
theorem tyName_mem {k : String} (h : tyName k = true) : k ∈ ["int", "bool", "str", "list", "tuple", "dict"] := by
  unfold tyName at h
  split at h <;> first | decide | cases h
theorem kit_of_ty {K : PySem.W.Frag} {d : D} {t k : String} (h : tyD d = some t) (hk : tyName k = true) : PySem.W.kitOne K (.type t) (.type k) = some (isT t k) := kit_ty (kit_fin t (tyD_mem h) k (tyName_mem hk))
theorem kit_any {K : PySem.W.Frag} {d : D} {t : String} (h : tyD d = some t) : ∀ {ks : List String}, (∀ k ∈ ks, tyName k = true) → PySem.W.kitAny K (.type t) (ks.map Value.type) = some (ks.any (isT t))
  | [], _ => rfl
  | k :: ks, hk => by
    refine kitAny_cons (b := isT t k) (kit_of_ty h (hk k List.mem_cons_self)) (fun e => ?_) fun e => ?_
    · rw [kit_any h fun q hq => hk q (List.mem_cons_of_mem _ hq), List.any_cons, e]
      rfl
    · rw [List.any_cons, e]
      rfl
theorem Rb.ty {H : Hp} {Z : Addr → Prop} {d : D} {v : V} {t : String} (r : Rb X.K X.mg H Z d v) (h : tyD d = some t) : TyX X.K H v (.type t) := by
  cases r with
  | o e _ => cases h; exact .base (.lst e)
  | p r =>
    cases r with
    | non => cases h; exact .base .non
    | bl b => cases h; exact .base (.bl b)
    | int i => cases h; exact .base (.int i)
    | str x => cases h; exact .base (.str x)
    | tup s _ =>
      cases h
      rcases s with (s | ⟨o, s⟩) | ⟨o, its, n, e, hc, _⟩
      · exact .base (.tup s)
      · exact .fTuple s
      · exact .kTuple e hc
    | lst e _ _ => cases h; exact .base (.lst e)
    | scr e => cases h; exact e.elim (fun ⟨_, e⟩ => .base (.frz e)) fun ⟨_, _, _, e, c, _⟩ => .kList e c
    | dic e _ => cases h; exact .base (.dK e)
    | exc _ _ _ _ => cases h
end
end OL
/-! Slots stored; targets; what is walked. -/
namespace OL
open PySem PySem.Spec PyProof.Rows L2
section
variable {c : Cn} {H H' : Hp} {σ : Sg} {ρ : En}
theorem get_set_cases {α : Type} {l : List α} {i j : Nat} {x y : α} (h : (l.set i x)[j]? = some y) : (j = i ∧ y = x ∧ i < l.length) ∨ (j ≠ i ∧ l[j]? = some y) := by
  by_cases e : i = j
  · subst e
    by_cases hl : i < l.length
    · rw [List.getElem?_set_self hl] at h
      exact .inl ⟨rfl, (Option.some.inj h).symm, hl⟩
    · rw [List.getElem?_eq_none (by simpa using hl)] at h
      cases h
  · rw [List.getElem?_set_ne e] at h
    exact .inr ⟨fun z => e z.symm, h⟩
theorem own_set {i : Nat} {v : Option V} {d : D} {a : Addr} (h : own (σ.set i v) (ρ.set i (.v d)) a) : own σ ρ a := by
  obtain ⟨j, ds, e1, e2⟩ := h
  rcases get_set_cases e1 with ⟨_, q, _⟩ | ⟨ne, q⟩
  · cases q
  · rcases get_set_cases e2 with ⟨z, _, _⟩ | ⟨_, q2⟩
    · exact absurd z ne
    · exact ⟨j, ds, q, q2⟩
/-- data is stored -/
theorem ER.set (h : ER c H σ ρ) {i : Nat} {d : D} {v : V} (r : Rp c.K c.mg H (Zf c σ ρ) d v) (hi : i < ρ.length) : ER c H (σ.set i (some v)) (ρ.set i (.v d)) where
  len := by rw [List.length_set, List.length_set]; exact h.len
  sm := h.sm
  nw := h.nw
  dm := h.dm
  qg := h.qg
  lsq := fun j es q => by
    have wk : ∀ a o, H a = some o → Zf c σ ρ a → Zf c (σ.set i (some v)) (ρ.set i (.v d)) a := fun a o _ z => ⟨z.1, fun w => z.2 (own_set w)⟩
    rcases get_set_cases q with ⟨_, z, _⟩ | ⟨ne, q⟩
    · cases z
    · obtain ⟨z0, a, xs, e1, e2, e3, r1⟩ := h.lsq j es q
      exact ⟨z0, a, xs, by rw [List.getElem?_set_ne (Ne.symm ne)]; exact e1, e2, e3, r1.weak wk⟩
  val := fun j e q => by
    have wk : ∀ a o, H a = some o → Zf c σ ρ a → Zf c (σ.set i (some v)) (ρ.set i (.v d)) a := fun a o _ z => ⟨z.1, fun w => z.2 (own_set w)⟩
    rcases get_set_cases q with ⟨rfl, z, _⟩ | ⟨ne, q⟩
    · cases z
      exact ⟨v, List.getElem?_set_self (by rw [h.len]; exact hi), r.weak wk⟩
    · obtain ⟨w, e1, r1⟩ := h.val j e q
      exact ⟨w, by rw [List.getElem?_set_ne (Ne.symm ne)]; exact e1, r1.weak wk⟩
  lst := fun j es q => by
    have wk : ∀ a o, H a = some o → Zf c σ ρ a → Zf c (σ.set i (some v)) (ρ.set i (.v d)) a := fun a o _ z => ⟨z.1, fun w => z.2 (own_set w)⟩
    rcases get_set_cases q with ⟨_, z, _⟩ | ⟨ne, q⟩
    · cases z
    · obtain ⟨a, xs, e1, e2, e3, r1⟩ := h.lst j es q
      exact ⟨a, xs, by rw [List.getElem?_set_ne (Ne.symm ne)]; exact e1, e2, e3, r1.weak wk⟩
  uniq := fun j k a ds es q1 q2 e1 e2 => by
    rcases get_set_cases q1 with ⟨_, z, _⟩ | ⟨n1, q1⟩
    · cases z
    rcases get_set_cases q2 with ⟨_, z, _⟩ | ⟨n2, q2⟩
    · cases z
    rw [List.getElem?_set_ne (Ne.symm n1)] at e1
    rw [List.getElem?_set_ne (Ne.symm n2)] at e2
    exact h.uniq j k a ds es q1 q2 e1 e2
theorem own_setO {i : Nat} {p a : Addr} {ds : List D} (h : own (σ.set i (some (.ref p))) (ρ.set i (.o ds)) a) : a = p ∨ own σ ρ a := by
  obtain ⟨j, es, e1, e2⟩ := h
  rcases get_set_cases e1 with ⟨rfl, q, _⟩ | ⟨ne, q⟩
  · rcases get_set_cases e2 with ⟨_, z, _⟩ | ⟨n2, _⟩
    · cases z; exact .inl rfl
    · exact absurd rfl n2
  · rcases get_set_cases e2 with ⟨z, _, _⟩ | ⟨_, q2⟩
    · exact absurd z ne
    · exact .inr ⟨j, es, q, q2⟩
/-- other addresses where lists may stand -/
def Cn.w (c : Cn) (G : Addr → Prop) : Cn := ⟨c.K, c.mg, c.H0, ⟨G, c.Qa⟩⟩
/-- the list at p is kept out -/
def aw (c : Cn) (p : Addr) : Cn := c.w fun b => c.Gp b ∧ b ≠ p
structure GOk (c : Cn) (H H' : Hp) (G2 : Addr → Prop) : Prop where
  sub : ∀ a, G2 a → c.Gp a
  old : ∀ a o, H a = some o → c.Gp a → G2 a
  new : ∀ q, H' q = none → G2 q
theorem GOk.self (h : ER c H σ ρ) (d : ∀ q, H' q = none → H q = none) : GOk c H H' c.Gp := ⟨fun _ z => z, fun _ _ _ z => z, fun q e => h.nw q (d q e)⟩
theorem GOk.aw (h : ER c H σ ρ) (d : ∀ q, H' q = none → H q = none) {p : Addr} {o : HO} (hp : H p = none) (e : H' p = some o) : GOk c H H' (OL.aw c p).Gp :=
  ⟨fun _ z => z.1, fun _ _ e z => ⟨z, ne_of_none e hp⟩, fun q e2 => ⟨h.nw q (d q e2), fun z => by subst z; rw [e] at e2; cases e2⟩⟩
theorem ER.wG (h : ER c H σ ρ) (s : Same H H') {G2 : Addr → Prop} (g : GOk c H H' G2) : ER (c.w G2) H' σ ρ where
  len := h.len
  sm := fun a o e n => s _ _ (h.sm a o e n)
  nw := g.new
  dm := fun p hp => h.dm p (s.free hp)
  qg := fun a e => let ⟨g1, g2, xs, g3⟩ := h.qg a e; ⟨fun z => g1 (g.sub _ z), g2, xs, s _ _ g3⟩
  lsq := fun i ds e => let ⟨z, a, xs, e1, e2, e3, r⟩ := h.lsq i ds e; ⟨z, a, xs, e1, e2, s _ _ e3, r.mono (.of_same s) fun b o e z => ⟨g.old b o e z.1, z.2⟩⟩
  val := fun i d e => let ⟨v, e1, r⟩ := h.val i d e; ⟨v, e1, r.mono (.of_same s) fun b o e z => ⟨g.old b o e z.1, z.2⟩⟩
  lst := fun i ds e => let ⟨a, xs, e1, e2, e3, r⟩ := h.lst i ds e; ⟨a, xs, e1, s _ _ e2, ⟨e3.1, g.old a _ e2 e3.2⟩, r.mono (.of_same s) fun b o e z => ⟨g.old b o e z.1, z.2⟩⟩
  uniq := h.uniq
/-- a list that is kept out is stored as one's own -/
theorem ER.setO2 {i : Nat} {ds : List D} {p : Addr} {xs : List V} (h : ER (aw c p) H σ ρ) (hg : ∀ q, H q = none → c.Gp q) (gp : c.Gp p) (h0 : c.H0 p = none) (e : H p = some (.lst xs)) (r : RpA c.K c.mg H (fun b => Zf c σ ρ b ∧ b ≠ p) ds xs) (hi : i < ρ.length) :
    ER c H (σ.set i (some (.ref p))) (ρ.set i (.o ds)) := by
  have wk : ∀ a, (Zf c σ ρ a ∧ a ≠ p) → Zf c (σ.set i (some (.ref p))) (ρ.set i (.o ds)) a := fun a z => ⟨z.1.1, fun w => by
    rcases own_setO w with q | q
    · exact z.2 q
    · exact z.1.2 q⟩
  have wk1 : ∀ a o, H a = some o → Zf (aw c p) σ ρ a → Zf c (σ.set i (some (.ref p))) (ρ.set i (.o ds)) a := fun a o e z => wk a ⟨⟨z.1.1, z.2⟩, z.1.2⟩
  refine ⟨by rw [List.length_set, List.length_set]; exact h.len, h.sm, hg, h.dm, fun a e1 => ?_, fun j es q => ?_, fun j e q => ?_, fun j es q => ?_, fun j k a ds' es q1 q2 e1 e2 => ?_⟩
  · obtain ⟨g1, ⟨o, g2⟩, g3⟩ := h.qg a e1
    refine ⟨fun g => g1 ⟨g, fun z => ?_⟩, ⟨o, g2⟩, g3⟩
    subst z
    have g2' : c.H0 a = some o := g2
    rw [h0] at g2'; cases g2'
  · rcases get_set_cases q with ⟨_, z, _⟩ | ⟨ne, q⟩
    · cases z
    · obtain ⟨z0, a, xs, e1, e2, e3, r1⟩ := h.lsq j es q
      exact ⟨z0, a, xs, by rw [List.getElem?_set_ne (Ne.symm ne)]; exact e1, e2, e3, r1.weak wk1⟩
  · rcases get_set_cases q with ⟨rfl, z, _⟩ | ⟨ne, q⟩
    · cases z
    · obtain ⟨w, e1, r1⟩ := h.val j e q
      exact ⟨w, by rw [List.getElem?_set_ne (Ne.symm ne)]; exact e1, r1.weak wk1⟩
  · rcases get_set_cases q with ⟨rfl, z, _⟩ | ⟨ne, q⟩
    · cases z
      exact ⟨p, xs, List.getElem?_set_self (by rw [h.len]; exact hi), e, ⟨h0, gp⟩, r.weak fun a o _ z => wk a z⟩
    · obtain ⟨a, ys, e1, e2, e3, r1⟩ := h.lst j es q
      exact ⟨a, ys, by rw [List.getElem?_set_ne (Ne.symm ne)]; exact e1, e2, ⟨e3.1, e3.2.1⟩, r1.weak wk1⟩
  · have nop : ∀ {j : Nat} {es : List D}, ρ[j]? = some (.o es) → σ[j]? = some (some (V.ref p)) → False := fun {j es} q z => by
      obtain ⟨a, ys, e1, e2, e3, _⟩ := h.lst j es q
      rw [z] at e1; cases e1
      exact e3.2.2 rfl
    rcases get_set_cases q1 with ⟨rfl, z, _⟩ | ⟨n1, q1⟩
    · rcases get_set_cases e1 with ⟨_, z1, _⟩ | ⟨n, _⟩
      · cases z1
        rcases get_set_cases q2 with ⟨rfl, _, _⟩ | ⟨n2, q2⟩
        · rfl
        · rw [List.getElem?_set_ne (Ne.symm n2)] at e2
          exact (nop q2 e2).elim
      · exact absurd rfl n
    · rw [List.getElem?_set_ne (Ne.symm n1)] at e1
      rcases get_set_cases q2 with ⟨rfl, _, _⟩ | ⟨n2, q2⟩
      · rcases get_set_cases e2 with ⟨_, z1, _⟩ | ⟨n, _⟩
        · cases z1
          rcases get_set_cases q1 with ⟨z3, _, _⟩ | ⟨_, q3⟩
          · exact z3
          · exact (nop q3 e1).elim
        · exact absurd rfl n
      · rw [List.getElem?_set_ne (Ne.symm n2)] at e2
        exact h.uniq j k a ds' es q1 q2 e1 e2
/-- a new list is stored as one's own -/
theorem ER.setO (h : ER c H σ ρ) (s : Same H H') {i : Nat} {ds : List D} {p : Addr} {xs : List V} (hp : H p = none) (e : H' p = some (.lst xs)) (r : RpA c.K c.mg H' (fun b => Zf c σ ρ b ∧ b ≠ p) ds xs) (hi : i < ρ.length) :
    ER c H' (σ.set i (some (.ref p))) (ρ.set i (.o ds)) :=
  (h.wG s (.aw h (fun q e => s.free e) hp e)).setO2 (fun q e => h.nw q (s.free e)) (h.nw p hp) (h.dm p hp) e r hi
/-- the same sort of slot with other items -/
def kpS : Sl → List D → Sl
  | .q _, es => .q es
  | _, es => .o es
theorem own_kp {i : Nat} {s : Sl} {ds es : List D} (q : ρ[i]? = some s) (hs : s = .o ds ∨ s = .q ds) (a : Addr) : own σ (ρ.set i (kpS s es)) a ↔ own σ ρ a := by
  have hi : i < ρ.length := (List.getElem?_eq_some_iff.mp q).1
  constructor
  · rintro ⟨j, fs, e1, e2⟩
    rcases get_set_cases e1 with ⟨rfl, z, _⟩ | ⟨_, q1⟩
    · rcases hs with rfl | rfl
      · exact ⟨j, ds, q, e2⟩
      · cases z
    · exact ⟨j, fs, q1, e2⟩
  · rintro ⟨j, fs, e1, e2⟩
    by_cases ej : j = i
    · subst ej
      rw [q] at e1; cases e1
      rcases hs with z | z
      · cases z; exact ⟨j, es, List.getElem?_set_self hi, e2⟩
      · cases z
    · exact ⟨j, fs, by rw [List.getElem?_set_ne (Ne.symm ej)]; exact e1, e2⟩
/-- a list of one's own, or the caller's: where it stands -/
theorem ER.atS (h : ER c H σ ρ) {i : Nat} {s : Sl} {ds : List D} (q : ρ[i]? = some s) (hs : s = .o ds ∨ s = .q ds) : ∃ a xs, σ[i]? = some (some (V.ref a)) ∧ H a = some (.lst xs) ∧ (own σ ρ a ∨ c.Qa = some a) ∧ RpA c.K c.mg H (Zf c σ ρ) ds xs := by
  rcases hs with rfl | rfl
  · obtain ⟨a, xs, e1, e2, _, r⟩ := h.lst i ds q
    exact ⟨a, xs, e1, e2, .inl ⟨i, ds, q, e1⟩, r⟩
  · obtain ⟨_, a, xs, e1, e2, e3, r⟩ := h.lsq i ds q
    exact ⟨a, xs, e1, e3, .inr e2, r⟩
/-- what stands but one's own lists and the caller's stays -/
theorem ER.stay (h : ER c H σ ρ) (st : ∀ a o, H a = some o → ¬ own σ ρ a → c.Qa ≠ some a → H' a = some o) : Stay H (Zf c σ ρ) H' := fun a o e z => by
  by_cases ow : own σ ρ a
  · obtain ⟨j, es, f1, f2⟩ := ow
    obtain ⟨a', xs, g1, g2, _⟩ := h.lst j es f1
    rw [f2] at g1; cases g1
    rw [e] at g2; cases g2
    exact absurd ⟨j, es, f1, f2⟩ (z rfl).2
  · by_cases qa : c.Qa = some a
    · obtain ⟨g1, _, xs, g3⟩ := h.qg a qa
      rw [e] at g3; cases g3
      exact absurd (z rfl).1 g1
    · exact st a o e ow qa
/-- a list of one's own, or the caller's, is changed -/
theorem ER.updG (h : ER c H σ ρ) {G2 : Addr → Prop} (g : GOk c H H' G2) {i : Nat} {s : Sl} {ds es : List D} {p : Addr} {ys : List V} (q : ρ[i]? = some s) (hs : s = .o ds ∨ s = .q ds) (e : σ[i]? = some (some (V.ref p)))
    (st : ∀ b o, H b = some o → b ≠ p → H' b = some o) (e' : H' p = some (.lst ys)) (r : RpA c.K c.mg H' (Zf (c.w G2) σ ρ) es ys) : ER (c.w G2) H' σ (ρ.set i (kpS s es)) := by
  have hi : i < ρ.length := (List.getElem?_eq_some_iff.mp q).1
  obtain ⟨p', xs, f1, f2, f3, _⟩ := h.atS q hs
  rw [e] at f1; cases f1
  have eqo := fun a => (own_kp (σ := σ) (es := es) q hs a).mp
  have st0 : Stay H (Zf c σ ρ) H' := h.stay fun a o e1 n1 n2 => st a o e1 fun z => by
    subst z
    rcases f3 with z | z
    · exact n1 z
    · exact n2 z
  have wk : ∀ a o, H a = some o → Zf c σ ρ a → Zf (c.w G2) σ (ρ.set i (kpS s es)) a := fun a o e z => ⟨g.old a o e z.1, fun w => z.2 (eqo a w)⟩
  have wk2 : ∀ a, Zf (c.w G2) σ ρ a → Zf (c.w G2) σ (ρ.set i (kpS s es)) a := fun a z => ⟨z.1, fun w => z.2 (eqo a w)⟩
  have dom : ∀ b, H' b = none → H b = none := fun b hb => by
    cases e1 : H b with
    | none => rfl
    | some o =>
      by_cases z : b = p
      · subst z; rw [e'] at hb; cases hb
      · rw [st b o e1 z] at hb; cases hb
  refine ⟨by rw [List.length_set]; exact h.len, fun b o e1 n1 => ?_, g.new, fun b hb => h.dm b (dom b hb), fun a e1 => ?_, fun j fs q1 => ?_, fun j d q1 => ?_, fun j fs q1 => ?_, fun j k a fs gs q1 q2 e1 e2 => ?_⟩
  · refine st b o (h.sm b o e1 n1) fun z => ?_
    subst z
    rcases f3 with ⟨j, fs, g1, g2⟩ | z
    · obtain ⟨a, zs, k1, _, k3, _⟩ := h.lst j fs g1
      rw [g2] at k1; cases k1
      have e1' : c.H0 b = some o := e1
      rw [k3.1] at e1'; cases e1'
    · exact n1 z
  · obtain ⟨g1, g2, xs', g3⟩ := h.qg a e1
    refine ⟨fun z => g1 (g.sub a z), g2, ?_⟩
    by_cases z : a = p
    · subst z; exact ⟨ys, e'⟩
    · exact ⟨xs', st _ _ g3 z⟩
  · rcases get_set_cases q1 with ⟨rfl, z, _⟩ | ⟨ne, q1⟩
    · rcases hs with rfl | rfl
      · cases z
      · cases z
        obtain ⟨z0, a, zs, k1, k2, _, _⟩ := h.lsq j ds q
        rw [e] at k1; cases k1
        exact ⟨z0, p, ys, e, k2, e', r.weak fun a _ _ z => wk2 a z⟩
    · obtain ⟨z0, a, zs, k1, k2, k3, r1⟩ := h.lsq j fs q1
      refine ⟨z0, a, zs, k1, k2, st _ _ k3 fun z => ?_, r1.mono st0 wk⟩
      subst z
      rcases hs with rfl | rfl
      · obtain ⟨a', zs', m1, _, m3, _⟩ := h.lst i ds q
        rw [e] at m1; cases m1
        obtain ⟨_, ⟨o, n2⟩, _⟩ := h.qg _ k2
        rw [m3.1] at n2; cases n2
      · obtain ⟨z1, _⟩ := h.lsq i ds q
        exact ne (z0.trans z1.symm)
  · rcases get_set_cases q1 with ⟨_, z, _⟩ | ⟨_, q1⟩
    · rcases hs with rfl | rfl <;> cases z
    · obtain ⟨w, e1, r1⟩ := h.val j d q1
      exact ⟨w, e1, r1.mono st0 wk⟩
  · rcases get_set_cases q1 with ⟨rfl, z, _⟩ | ⟨ne, q9⟩
    · rcases hs with rfl | rfl
      · cases z
        obtain ⟨a, zs, k1, k2, k3, _⟩ := h.lst j ds q
        rw [e] at k1; cases k1
        exact ⟨p, ys, e, e', ⟨k3.1, g.old _ _ k2 k3.2⟩, r.weak fun a _ _ z => wk2 a z⟩
      · cases z
    · obtain ⟨a, us, e1, e2, e3, r1⟩ := h.lst j fs q9
      have hne : a ≠ p := fun z => by
        subst z
        rcases hs with rfl | rfl
        · exact ne (h.uniq j i a fs ds q9 q e1 e)
        · obtain ⟨_, a', zs', m1, m2, _, _⟩ := h.lsq i ds q
          rw [e] at m1; cases m1
          obtain ⟨_, ⟨o, n2⟩, _⟩ := h.qg _ m2
          rw [e3.1] at n2; cases n2
      exact ⟨a, us, e1, st _ _ e2 hne, ⟨e3.1, g.old _ _ e2 e3.2⟩, r1.mono st0 wk⟩
  · have : ∀ {j : Nat} {fs : List D}, (ρ.set i (kpS s es))[j]? = some (.o fs) → ∃ fs', ρ[j]? = some (Sl.o fs') := fun {j fs} z => by
      rcases get_set_cases z with ⟨rfl, z2, _⟩ | ⟨_, z⟩
      · rcases hs with rfl | rfl
        · exact ⟨ds, q⟩
        · cases z2
      · exact ⟨fs, z⟩
    obtain ⟨f1, q1'⟩ := this q1
    obtain ⟨f2, q2'⟩ := this q2
    exact h.uniq j k a f1 f2 q1' q2' e1 e2
/-- one's own list is changed -/
theorem ER.upd (h : ER c H σ ρ) {i : Nat} {ds es : List D} {p : Addr} {xs ys : List V} (q : ρ[i]? = some (.o ds)) (e : σ[i]? = some (some (V.ref p))) (hx : H p = some (.lst xs)) (r : RpA c.K c.mg H (Zf c σ ρ) es ys) :
    ER c (L2.upd H p (.lst ys)) σ (ρ.set i (.o es)) := by
  have ow : own σ ρ p := ⟨i, ds, q, e⟩
  have st : ∀ b o, H b = some o → b ≠ p → L2.upd H p (.lst ys) b = some o := fun b o e1 n => by rw [upd_ne n]; exact e1
  have st0 : Stay H (Zf c σ ρ) (L2.upd H p (.lst ys)) := h.stay fun a o e1 n1 _ => st a o e1 fun z => by subst z; exact n1 ow
  exact h.updG (G2 := c.Gp) (s := .o ds) (.self h fun b hb => by
    by_cases z : b = p
    · subst z; rw [upd_same] at hb; cases hb
    · rw [upd_ne z] at hb; exact hb) q (.inl rfl) e st upd_same (r.mono st0 fun _ _ _ z => z)
/-- one's own list stands still from here on -/
theorem ER.frz (h : ER c H σ ρ) {i : Nat} {ds : List D} (q : ρ[i]? = some (.o ds)) : ER c H σ (ρ.set i (.v (.lst ds))) := by
  have hi : i < ρ.length := (List.getElem?_eq_some_iff.mp q).1
  obtain ⟨p, xs, e1, e2, e3, r⟩ := h.lst i ds q
  have eqo : ∀ a, own σ (ρ.set i (.v (.lst ds))) a → own σ ρ a ∧ a ≠ p := fun a ⟨j, fs, q1, q2⟩ => by
    rcases get_set_cases q1 with ⟨_, z, _⟩ | ⟨ne, q1⟩
    · cases z
    · exact ⟨⟨j, fs, q1, q2⟩, fun z => by subst z; exact ne (h.uniq j i a fs ds q1 q q2 e1)⟩
  have wk : ∀ a o, H a = some o → Zf c σ ρ a → Zf c σ (ρ.set i (.v (.lst ds))) a := fun a o _ z => ⟨z.1, fun w => z.2 (eqo a w).1⟩
  refine ⟨by rw [List.length_set]; exact h.len, h.sm, h.nw, h.dm, h.qg, fun j fs q1 => ?_, fun j d q1 => ?_, fun j fs q1 => ?_, fun j k a fs gs q1 q2 f1 f2 => ?_⟩
  · rcases get_set_cases q1 with ⟨_, z, _⟩ | ⟨_, q1⟩
    · cases z
    · obtain ⟨z0, a, us, f1, f2, f3, r1⟩ := h.lsq j fs q1
      exact ⟨z0, a, us, f1, f2, f3, r1.weak wk⟩
  · rcases get_set_cases q1 with ⟨rfl, z, _⟩ | ⟨_, q1⟩
    · cases z
      exact ⟨_, e1,   .lst e2 ⟨e3.2, fun w => (eqo p w).2 rfl⟩ (r.weak wk)⟩
    · obtain ⟨w, f1, r1⟩ := h.val j d q1
      exact ⟨w, f1, r1.weak wk⟩
  · rcases get_set_cases q1 with ⟨_, z, _⟩ | ⟨_, q1⟩
    · cases z
    · obtain ⟨a, us, f1, f2, f3, r1⟩ := h.lst j fs q1
      exact ⟨a, us, f1, f2, f3, r1.weak wk⟩
  · rcases get_set_cases q1 with ⟨_, z, _⟩ | ⟨_, q1⟩
    · cases z
    rcases get_set_cases q2 with ⟨_, z, _⟩ | ⟨_, q2⟩
    · cases z
    exact h.uniq j k a fs gs q1 q2 f1 f2
theorem notOwn_of {i : Nat} (h : notOwn ρ i = true) (ds : List D) : ρ[i]? ≠ some (.o ds) := fun e => by
  unfold notOwn at h
  rw [e] at h
  cases h
/-- slots without one's own lists are forgotten -/
theorem wipe_at {vs : List Nat} {i : Nat} {s : Sl} : ∀ {ρ : En}, (wipeN ρ vs)[i]? = some s → (i ∈ vs ∧ s = .n) ∨ (i ∉ vs ∧ ρ[i]? = some s) := by
  induction vs with
  | nil => intro ρ h; exact .inr ⟨by simp, h⟩
  | cons v vs ih =>
    intro ρ h
    unfold wipeN at h
    rcases get_set_cases h with ⟨rfl, q, _⟩ | ⟨ne, q⟩
    · exact .inl ⟨by simp, q⟩
    · rcases ih q with ⟨m, e⟩ | ⟨m, e⟩
      · exact .inl ⟨List.mem_cons_of_mem _ m, e⟩
      · exact .inr ⟨by simp [ne, m], e⟩
theorem wipe_out {vs : List Nat} {i : Nat} : ∀ {σ : Sg}, i ∉ vs → (wipe σ vs)[i]? = σ[i]? := by
  induction vs with
  | nil => intro σ _; rfl
  | cons v vs ih =>
    intro σ h
    unfold wipe
    rw [List.getElem?_set_ne (by intro z; exact h (by simp [z]))]
    exact ih fun z => h (List.mem_cons_of_mem _ z)
theorem wipeN_length : ∀ (vs : List Nat) (ρ : En), (wipeN ρ vs).length = ρ.length
  | [], _ => rfl
  | v :: vs, ρ => by unfold wipeN; rw [List.length_set, wipeN_length vs ρ]
theorem wipeN_out {vs : List Nat} {i : Nat} : ∀ {ρ : En}, i ∉ vs → (wipeN ρ vs)[i]? = ρ[i]? := by
  induction vs with
  | nil => intro ρ _; rfl
  | cons v vs ih =>
    intro ρ h
    unfold wipeN
    rw [List.getElem?_set_ne (by intro z; exact h (by simp [z]))]
    exact ih fun z => h (List.mem_cons_of_mem _ z)
theorem own_wipe {vs : List Nat} (hn : vs.all (notOwn ρ) = true) (a : Addr) : own (wipe σ vs) (wipeN ρ vs) a ↔ own σ ρ a := by
  constructor
  · rintro ⟨j, ds, e1, e2⟩
    rcases wipe_at e1 with ⟨_, z⟩ | ⟨m, z⟩
    · cases z
    · rw [wipe_out m] at e2
      exact ⟨j, ds, z, e2⟩
  · rintro ⟨j, ds, e1, e2⟩
    have m : j ∉ vs := fun m => notOwn_of (List.all_eq_true.mp hn j m) ds e1
    refine ⟨j, ds, ?_, by rw [wipe_out m]; exact e2⟩
    rw [wipeN_out m]
    exact e1
theorem ER.wipe (h : ER c H σ ρ) {vs : List Nat} (hn : vs.all (notOwn ρ) = true) : ER c H (L2.wipe σ vs) (wipeN ρ vs) := by
  have wk : ∀ a o, H a = some o → Zf c σ ρ a → Zf c (L2.wipe σ vs) (wipeN ρ vs) a := fun a o _ z => ⟨z.1, fun w => z.2 ((own_wipe hn a).mp w)⟩
  refine ⟨by rw [wipe_length, wipeN_length]; exact h.len, h.sm, h.nw, h.dm, h.qg, fun j ds q => ?_, fun j d q => ?_, fun j ds q => ?_, fun j k a ds es q1 q2 e1 e2 => ?_⟩
  · rcases wipe_at q with ⟨_, z⟩ | ⟨m, z⟩
    · cases z
    · obtain ⟨z0, a, xs, e1, e2, e3, r⟩ := h.lsq j ds z
      exact ⟨z0, a, xs, by rw [wipe_out m]; exact e1, e2, e3, r.weak wk⟩
  · rcases wipe_at q with ⟨_, z⟩ | ⟨m, z⟩
    · cases z
    · obtain ⟨w, e1, r⟩ := h.val j d z
      exact ⟨w, by rw [wipe_out m]; exact e1, r.weak wk⟩
  · rcases wipe_at q with ⟨_, z⟩ | ⟨m, z⟩
    · cases z
    · obtain ⟨a, xs, e1, e2, e3, r⟩ := h.lst j ds z
      exact ⟨a, xs, by rw [wipe_out m]; exact e1, e2, e3, r.weak wk⟩
  · rcases wipe_at q1 with ⟨_, z⟩ | ⟨m1, z1⟩
    · cases z
    rcases wipe_at q2 with ⟨_, z⟩ | ⟨m2, z2⟩
    · cases z
    rw [wipe_out m1] at e1
    rw [wipe_out m2] at e2
    exact h.uniq j k a ds es z1 z2 e1 e2
end
/-! ### targets -/
theorem pg_or {X : Cx} {e : Expr} {t t' : TG} (h : PG X e t) (h' : PG X e t') : PG X e (fun v σ H Q => t v σ H Q ∨ t' v σ H Q) := ⟨fun pins s σ H v u Q I r q => q.elim (h.run pins s σ H v u Q I r) (h'.run pins s σ H v u Q I r)⟩
mutual
def gOf (K : PySem.W.Frag) : Tg → TG
  | .nm i => gName i
  | .tp ts => fun v σ H Q => gTup K ts.length (gOfs K ts) v σ H Q ∨ gLst K ts.length (gOfs K ts) v σ H Q
def gOfs (K : PySem.W.Frag) : List Tg → TGs
  | [] => gNil
  | t :: ts => gCons (gOf K t) (gOfs K ts)
end
theorem ckGs_length {N : List Str} {cel : Bool} {sc : Scope} : ∀ {ts : List Tg} {es : List Expr}, ckGs N cel sc ts es = true → ∀ env : Env, (assignEach es env).length = ts.length
  | [], [], _, _ => rfl
  | [], _ :: _, h, _ => by unfold ckGs at h; cases h
  | _ :: _, [], h, _ => by unfold ckGs at h; cases h
  | t :: ts, e :: es, h, env => by
    unfold ckGs at h
    simp only [Bool.and_eq_true] at h
    have q := ckGs_length h.2 env
    cases e <;> first | (exact congrArg (· + 1) q) | (have z := h.1.2; cases z)
theorem ckGs_star {N : List Str} {cel : Bool} {sc : Scope} : ∀ {ts : List Tg} {es : List Expr}, ckGs N cel sc ts es = true → ∀ env : Env, (assignEach es env).findIdx? (·.1) = none
  | [], [], _, _ => rfl
  | [], _ :: _, h, _ => by unfold ckGs at h; cases h
  | _ :: _, [], h, _ => by unfold ckGs at h; cases h
  | t :: ts, e :: es, h, env => by
    unfold ckGs at h
    simp only [Bool.and_eq_true] at h
    have q := ckGs_star h.2 env
    rw [List.findIdx?_eq_none_iff] at q ⊢
    intro x hx
    have e1 : assignEach (e :: es) env = (false, assign e env) :: assignEach es env := by
      cases e <;> first | rfl | (have z := h.1.2; cases z)
    rw [e1] at hx
    rcases List.mem_cons.mp hx with z | z
    · rw [z]
    · exact q x z
section
variable {X : Cx}
mutual
theorem pg_of (hN : X.N.Nodup) (hc : X.calm = true) {cel : Bool} (hf : cel = true → ∀ x, X.fn x = true) : ∀ {t : Tg} {e : Expr}, ckG X.N cel X.env.scope t e = true → PG X e (gOf X.K t)
  | .nm i, e, h => by
    cases e <;> (try (unfold ckG at h; cases h; done))
    rename_i x p
    unfold ckG at h
    rw [Bool.and_eq_true] at h
    have h2 := h.2
    unfold gOf
    split at h2
    · rename_i q
      exact pg_name hN (of_decide_eq_true h.1) (.inl q) (.inr q)
    · rename_i q
      exact pg_name hN (of_decide_eq_true h.1) (.inr q) (.inl (hf h2 _))
    · cases h2
  | .tp ts, e, h => by
    cases e <;> (try (unfold ckG at h; cases h; done))
    rename_i es k p
    unfold ckG at h
    unfold gOf
    exact pg_or (pg_tup hc (pgs_of hN hc hf h) (ckGs_length h _) (ckGs_star h _)) (pg_lst hc (pgs_of hN hc hf h) (ckGs_length h _) (ckGs_star h _))
theorem pgs_of (hN : X.N.Nodup) (hc : X.calm = true) {cel : Bool} (hf : cel = true → ∀ x, X.fn x = true) : ∀ {ts : List Tg} {es : List Expr}, ckGs X.N cel X.env.scope ts es = true → PGs X es (gOfs X.K ts)
  | [], [], _ => by unfold gOfs; exact pgs_nil
  | [], _ :: _, h => by unfold ckGs at h; cases h
  | _ :: _, [], h => by unfold ckGs at h; cases h
  | t :: ts, e :: es, h => by
    unfold ckGs at h
    simp only [Bool.and_eq_true] at h
    unfold gOfs
    refine pgs_cons (pg_of hN hc hf h.1.1) (pgs_of hN hc hf h.2) ?_
    cases e <;> first | rfl | (have z := h.1.2; cases z)
end
end
/-! what a target's store does -/
section
variable {c : Cn} {H : Hp}
mutual
theorem gOf_ok : ∀ {t : Tg} {d : D} {v : V} {σ : Sg} {ρ ρ' : En} {Q : Sg → Hp → Prop}, ER c H σ ρ → Rp c.K c.mg H (Zf c σ ρ) d v → setT t d ρ = .ok ρ' →
    (∀ σ', ER c H σ' ρ' → (∀ a, own σ' ρ' a → own σ ρ a) → (∀ i, i ∉ slotsT t → σ'[i]? = σ[i]? ∧ ρ'[i]? = ρ[i]?) → σ'.length = σ.length → Q σ' H) → gOf c.K t v σ H Q
  | .nm i, d, v, σ, ρ, ρ', Q, h, r, e, k => by
    unfold setT at e
    unfold gOf
    split at e
    · rename_i s hs
      cases e
      exact k _ (h.set r (List.getElem?_eq_some_iff.mp hs).1) (fun a w => own_set w) (fun j hj => by
        unfold slotsT at hj
        have ne : i ≠ j := fun z => hj (by simp [z])
        exact ⟨List.getElem?_set_ne ne, List.getElem?_set_ne ne⟩) (List.length_set ..)
    · cases e
  | .tp ts, d, v, σ, ρ, ρ', Q, h, r, e, k => by
    cases d <;> (try (unfold setT at e; cases e; done))
    · rename_i ds
      unfold setT at e
      unfold gOf
      cases r with
      | tup s ra =>
        rename_i a xs
        have hl : ds.length = ts.length := setTs_length e
        refine .inl ⟨a, xs, rfl, s, by rw [← ra.length]; exact hl, gOfs_ok h ra e fun σ' h' ho hs hl' => k σ' h' ho (fun i hi => hs i (by unfold slotsT at hi; exact hi)) hl'⟩
    · rename_i ds
      unfold setT at e
      unfold gOf
      cases r with
      | lst s z ra =>
        rename_i a xs
        have hl : ds.length = ts.length := setTs_length e
        refine .inr ⟨a, xs, rfl, SqL.of s, by rw [← ra.length]; exact hl, gOfs_ok h ra e fun σ' h' ho hs hl' => k σ' h' ho (fun i hi => hs i (by unfold slotsT at hi; exact hi)) hl'⟩
theorem gOfs_ok : ∀ {ts : List Tg} {ds : List D} {vs : List V} {σ : Sg} {ρ ρ' : En} {Q : Sg → Hp → Prop}, ER c H σ ρ → RpA c.K c.mg H (Zf c σ ρ) ds vs → setTs ts ds ρ = .ok ρ' →
    (∀ σ', ER c H σ' ρ' → (∀ a, own σ' ρ' a → own σ ρ a) → (∀ i, i ∉ slotsTs ts → σ'[i]? = σ[i]? ∧ ρ'[i]? = ρ[i]?) → σ'.length = σ.length → Q σ' H) → gOfs c.K ts vs σ H Q
  | [], ds, vs, σ, ρ, ρ', Q, h, r, e, k => by
    cases ds <;> (try (unfold setTs at e; cases e; done))
    unfold setTs at e
    cases e
    cases r
    unfold gOfs
    exact ⟨rfl, k σ h (fun _ z => z) (fun _ _ => ⟨rfl, rfl⟩) rfl⟩
  | t :: ts, ds, vs, σ, ρ, ρ', Q, h, r, e, k => by
    cases ds with
    | nil => unfold setTs at e; cases e
    | cons d ds =>
      unfold setTs at e
      cases r with
      | cons r1 r2 =>
        cases e1 : setT t d ρ with
        | ok ρ1 =>
          rw [e1] at e
          unfold gOfs
          refine ⟨_, _, rfl, gOf_ok h r1 e1 fun σ1 h1 o1 s1 l1 => gOfs_ok h1 (r2.weak fun a o _ z => ⟨z.1, fun w => z.2 (o1 a w)⟩) e fun σ2 h2 o2 s2 l2 => k σ2 h2 (fun a w => o1 a (o2 a w)) (fun i hi => ?_) (l2.trans l1)⟩
          unfold slotsTs at hi
          rw [List.mem_append, not_or] at hi
          exact ⟨(s2 i hi.2).1.trans (s1 i hi.1).1, (s2 i hi.2).2.trans (s1 i hi.1).2⟩
        | exc _ => rw [e1] at e; cases e
        | bad => rw [e1] at e; cases e
theorem setTs_length : ∀ {ts : List Tg} {ds : List D} {ρ ρ' : En}, setTs ts ds ρ = .ok ρ' → ds.length = ts.length
  | [], ds, ρ, ρ', e => by
    cases ds <;> (try (unfold setTs at e; cases e; done))
    rfl
  | t :: ts, ds, ρ, ρ', e => by
    cases ds with
    | nil => unfold setTs at e; cases e
    | cons d ds =>
      unfold setTs at e
      cases e1 : setT t d ρ with
      | ok ρ1 =>
        rw [e1] at e
        rw [List.length_cons, List.length_cons, setTs_length e]
      | exc _ => rw [e1] at e; cases e
      | bad => rw [e1] at e; cases e
end
end
end OL
/-! What is walked; calls of defs. -/
namespace OL
open PySem PySem.Spec PyProof.Rows L2
/-- J yields the items ds, one behind another, as long as what stood in H (outside of one's own) stands -/
structure Wk (K : PySem.W.Frag) (mg : Str → Option Value) (H : Hp) (Z : Addr → Prop) (J : It) (ds : List D) : Prop where
  go : ∀ H1 i, Stay H Z H1 → i < ds.length → J.go i H1
  yld : ∀ H1 i x H2, Stay H Z H1 → J.yld i H1 x H2 → ∀ d, ds[i]? = some d → Same H1 H2 ∧ Rp K mg H2 (fun a => (Z a ∧ ∃ o, H a = some o) ∨ H1 a = none) d x
  stop : ∀ H1 i, Stay H Z H1 → ds.length ≤ i → J.stop i H1
section
variable {K : PySem.W.Frag} {mg : Str → Option Value} {H : Hp} {Z : Addr → Prop}
theorem Rp.stay {H1 : Hp} {d : D} {v : V} (h : Stay H Z H1) (r : Rp K mg H Z d v) : Rp K mg H1 (fun a => (Z a ∧ ∃ o, H a = some o) ∨ H1 a = none) d v := r.mono h fun a o e z => .inl ⟨z, o, e⟩
theorem wk_seq {a : Addr} {xs : List V} {ds : List D} (hl : ∀ H1, Stay H Z H1 → SqL K H1 a xs) (r : RpA K mg H Z ds xs) : Wk K mg H Z (Itl K a) ds where
  go := fun H1 i s hi => ⟨xs, _, hl H1 s, List.getElem?_eq_getElem (by rw [← r.length]; exact hi)⟩
  yld := fun H1 i x H2 s y d hd => by
    obtain ⟨rfl, y⟩ := y
    obtain ⟨v, hv, rv⟩ := r.get hd
    have e := (y xs (hl _ s)).symm.trans hv
    cases e
    exact ⟨Same.refl _, rv.stay s⟩
  stop := fun H1 i s hi => ⟨xs, hl H1 s, by rw [← r.length]; exact hi⟩
theorem wk_tup {a : Addr} {xs : List V} {ds : List D} (hl : SqT K H a xs) (r : RpA K mg H Z ds xs) : Wk K mg H Z (Itt K a) ds where
  go := fun H1 i s hi => ⟨xs, _, s.sqT hl, List.getElem?_eq_getElem (by rw [← r.length]; exact hi)⟩
  yld := fun H1 i x H2 s y d hd => by
    obtain ⟨rfl, y⟩ := y
    obtain ⟨v, hv, rv⟩ := r.get hd
    have e := (y xs (s.sqT hl)).symm.trans hv
    cases e
    exact ⟨Same.refl _, rv.stay s⟩
  stop := fun H1 i s hi => ⟨xs, s.sqT hl, by rw [← r.length]; exact hi⟩
theorem wk_str (z : Str) : Wk K mg H Z (Its z) (z.cps.toList.map fun q => .str ⟨#[q]⟩) where
  go := fun H1 i s hi => by rw [List.length_map, Array.length_toList] at hi; exact hi
  yld := fun H1 i x H2 s y d hd => by
    obtain ⟨rfl, q, hq, rfl⟩ := y
    rw [List.getElem?_map, Array.getElem?_toList, hq] at hd
    cases hd
    exact ⟨Same.refl _, .str _⟩
  stop := fun H1 i s hi => by rw [List.length_map, Array.length_toList] at hi; exact hi
theorem wk_rng (lo : Int) (n : Nat) : Wk K mg H Z (Itr lo n) ((List.range n).map fun (k : Nat) => .int (lo + k)) where
  go := fun H1 i s hi => by rw [List.length_map, List.length_range] at hi; exact hi
  yld := fun H1 i x H2 s y d hd => by
    obtain ⟨rfl, rfl⟩ := y
    rw [List.getElem?_map] at hd
    cases q : (List.range n)[i]? with
    | none => rw [q] at hd; cases hd
    | some j =>
      rw [q] at hd
      cases hd
      have hj : j = i := by
        obtain ⟨h1, h2⟩ := List.getElem?_eq_some_iff.mp q
        rw [List.getElem_range] at h2
        exact h2.symm
      subst hj
      exact ⟨Same.refl _, .int _⟩
  stop := fun H1 i s hi => by rw [List.length_map, List.length_range] at hi; exact hi
theorem wk_rev {a : Addr} {xs : List V} {ds : List D} (hl : ∀ H1, Stay H Z H1 → SqL K H1 a xs) (r : RpA K mg H Z ds xs) : Wk K mg H Z (Itv K a xs.length) ds.reverse where
  go := fun H1 i s hi => by
    rw [List.length_reverse, r.length] at hi
    exact ⟨hi, xs, _, hl H1 s, List.getElem?_eq_getElem (by omega)⟩
  yld := fun H1 i x H2 s y d hd => by
    obtain ⟨rfl, y⟩ := y
    have hi : i < ds.length := by
      have := (List.getElem?_eq_some_iff.mp hd).1
      rw [List.length_reverse] at this
      exact this
    rw [List.getElem?_reverse hi] at hd
    obtain ⟨v, hv, rv⟩ := r.get hd
    have hv' : xs[xs.length - 1 - i]? = some v := by rw [← r.length]; exact hv
    have e := (y xs (hl _ s)).symm.trans hv'
    cases e
    exact ⟨Same.refl _, rv.stay s⟩
  stop := fun H1 i s hi => by rw [List.length_reverse, r.length] at hi; exact hi
theorem enum_get {ds : List D} {i : Nat} {d : D} (h : (enumD ds)[i]? = some d) : ∃ e, ds[i]? = some e ∧ d = .tup [.int i, e] := by
  unfold enumD at h
  rw [List.getElem?_zipWith] at h
  cases q : (List.range ds.length)[i]? with
  | none => rw [q] at h; cases h
  | some j =>
    have hj : j = i := by
      obtain ⟨h1, h2⟩ := List.getElem?_eq_some_iff.mp q
      rw [List.getElem_range] at h2
      exact h2.symm
    subst hj
    rw [q] at h
    cases q2 : ds[j]? with
    | none => rw [q2] at h; cases h
    | some e =>
      rw [q2] at h
      cases h
      exact ⟨e, rfl, rfl⟩
theorem enum_length (ds : List D) : (enumD ds).length = ds.length := by
  unfold enumD
  rw [List.length_zipWith, List.length_range, Nat.min_self]
theorem wk_enum {a : Addr} {xs : List V} {ds : List D} (hl : ∀ H1, Stay H Z H1 → SqL K H1 a xs) (r : RpA K mg H Z ds xs) : Wk K mg H Z (Ite K a) (enumD ds) where
  go := fun H1 i s hi => ⟨xs, _, hl H1 s, List.getElem?_eq_getElem (by rw [← r.length, ← enum_length]; exact hi)⟩
  yld := fun H1 i x H2 s y d hd => by
    obtain ⟨T, w, rfl, hT, rfl, y⟩ := y
    obtain ⟨e, he, rfl⟩ := enum_get hd
    obtain ⟨v, hv, rv⟩ := r.get he
    have e := (y xs (hl _ s)).symm.trans hv
    cases e
    exact ⟨same_upd hT, .tup (SqT.of upd_same) (.cons (.int _) (.cons ((rv.stay s).same (same_upd hT)) .nil))⟩
  stop := fun H1 i s hi => ⟨xs, hl H1 s, by rw [← r.length, ← enum_length]; exact hi⟩
theorem zip_get {ds es : List D} {i : Nat} {d : D} (h : (zipD ds es)[i]? = some d) : ∃ x y, ds[i]? = some x ∧ es[i]? = some y ∧ d = .tup [x, y] := by
  unfold zipD at h
  rw [List.getElem?_zipWith] at h
  cases q : ds[i]? with
  | none => rw [q] at h; cases h
  | some x =>
    rw [q] at h
    cases q2 : es[i]? with
    | none => rw [q2] at h; cases h
    | some y =>
      rw [q2] at h
      cases h
      exact ⟨x, y, rfl, rfl, rfl⟩
theorem wk_zip {a b : Addr} {xs ys : List V} {ds es : List D} (hl : ∀ H1, Stay H Z H1 → SqL K H1 a xs) (hl2 : ∀ H1, Stay H Z H1 → SqL K H1 b ys) (r : RpA K mg H Z ds xs) (r2 : RpA K mg H Z es ys) : Wk K mg H Z (Itz K a b) (zipD ds es) where
  go := fun H1 i s hi => by
    unfold zipD at hi
    rw [List.length_zipWith, r.length, r2.length] at hi
    exact ⟨xs, ys, _, _, hl H1 s, hl2 H1 s, List.getElem?_eq_getElem (by omega), List.getElem?_eq_getElem (by omega)⟩
  yld := fun H1 i x H2 s y d hd => by
    obtain ⟨T, w, u, rfl, hT, rfl, y1, y2⟩ := y
    obtain ⟨e, f, he, hf, rfl⟩ := zip_get hd
    obtain ⟨v, hv, rv⟩ := r.get he
    obtain ⟨v2, hv2, rv2⟩ := r2.get hf
    have e1 := (y1 xs (hl _ s)).symm.trans hv
    have e2 := (y2 ys (hl2 _ s)).symm.trans hv2
    cases e1; cases e2
    exact ⟨same_upd hT, .tup (SqT.of upd_same) (.cons ((rv.stay s).same (same_upd hT)) (.cons ((rv2.stay s).same (same_upd hT)) .nil))⟩
  stop := fun H1 i s hi => by
    unfold zipD at hi
    rw [List.length_zipWith, r.length, r2.length] at hi
    exact ⟨xs, ys, hl H1 s, hl2 H1 s, by omega⟩
end
/-- the reading of what is walked -/
def tI (c : Cn) (W : WX) (x : Ex) : TI := fun σ H R => ∃ ρ, ER c H σ ρ ∧ ((ev ρ x).bind itemsOf).all (fun ds => ∀ J H', Same H H' → Wk c.K c.mg H' (Zf c σ ρ) J ds → R J H') (fun k => ∀ H', Same H H' → XW c W k σ H')
theorem pi_or {X : Cx} {tg e : Expr} {w w' : TI} (h : PI X tg e w) (h' : PI X tg e w') : PI X tg e (fun σ H R => w σ H R ∨ w' σ H R) := ⟨fun pins s σ H R I q => q.elim (h.run pins s σ H R I) (h'.run pins s σ H R I)⟩
theorem pi_imp {X : Cx} {tg e : Expr} {w w' : TI} (h : PI X tg e w) (i : ∀ σ H R, w' σ H R → w σ H R) : PI X tg e w' := ⟨fun pins s σ H R I q => h.run pins s σ H R I (i σ H R q)⟩
theorem stay_lst {K : PySem.W.Frag} {H : Hp} {Z : Addr → Prop} {a : Addr} {xs : List V} (e : H a = some (.lst xs)) (z : Z a) : ∀ H1, Stay H Z H1 → SqL K H1 a xs := fun H1 s => SqL.of (s a _ e fun _ => z)
theorem stay_frz {K : PySem.W.Frag} {H : Hp} {Z : Addr → Prop} {a : Addr} {xs : List V} (e : ScA K H a xs) : ∀ H1, Stay H Z H1 → SqL K H1 a xs := fun H1 s => (s.scA e).sq
/-- a plain iterable: a list, a tuple, a text, the script -/
theorem pi_plain {X : Cx} {tg e : Expr} {H0 : Hp} {Gp : GQ} {W : WX} {x : Ex} (h : PE X e (tX (cn X H0 Gp) W x)) (hb : nb x = true) : PI X tg e (tI (cn X H0 Gp) W x) := by
  refine pi_imp (pi_or (pi_list h) (pi_or (pi_tup h) (pi_str h))) fun σ H R q => ?_
  obtain ⟨ρ, er, q⟩ := q
  cases e1 : ev ρ x with
  | ok d =>
    rw [e1] at q
    have q : (itemsOf d).all (fun ds => ∀ J H', Same H H' → Wk X.K X.mg H' (Zf (cn X H0 Gp) σ ρ) J ds → R J H') (fun k => ∀ H', Same H H' → XW (cn X H0 Gp) W k σ H') := q
    unfold itemsOf at q
    split at q
    · refine .inl ⟨ρ, er, ?_⟩
      rw [e1]
      intro v H' po
      have r := po.rp hb
      cases r with
      | lst e2 z ra => exact ⟨_, rfl, ⟨_, SqL.of e2⟩, q _ _ po.same (wk_seq (stay_lst e2 z) ra)⟩
    · refine .inr (.inl ⟨ρ, er, ?_⟩)
      rw [e1]
      intro v H' po
      have r := po.rp hb
      cases r with
      | tup s ra => exact ⟨_, rfl, ⟨_, s⟩, q _ _ po.same (wk_tup s ra)⟩
    · refine .inl ⟨ρ, er, ?_⟩
      rw [e1]
      intro v H' po
      have r := po.rp hb
      cases r with
      | scr e2 => exact ⟨_, rfl, ⟨_, e2.sq⟩, q _ _ po.same (wk_seq (stay_frz e2) (RpA.ints _))⟩
    · refine .inr (.inr ⟨ρ, er, ?_⟩)
      rw [e1]
      intro v H' po
      have r := po.rp hb
      cases r with
      | str => exact ⟨_, rfl, q _ _ po.same (wk_str _)⟩
    · exact q.elim
  | exc k =>
    rw [e1] at q
    exact .inl ⟨ρ, er, by rw [e1]; exact q⟩
  | bad => rw [e1] at q; exact q.elim
/-- a list, a readable one, at hand -/
theorem items_lst {c : Cn} {H : Hp} {σ : Sg} {ρ : En} {d : D} {v : V} {ds : List D} (r : Rp c.K c.mg H (Zf c σ ρ) d v) (e : itemsOf d = .ok ds) (hd : ∀ z, d ≠ .str z) (ht : ∀ ts, d ≠ .tup ts) :
    ∃ a xs, v = .ref a ∧ SqL c.K H a xs ∧ (∀ H1, Stay H (Zf c σ ρ) H1 → SqL c.K H1 a xs) ∧ RpA c.K c.mg H (Zf c σ ρ) ds xs := by
  unfold itemsOf at e
  split at e
  · cases e
    cases r with | lst e2 z ra => exact ⟨_, _, rfl, SqL.of e2, stay_lst e2 z, ra⟩
  · exact absurd rfl (ht _)
  · cases e
    cases r with | scr e2 => exact ⟨_, _, rfl, e2.sq, stay_frz e2, RpA.ints _⟩
  · exact absurd rfl (hd _)
  · cases e
/-! ### a def is called -/
section
variable {X : Cx} {CX : CXT} {k : Nat} {f : Addr} {fd : FuncData} {ps : List Str} {sp : Sp} {dvs : List V} {ds : List Value}
theorem run_fnD {pins : List (Addr × Obj)} {σ : Sg} {H : Hp} {s : Shared} {Q : VK} {E : XK} {us : List Value} {vs : List V} (F : FnOk X.prog X.w X.K X.mg X.base CX k f fd ps sp) (hr : Room k X.A) (hb : Binds X.K fd ps ds)
    (hd : Vals dvs ds) (hx : PassesAt CX X σ E) (I : Inv X pins σ H s) (r : Vals vs us) (h : sp (vs ++ dvs) H Q E) :
    wpAny (model X.prog X.w) X.A (call (.ref f) us) (EP X pins σ Q) X.xe s := by
  have r2 := Vals.append r hd
  have hl : (us ++ ds).length = ps.length := r2.length.symm.trans (F.len _ _ _ _ h)
  have go := F.run X.A X.stack s H ⟨us, []⟩ (us ++ ds) (vs ++ dvs) Q E hr I.env0 (hb s us I.kIn hl) r2 h
  refine wpAny_call (codeAny_mono go ?_)
  rintro (e | fl) s' hq
  · exact hx pins H s e s' I hq
  · cases fl <;> first | exact I.after hq | exact False.elim hq
theorem pe_callD {n : Str} {p pos : Pos} {e : Expr} {es : List Expr} {t : TA} {E : L2.St → XK} (F : FnOk X.prog X.w X.K X.mg X.base CX k f fd ps sp) (hr : Room k X.A) (hb : Binds X.K fd ps ds) (hd : Vals dvs ds)
    (hg : Gl X n) (hm : X.mg n = some (.ref f)) (hk : PySem.W.keepIn X.K (.ref f) = true) (hx : ∀ σ, PassesAt CX X σ (E σ)) (ha : PA X (e :: es) t) (hdb : (n == ("__debug__" : Str)) = false)
    (he : starEach (e :: es) X.env = (false, eval e X.env) :: starEach es X.env) (hpl : (backTo pos (starEach es X.env)).any (·.1) = false) :
    PE X (.Call (.Name n p) (e :: es) [] pos) (fun σ H Q => t σ H fun vs H1 => sp (vs ++ dvs) H1 Q (E σ)) := by
  constructor
  intro pins s σ H Q I h
  apply wpAny_Call_Name_kw
  apply ld_glob I hg hm _ hdb
  apply PySem.W.callWith_K (h₀ := X.base) I.ok.mod.kin hk _ he hpl
  apply thn (ha.run pos pins s σ H _ I h)
  rintro us s1 ⟨vs, H1, I1, r, q⟩
  exact ⟨I1.kIn, run_fnD F hr hb hd (hx σ) I1 r q⟩
end
end OL
/-! What an expression of the program does, it does by the small language's words. -/
namespace OL
open PySem PySem.Spec PyProof.Rows L2
/-- sound: the reading of x is a reading of each expression that is x -/
structure Snd (x : Ex) : Prop where
  pe : ∀ {X : Cx} {H0 : Hp} {Gp : GQ} {W : WX} {tb : Fn → Prop} {tg : String → D → Prop} {hot : Bool} {e : Expr}, Good tb tg X hot → TakesF X W → (hot = true → hotOk x = true) → cal tb tg x → ck X.N x X.env.scope e = true → PE X e (tX (cn X H0 Gp) W x)
  pt : ∀ {X : Cx} {H0 : Hp} {Gp : GQ} {W : WX} {tb : Fn → Prop} {tg : String → D → Prop} {hot : Bool} {e : Expr}, Good tb tg X hot → TakesF X W → (hot = true → hotOk x = true) → cal tb tg x → ck X.N x X.env.scope e = true → PT X e (tT (cn X H0 Gp) W x)
theorem emp_of {α β : Type} : ∀ {xs : List α} {ys : List β}, xs.length = ys.length → (!xs.isEmpty) = !ys.isEmpty
  | [], [], _ => rfl
  | _ :: _, _ :: _, _ => rfl
  | [], _ :: _, h => by simp at h
  | _ :: _, [], h => by simp at h
theorem tru_of {K : PySem.W.Frag} {mg : Str → Option Value} {H : Hp} {Z : Addr → Prop} {d : D} {v : V} {b : Bool} (r : Rb K mg H Z d v) (h : truD d = some b) : TruV K v H b := by
  unfold truD at h
  split at h
  · cases h; cases r.non; exact rfl
  · cases h; cases r.bl; exact rfl
  · cases h; cases r.int; exact rfl
  · cases r.str
    split at h
    · rename_i hl
      cases h
      exact ⟨by rw [line_eq]; exact hl, rfl⟩
    · cases h
  · cases h
    obtain ⟨a, xs, rfl, s, ra⟩ := r.tup
    exact .inr (.inl ⟨xs, s, emp_of ra.length⟩)
  · cases h
    obtain ⟨a, xs, rfl, s, ra⟩ := r.lst
    exact .inl ⟨xs, SqL.of s, emp_of ra.length⟩
  · cases h
    obtain ⟨a, rfl, s⟩ := r.scr
    refine .inl ⟨_, s.sq, ?_⟩
    rename_i ns
    cases ns <;> rfl
  · cases h
theorem pt_gen {X : Cx} {H0 : Hp} {Gp : GQ} {W : WX} {x : Ex} {e : Expr} (h : PE X e (tX (cn X H0 Gp) W x)) (he : ∀ whole, isTrue e X.env whole = (do let v ← whole; standAt e.pos; holding [v] (truthy v))) : PT X e (tT (cn X H0 Gp) W x) := by
  refine pt_imp (pt_truth h he) fun σ H Q q => ?_
  obtain ⟨ρ, er, q⟩ := q
  refine tX_then er q fun d v H' e1 po er' q' => ?_
  split at q'
  · rename_i b hb
    exact ⟨b, tru_of po.rb hb, q' H' (po.same)⟩
  · exact q'.elim
/-- an answer that is a truth, of a test -/
theorem tT_of {c : Cn} {W : WX} {σ : Sg} {H : Hp} {Q : Bool → Hp → Prop} {r : R D} (q : (r.bind fun d => match truD d with | some b => R.ok b | none => R.bad).all (fun b => ∀ H', Same H H' → Q b H') (fun k => ∀ H', Same H H' → XW c W k σ H')) :
    r.all (fun d => ∃ b, truD d = some b ∧ ∀ H', Same H H' → Q b H') (fun k => ∀ H', Same H H' → XW c W k σ H') := by
  cases r with
  | ok d =>
    have q' : (match truD d with | some b => R.ok b | none => R.bad).all (fun b => ∀ H', Same H H' → Q b H') (fun k => ∀ H', Same H H' → XW c W k σ H') := q
    split at q'
    · rename_i b hb; exact ⟨b, hb, q'⟩
    · exact q'.elim
  | exc k => exact q
  | bad => exact q.elim
section
variable {X : Cx} {H0 : Hp} {Gp : GQ} {W : WX} {tb : Fn → Prop} {tg : String → D → Prop} {hot : Bool}
/-- the arguments of a call, the items of a display -/
theorem pa_of (G : Good tb tg X hot) (tk : TakesF X W) : ∀ {xs : List Ex} {es : List Expr}, (∀ x ∈ xs, Snd x) → (hot = true → hotOkL xs = true) → calL tb tg xs → ckL X.N xs X.env.scope es = true → PA X es (tA (cn X H0 Gp) W xs)
  | [], [], _, _, _, _ => pa_imp pa_nil fun σ H Q ⟨ρ, er, q⟩ => q [] H ⟨Same.refl _, .nil, fun _ => .nil⟩
  | [], _ :: _, _, _, _, h => by unfold ckL at h; cases h
  | _ :: _, [], _, _, _, h => by unfold ckL at h; cases h
  | x :: xs, e :: es, hs, hh, hc, h => by
    unfold ckL at h
    rw [Bool.and_eq_true, Bool.and_eq_true] at h
    unfold calL at hc
    have hh1 : hot = true → hotOk x = true := fun z => by have := hh z; unfold hotOkL at this; rw [Bool.and_eq_true] at this; exact this.1
    have hh2 : hot = true → hotOkL xs = true := fun z => by have := hh z; unfold hotOkL at this; rw [Bool.and_eq_true] at this; exact this.2
    refine pa_imp (pa_cons ((hs x List.mem_cons_self).pe (H0 := H0) (Gp := Gp) G tk hh1 hc.1 h.1.1) (pa_of G tk (fun y hy => hs y (List.mem_cons_of_mem _ hy)) hh2 hc.2 h.2) (star_of h.1.2 es X.env)) fun σ H Q q => ?_
    obtain ⟨ρ, er, q⟩ := q
    unfold evs at q
    refine tX_then er q fun d v H1 e1 po er1 q1 => ?_
    refine tA_then er1 q1 fun ds vs H2 e2 po2 er2 q2 => ?_
    refine q2 _ _ ⟨po.same.trans po2.same, .cons (po.rb.same po2.same) po2.rb, fun z => ?_⟩
    rw [List.all_cons, Bool.and_eq_true] at z
    exact .cons ((po.rp z.1).same po2.same) (po2.rp z.2)
end
end OL
namespace OL
open PySem PySem.Spec PyProof.Rows L2
theorem name_tru {x : Str} {p : Pos} {env : Env} (whole : Sem Value) : isTrue (.Name x p) env whole = (do let v ← whole; standAt (Expr.Name x p).pos; holding [v] (truthy v)) := rfl
theorem snd_var (i : Nat) : Snd (.var i) := by
  have pe : ∀ {X : Cx} {H0 : Hp} {Gp : GQ} {W : WX} {e : Expr}, ck X.N (.var i) X.env.scope e = true → PE X e (tX (cn X H0 Gp) W (.var i)) := by
    intro X H0 Gp W e h
    obtain ⟨n, p, rfl, h1, h2, h3⟩ := ck_var h
    obtain ⟨d1, d2, _⟩ := dbg_of h3
    refine pe_imp (pe_var h1 (vis_of h2) d1 d2) fun σ H Q q => ?_
    obtain ⟨ρ, er, q⟩ := q
    unfold ev getv at q
    split at q
    · rename_i d hd
      obtain ⟨v, e1, r⟩ := er.val i d hd
      exact ⟨v, e1, q v H (.plain (Same.refl _) r rfl)⟩
    · exact q.elim
  refine ⟨fun _ _ _ _ h => pe h, fun _ _ _ _ h => ?_⟩
  obtain ⟨n, p, rfl, _⟩ := ck_var h
  exact pt_gen (pe h) fun _ => rfl
theorem snd_bor (i : Nat) : Snd (.bor i) := by
  have pe : ∀ {X : Cx} {H0 : Hp} {Gp : GQ} {W : WX} {e : Expr}, ck X.N (.bor i) X.env.scope e = true → PE X e (tX (cn X H0 Gp) W (.bor i)) := by
    intro X H0 Gp W e h
    obtain ⟨n, p, rfl, h1, h2, h3⟩ := ck_bor h
    obtain ⟨d1, d2, _⟩ := dbg_of h3
    refine pe_imp (pe_var h1 (vis_of h2) d1 d2) fun σ H Q q => ?_
    obtain ⟨ρ, er, q⟩ := q
    unfold ev getb at q
    split at q
    · rename_i d hd
      obtain ⟨a, xs, e1, e2, e3, r⟩ := er.lst i d hd
      exact ⟨_, e1, q _ H ⟨Same.refl _, .o e2 r, fun z => by (cases z), fun z => by (cases z)⟩⟩
    · rename_i d hd
      obtain ⟨_, a, xs, e1, _, e2, r⟩ := er.lsq i d hd
      exact ⟨_, e1, q _ H ⟨Same.refl _, .o e2 r, fun z => by (cases z), fun z => by (cases z)⟩⟩
    · exact q.elim
  refine ⟨fun _ _ _ _ h => pe h, fun _ _ _ _ h => ?_⟩
  obtain ⟨n, p, rfl, _⟩ := ck_bor h
  exact pt_gen (pe h) fun _ => rfl
theorem snd_nop : Snd .nop := ⟨fun _ _ _ _ h => by (cases ‹Expr› <;> (unfold ck at h; cases h)), fun _ _ _ _ h => by (cases ‹Expr› <;> (unfold ck at h; cases h))⟩
theorem snd_lit (d : D) : Snd (.lit d) := by
  have pe : ∀ {X : Cx} {H0 : Hp} {Gp : GQ} {W : WX} {e : Expr}, ck X.N (.lit d) X.env.scope e = true → PE X e (tX (cn X H0 Gp) W (.lit d)) := by
    intro X H0 Gp W e h
    obtain ⟨k, j, p, rfl, hl⟩ := ck_lit h
    unfold litOk at hl
    split at hl
    · exact pe_imp pe_non fun σ H Q ⟨ρ, er, q⟩ => q _ H (.plain (Same.refl _) .non rfl)
    · rename_i a b
      have : a = b := by simpa using hl
      subst this
      exact pe_imp pe_bl fun σ H Q ⟨ρ, er, q⟩ => q _ H (.plain (Same.refl _) (.bl _) rfl)
    · have := of_decide_eq_true hl
      subst this
      exact pe_imp pe_int fun σ H Q ⟨ρ, er, q⟩ => q _ H (.plain (Same.refl _) (.int _) rfl)
    · have := of_decide_eq_true hl
      subst this
      exact pe_imp pe_str fun σ H Q ⟨ρ, er, q⟩ => q _ H (.plain (Same.refl _) (.str _) rfl)
    · cases hl
  refine ⟨fun _ _ _ _ h => pe h, fun _ _ _ _ h => ?_⟩
  obtain ⟨n, j, p, rfl, _⟩ := ck_lit h
  exact pt_gen (pe h) fun _ => rfl
theorem snd_glob (n : String) (d : D) : Snd (.glob n d) := by
  have pe : ∀ {X : Cx} {H0 : Hp} {Gp : GQ} {W : WX} {tb : Fn → Prop} {tg : String → D → Prop} {hot : Bool} {e : Expr}, Good tb tg X hot → cal tb tg (.glob n d) → ck X.N (.glob n d) X.env.scope e = true → PE X e (tX (cn X H0 Gp) W (.glob n d)) := by
    intro X H0 Gp W tb tg hot e G hc h
    obtain ⟨p, rfl, h1, h2⟩ := ck_glob h
    unfold cal at hc
    obtain ⟨u, v, e1, e2, r⟩ := G.glb n d hc.1 hc.2
    exact pe_imp (pe_glob (gl_of h1) e1 e2 (dbg_of h2).1) fun σ H Q ⟨ρ, er, q⟩ => q _ H (.plain (Same.refl _) (r _ _) rfl)
  refine ⟨fun G _ _ c h => pe G c h, fun G _ _ c h => ?_⟩
  obtain ⟨p, rfl, _⟩ := ck_glob h
  exact pt_gen (pe G c h) fun _ => rfl
theorem snd_tup {xs : List Ex} (hs : ∀ x ∈ xs, Snd x) : Snd (.tup xs) := by
  have pe : ∀ {X : Cx} {H0 : Hp} {Gp : GQ} {W : WX} {tb : Fn → Prop} {tg : String → D → Prop} {hot : Bool} {e : Expr}, Good tb tg X hot → TakesF X W → (hot = true → hotOk (.tup xs) = true) → cal tb tg (.tup xs) → ck X.N (.tup xs) X.env.scope e = true → PE X e (tX (cn X H0 Gp) W (.tup xs)) := by
    intro X H0 Gp W tb tg hot e G tk hh hc h
    obtain ⟨es, k, p, rfl, h1, h2⟩ := ck_tup h
    unfold cal at hc
    refine pe_imp (pe_tup (pa_of (H0 := H0) (Gp := Gp) G tk hs (fun z => by have := hh z; unfold hotOk at this; exact this) hc h1)) fun σ H Q q => ?_
    obtain ⟨ρ, er, q⟩ := q
    unfold ev at q
    refine tA_then er q fun ds vs H1 e1 po er1 q1 => ?_
    split at q1
    · rename_i hl
      have ra := po.rp h2
      refine ⟨by rw [line_eq, ← ra.length]; exact hl, fun p hp => q1 _ _ (Nw.po er po.same (.nt hp ra))⟩
    · exact q1.elim
  refine ⟨fun G tk hh c h => pe G tk hh c h, fun G tk hh c h => ?_⟩
  obtain ⟨es, k, p, rfl, _⟩ := ck_tup h
  exact pt_gen (pe G tk hh c h) fun _ => rfl
theorem snd_lst {xs : List Ex} (hs : ∀ x ∈ xs, Snd x) : Snd (.lst xs) := by
  have pe : ∀ {X : Cx} {H0 : Hp} {Gp : GQ} {W : WX} {tb : Fn → Prop} {tg : String → D → Prop} {hot : Bool} {e : Expr}, Good tb tg X hot → TakesF X W → (hot = true → hotOk (.lst xs) = true) → cal tb tg (.lst xs) → ck X.N (.lst xs) X.env.scope e = true → PE X e (tX (cn X H0 Gp) W (.lst xs)) := by
    intro X H0 Gp W tb tg hot e G tk hh hc h
    obtain ⟨es, p, rfl, h1, h2⟩ := ck_lst h
    unfold cal at hc
    refine pe_imp (pe_lst (pa_of (H0 := H0) (Gp := Gp) G tk hs (fun z => by have := hh z; unfold hotOk at this; exact this) hc h1)) fun σ H Q q => ?_
    obtain ⟨ρ, er, q⟩ := q
    unfold ev at q
    refine tA_then er q fun ds vs H1 e1 po er1 q1 => ?_
    split at q1
    · rename_i hl
      have ra := po.rp h2
      refine ⟨by rw [line_eq, ← ra.length]; exact hl, fun p hp => q1 _ _ (Nw.po er po.same (.nl hp ra))⟩
    · exact q1.elim
  refine ⟨fun G tk hh c h => pe G tk hh c h, fun G tk hh c h => ?_⟩
  obtain ⟨es, p, rfl, _⟩ := ck_lst h
  exact pt_gen (pe G tk hh c h) fun _ => rfl
theorem snd_bin {op : Op} {x y : Ex} (hx : Snd x) (hy : Snd y) : Snd (.bin op x y) := by
  have pe : ∀ {X : Cx} {H0 : Hp} {Gp : GQ} {W : WX} {tb : Fn → Prop} {tg : String → D → Prop} {hot : Bool} {e : Expr}, Good tb tg X hot → TakesF X W → (hot = true → hotOk (.bin op x y) = true) → cal tb tg (.bin op x y) → ck X.N (.bin op x y) X.env.scope e = true → PE X e (tX (cn X H0 Gp) W (.bin op x y)) := by
    intro X H0 Gp W tb tg hot e G tk hh hc h
    obtain ⟨a, b, p, rfl, h1, h2⟩ := ck_bin h
    unfold cal at hc
    have hh1 : hot = true → hotOk x = true ∧ hotOk y = true := fun z => by have := hh z; unfold hotOk at this; rw [Bool.and_eq_true] at this; exact this
    refine pe_imp (pe_op (op_bin op) (hx.pe (H0 := H0) (Gp := Gp) G tk (fun z => (hh1 z).1) hc.1 h1) (hy.pe (H0 := H0) (Gp := Gp) G tk (fun z => (hh1 z).2) hc.2 h2)) fun σ H Q q => ?_
    obtain ⟨ρ, er, q⟩ := q
    unfold ev at q
    refine tX_then er q fun d v H1 e1 po er1 q1 => ?_
    refine tX_then er1 q1 fun d2 v2 H2 e2 po2 er2 q2 => ?_
    refine ⟨_, fun _ => True, d, d2, po.rb.same po2.same, po2.rb, ?_⟩
    cases e3 : binD op d d2 with
    | ok w => rw [e3] at q2; exact fun u H' nw => q2 u H' (nw.po er (po.same.trans po2.same))
    | exc k => exact trivial
    | bad => rw [e3] at q2; exact q2.elim
  refine ⟨fun G tk hh c h => pe G tk hh c h, fun G tk hh c h => ?_⟩
  obtain ⟨a, b, p, rfl, _⟩ := ck_bin h
  exact pt_gen (pe G tk hh c h) fun _ => rfl
theorem snd_neg {x : Ex} (hx : Snd x) : Snd (.neg x) := by
  have pe : ∀ {X : Cx} {H0 : Hp} {Gp : GQ} {W : WX} {tb : Fn → Prop} {tg : String → D → Prop} {hot : Bool} {e : Expr}, Good tb tg X hot → TakesF X W → (hot = true → hotOk (.neg x) = true) → cal tb tg (.neg x) → ck X.N (.neg x) X.env.scope e = true → PE X e (tX (cn X H0 Gp) W (.neg x)) := by
    intro X H0 Gp W tb tg hot e G tk hh hc h
    obtain ⟨a, p, rfl, h1⟩ := ck_neg h
    unfold cal at hc
    refine pe_imp (pe_un un_neg (hx.pe (H0 := H0) (Gp := Gp) G tk (fun z => by have := hh z; unfold hotOk at this; exact this) hc h1)) fun σ H Q q => ?_
    obtain ⟨ρ, er, q⟩ := q
    unfold ev at q
    refine tX_then er q fun d v H1 e1 po er1 q1 => ?_
    unfold negD at q1
    split at q1
    · cases po.rb.int
      exact ⟨_, rfl, q1 _ _ (.plain po.same (.int _) rfl)⟩
    · exact q1.elim
  refine ⟨fun G tk hh c h => pe G tk hh c h, fun G tk hh c h => ?_⟩
  obtain ⟨a, p, rfl, _⟩ := ck_neg h
  exact pt_gen (pe G tk hh c h) fun _ => rfl
theorem cp_bool {op : Cp} {d e w : D} (h : cpD op d e = .ok w) : ∃ b, w = .bl b := by
  unfold cpD at h
  split at h <;> first | (cases h; exact ⟨_, rfl⟩) | (split at h <;> first | (cases h; exact ⟨_, rfl⟩) | cases h | (split at h <;> first | (cases h; exact ⟨_, rfl⟩) | cases h)) | cases h
theorem snd_cmp {op : Cp} {x y : Ex} (hx : Snd x) (hy : Snd y) : Snd (.cmp op x y) := by
  refine ⟨fun {X H0 Gp W tb tg hot e} G tk hh hc h => ?_, fun {X H0 Gp W tb tg hot e} G tk hh hc h => ?_⟩
  all_goals
    obtain ⟨a, b, p, rfl, hm, h1, h2⟩ := ck_cmp h
    unfold cal at hc
    have hh1 : hot = true → hotOk x = true ∧ hotOk y = true := fun z => by have := hh z; unfold hotOk at this; rw [Bool.and_eq_true] at this; exact this
    have px := hx.pe (H0 := H0) (Gp := Gp) G tk (fun z => (hh1 z).1) hc.1 h1
    have py := hy.pe (H0 := H0) (Gp := Gp) G tk (fun z => (hh1 z).2) hc.2 h2
  · refine pe_imp (pe_cmpR (op_cmp G.un op) px py hm) fun σ H Q q => ?_
    obtain ⟨ρ, er, q⟩ := q
    unfold ev at q
    refine tX_then er q fun d v H1 e1 po er1 q1 => ?_
    refine tX_then er1 q1 fun d2 v2 H2 e2 po2 er2 q2 => ?_
    refine ⟨_, fun _ => True, d, d2, po.rb.same po2.same, po2.rb, ?_⟩
    cases e3 : cpD op d d2 with
    | ok w => rw [e3] at q2; exact fun u H' nw => q2 u H' (nw.po er (po.same.trans po2.same))
    | exc k => exact trivial
    | bad => rw [e3] at q2; exact q2.elim
  · refine pt_imp (pt_cmpR (op_cmp G.un op) px py hm) fun σ H Q q => ?_
    obtain ⟨ρ, er, q⟩ := q
    unfold tst ev at q
    have q := tT_of q
    refine tX_then er q fun d v H1 e1 po er1 q1 => ?_
    refine tX_then er1 q1 fun d2 v2 H2 e2 po2 er2 q2 => ?_
    refine ⟨_, fun _ => True, d, d2, po.rb.same po2.same, po2.rb, ?_⟩
    cases e3 : cpD op d d2 with
    | ok w =>
      rw [e3] at q2
      intro u H' nw
      obtain ⟨b, rfl⟩ := cp_bool e3
      obtain ⟨b', hb, q3⟩ := q2
      cases hb
      have po3 := nw.po (x := .cmp op x y) er (po.same.trans po2.same)
      exact ⟨b, po3.rb.bl, q3 H' po3.same⟩
    | exc k => exact trivial
    | bad => rw [e3] at q2; exact q2.elim
theorem snd_chain {op op' : Cp} {x y z : Ex} (hx : Snd x) (hy : Snd y) (hz : Snd z) : Snd (.chain op op' x y z) := by
  refine ⟨fun {X H0 Gp W tb tg hot e} G tk hh hc h => ?_, fun {X H0 Gp W tb tg hot e} G tk hh hc h => ?_⟩
  all_goals
    obtain ⟨a, b, d, p, rfl, hm, h1, h2, h3⟩ := ck_chain h
    unfold cal at hc
    have hh1 : hot = true → hotOk x = true ∧ hotOk y = true ∧ hotOk z = true := fun w => by have := hh w; unfold hotOk at this; rw [Bool.and_eq_true, Bool.and_eq_true] at this; exact ⟨this.1.1, this.1.2, this.2⟩
    have px := hx.pe (H0 := H0) (Gp := Gp) G tk (fun w => (hh1 w).1) hc.1 h1
    have py := hy.pe (H0 := H0) (Gp := Gp) G tk (fun w => (hh1 w).2.1) hc.2.1 h2
    have pz := hz.pe (H0 := H0) (Gp := Gp) G tk (fun w => (hh1 w).2.2) hc.2.2 h3
  · refine pe_imp (pe_chain (op_cmp G.un op) (op_cmp G.un op') px py pz hm) fun σ H Q q => ?_
    obtain ⟨ρ, er, q⟩ := q
    unfold ev at q
    refine tX_then er q fun d v H1 e1 po er1 q1 => ?_
    refine tX_then er1 q1 fun d2 v2 H2 e2 po2 er2 q2 => ?_
    refine ⟨_, fun _ => True, d, d2, po.rb.same po2.same, po2.rb, ?_⟩
    cases e3 : cpD op d d2 with
    | ok w =>
      rw [e3] at q2
      intro u H' nw
      obtain ⟨b, rfl⟩ := cp_bool e3
      have po3 := nw.po (x := .cmp op x y) er (po.same.trans po2.same)
      refine ⟨b, po3.rb.bl, ?_⟩
      have s3 : Same H2 H' := by cases nw <;> first | exact Same.refl _ | (exact same_upd (by assumption))
      have er3 := er2.same s3
      cases b with
      | false => exact iteF (q2 _ _ (.noL po3.same (.bl _) fun _ w => by cases w))
      | true =>
        refine iteT ?_
        have q3 : ((ev ρ z).bind fun c => cpD op' d2 c).all (fun d => ∀ v H', Po (cn X H0 Gp) σ ρ (.chain op op' x y z) H H' d v → Q v H') (fun k => ∀ H'', Same H2 H'' → XW (cn X H0 Gp) W k σ H'') := q2
        have q4 : ((ev ρ z).bind fun c => cpD op' d2 c).all (fun d => ∀ v H', Po (cn X H0 Gp) σ ρ (.chain op op' x y z) H H' d v → Q v H') (fun k => ∀ H'', Same H' H'' → XW (cn X H0 Gp) W k σ H'') := by
          cases e5 : (ev ρ z).bind fun c => cpD op' d2 c with
          | ok _ => rw [e5] at q3; exact q3
          | exc k => rw [e5] at q3; exact fun H'' s => q3 H'' (s3.trans s)
          | bad => rw [e5] at q3; exact q3
        refine tX_then er3 q4 fun d4 v4 H4 e4 po4 er4 q5 => ?_
        refine ⟨_, fun _ => True, d2, d4, (po2.rb.same s3).same po4.same, po4.rb, ?_⟩
        cases e6 : cpD op' d2 d4 with
        | ok w =>
          rw [e6] at q5
          intro u2 H5 nw2
          obtain ⟨b2, rfl⟩ := cp_bool e6
          have po5 := nw2.po (x := .cmp op x y) er (po3.same.trans po4.same)
          exact q5 _ _ (.noL po5.same (by cases po5.rb.bl; exact .bl _) fun _ w => by cases w)
        | exc k => exact trivial
        | bad => rw [e6] at q5; exact q5.elim
    | exc k => exact trivial
    | bad => rw [e3] at q2; exact q2.elim
  · refine pt_imp (pt_chain (op_cmp G.un op) (op_cmp G.un op') px py pz hm) fun σ H Q q => ?_
    obtain ⟨ρ, er, q⟩ := q
    unfold tst ev at q
    have q := tT_of q
    refine tX_then er q fun d v H1 e1 po er1 q1 => ?_
    refine tX_then er1 q1 fun d2 v2 H2 e2 po2 er2 q2 => ?_
    refine ⟨_, fun _ => True, d, d2, po.rb.same po2.same, po2.rb, ?_⟩
    cases e3 : cpD op d d2 with
    | ok w =>
      rw [e3] at q2
      intro u H' nw
      obtain ⟨b, rfl⟩ := cp_bool e3
      have po3 := nw.po (x := .cmp op x y) er (po.same.trans po2.same)
      refine ⟨b, po3.rb.bl, ?_⟩
      have s3 : Same H2 H' := by cases nw <;> first | exact Same.refl _ | (exact same_upd (by assumption))
      have er3 := er2.same s3
      cases b with
      | false =>
        obtain ⟨b', hb, q3⟩ := q2
        cases hb
        exact iteF ⟨_, rfl, q3 _ po3.same⟩
      | true =>
        refine iteT ?_
        have q3 : ((ev ρ z).bind fun c => cpD op' d2 c).all (fun d => ∃ b, truD d = some b ∧ ∀ H', Same H H' → Q b H') (fun k => ∀ H'', Same H2 H'' → XW (cn X H0 Gp) W k σ H'') := q2
        have q4 : ((ev ρ z).bind fun c => cpD op' d2 c).all (fun d => ∃ b, truD d = some b ∧ ∀ H', Same H H' → Q b H') (fun k => ∀ H'', Same H' H'' → XW (cn X H0 Gp) W k σ H'') := by
          cases e5 : (ev ρ z).bind fun c => cpD op' d2 c with
          | ok _ => rw [e5] at q3; exact q3
          | exc k => rw [e5] at q3; exact fun H'' s => q3 H'' (s3.trans s)
          | bad => rw [e5] at q3; exact q3
        refine tX_then er3 q4 fun d4 v4 H4 e4 po4 er4 q5 => ?_
        refine ⟨_, fun _ => True, d2, d4, (po2.rb.same s3).same po4.same, po4.rb, ?_⟩
        cases e6 : cpD op' d2 d4 with
        | ok w =>
          rw [e6] at q5
          intro u2 H5 nw2
          obtain ⟨b2, rfl⟩ := cp_bool e6
          have po5 := nw2.po (x := .cmp op x y) er (po3.same.trans po4.same)
          obtain ⟨b', hb, q6⟩ := q5
          cases hb
          exact ⟨_, po5.rb.bl, q6 _ po5.same⟩
        | exc k => exact trivial
        | bad => rw [e6] at q5; exact q5.elim
    | exc k => exact trivial
    | bad => rw [e3] at q2; exact q2.elim
end OL
namespace OL
open PySem PySem.Spec PyProof.Rows L2
/-- the wish of the step behind: from the heap H on, or from a later one -/
theorem R.all_later {α : Type} {c : Cn} {W : WX} {σ : Sg} {H H1 : Hp} {r : R α} {p : α → Prop} (s : Same H H1) (q : r.all p (fun k => ∀ H', Same H H' → XW c W k σ H')) : r.all p (fun k => ∀ H', Same H1 H' → XW c W k σ H') := by
  cases r with
  | ok _ => exact q
  | exc k => exact fun H' s' => q H' (s.trans s')
  | bad => exact q
theorem truD_bl (b : Bool) : truD (.bl b) = some b := rfl
section
variable {X : Cx} {H0 : Hp} {Gp : GQ} {W : WX} {tb : Fn → Prop} {tg : String → D → Prop} {hot : Bool}
theorem pe_andL (G : Good tb tg X hot) (tk : TakesF X W) {p : Pos} : ∀ {xs : List Ex} {es : List Expr}, xs ≠ [] → xs.all nb = true → (∀ x ∈ xs, Snd x) → (hot = true → hotOkL xs = true) → calL tb tg xs → ckL X.N xs X.env.scope es = true → PE X (.BoolOp .And es p) (tX (cn X H0 Gp) W (.and xs))
  | [], _, h, _, _, _, _, _ => absurd rfl h
  | x :: xs, [], _, _, _, _, _, h => by unfold ckL at h; cases h
  | [x], [e], _, hb, hs, hh, hc, h => by
    unfold ckL at h
    rw [Bool.and_eq_true, Bool.and_eq_true] at h
    unfold calL at hc
    have hh1 : hot = true → hotOk x = true := fun z => by have := hh z; unfold hotOkL at this; rw [Bool.and_eq_true] at this; exact this.1
    have hb1 : nb x = true := by simpa using hb
    refine pe_imp (pe_one ((hs x List.mem_cons_self).pe (H0 := H0) (Gp := Gp) G tk hh1 hc.1 h.1.1)) fun σ H Q q => ?_
    obtain ⟨ρ, er, q⟩ := q
    unfold ev evAnd at q
    refine ⟨ρ, er, ?_⟩
    cases e1 : ev ρ x with
    | ok d => rw [e1] at q; exact fun v H' po => q v H' (.plain po.same (po.rp hb1) rfl)
    | exc k => rw [e1] at q; exact q
    | bad => rw [e1] at q; exact q
  | [x], _ :: _ :: _, _, _, _, _, _, h => by unfold ckL at h; rw [Bool.and_eq_true] at h; have := h.2; unfold ckL at this; cases this
  | x :: y :: xs, [e], _, _, _, _, _, h => by unfold ckL at h; rw [Bool.and_eq_true] at h; have := h.2; unfold ckL at this; cases this
  | x :: y :: xs, e :: f :: es, _, hb, hs, hh, hc, h => by
    unfold ckL at h
    rw [Bool.and_eq_true, Bool.and_eq_true] at h
    unfold calL at hc
    have hh1 : hot = true → hotOk x = true := fun z => by have := hh z; unfold hotOkL at this; rw [Bool.and_eq_true] at this; exact this.1
    have hh2 : hot = true → hotOkL (y :: xs) = true := fun z => by have := hh z; unfold hotOkL at this; rw [Bool.and_eq_true] at this; exact this.2
    rw [List.all_cons, Bool.and_eq_true] at hb
    refine pe_imp (pe_and ((hs x List.mem_cons_self).pe (H0 := H0) (Gp := Gp) G tk hh1 hc.1 h.1.1) (pe_andL G tk (by simp) hb.2 (fun z hz => hs z (List.mem_cons_of_mem _ hz)) hh2 hc.2 h.2)) fun σ H Q q => ?_
    obtain ⟨ρ, er, q⟩ := q
    unfold ev evAnd at q
    refine tX_then er q fun d v H1 e1 po er1 q1 => ?_
    split at q1
    · cases po.rb.bl
      refine ⟨true, rfl, iteT ⟨ρ, er1, ?_⟩⟩
      unfold ev
      cases e2 : evAnd ρ (y :: xs) with
      | ok d => rw [e2] at q1; exact fun v H' po2 => q1 v H' (.plain (po.same.trans po2.same) (po2.rp rfl) rfl)
      | exc k => rw [e2] at q1; exact q1
      | bad => rw [e2] at q1; exact q1
    · cases po.rb.bl
      exact ⟨false, rfl, iteF (q1 _ _ (.plain po.same (.bl _) rfl))⟩
    · exact q1.elim
theorem pe_orL (G : Good tb tg X hot) (tk : TakesF X W) {p : Pos} : ∀ {xs : List Ex} {es : List Expr}, xs ≠ [] → xs.all nb = true → (∀ x ∈ xs, Snd x) → (hot = true → hotOkL xs = true) → calL tb tg xs → ckL X.N xs X.env.scope es = true → PE X (.BoolOp .Or es p) (tX (cn X H0 Gp) W (.or xs))
  | [], _, h, _, _, _, _, _ => absurd rfl h
  | x :: xs, [], _, _, _, _, _, h => by unfold ckL at h; cases h
  | [x], [e], _, hb, hs, hh, hc, h => by
    unfold ckL at h
    rw [Bool.and_eq_true, Bool.and_eq_true] at h
    unfold calL at hc
    have hh1 : hot = true → hotOk x = true := fun z => by have := hh z; unfold hotOkL at this; rw [Bool.and_eq_true] at this; exact this.1
    have hb1 : nb x = true := by simpa using hb
    refine pe_imp (pe_one ((hs x List.mem_cons_self).pe (H0 := H0) (Gp := Gp) G tk hh1 hc.1 h.1.1)) fun σ H Q q => ?_
    obtain ⟨ρ, er, q⟩ := q
    unfold ev evOr at q
    refine ⟨ρ, er, ?_⟩
    cases e1 : ev ρ x with
    | ok d => rw [e1] at q; exact fun v H' po => q v H' (.plain po.same (po.rp hb1) rfl)
    | exc k => rw [e1] at q; exact q
    | bad => rw [e1] at q; exact q
  | [x], _ :: _ :: _, _, _, _, _, _, h => by unfold ckL at h; rw [Bool.and_eq_true] at h; have := h.2; unfold ckL at this; cases this
  | x :: y :: xs, [e], _, _, _, _, _, h => by unfold ckL at h; rw [Bool.and_eq_true] at h; have := h.2; unfold ckL at this; cases this
  | x :: y :: xs, e :: f :: es, _, hb, hs, hh, hc, h => by
    unfold ckL at h
    rw [Bool.and_eq_true, Bool.and_eq_true] at h
    unfold calL at hc
    have hh1 : hot = true → hotOk x = true := fun z => by have := hh z; unfold hotOkL at this; rw [Bool.and_eq_true] at this; exact this.1
    have hh2 : hot = true → hotOkL (y :: xs) = true := fun z => by have := hh z; unfold hotOkL at this; rw [Bool.and_eq_true] at this; exact this.2
    rw [List.all_cons, Bool.and_eq_true] at hb
    refine pe_imp (pe_or ((hs x List.mem_cons_self).pe (H0 := H0) (Gp := Gp) G tk hh1 hc.1 h.1.1) (pe_orL G tk (by simp) hb.2 (fun z hz => hs z (List.mem_cons_of_mem _ hz)) hh2 hc.2 h.2)) fun σ H Q q => ?_
    obtain ⟨ρ, er, q⟩ := q
    unfold ev evOr at q
    refine tX_then er q fun d v H1 e1 po er1 q1 => ?_
    split at q1
    · cases po.rb.bl
      exact ⟨true, rfl, iteT (q1 _ _ (.plain po.same (.bl _) rfl))⟩
    · cases po.rb.bl
      refine ⟨false, rfl, iteF ⟨ρ, er1, ?_⟩⟩
      unfold ev
      cases e2 : evOr ρ (y :: xs) with
      | ok d => rw [e2] at q1; exact fun v H' po2 => q1 v H' (.plain (po.same.trans po2.same) (po2.rp rfl) rfl)
      | exc k => rw [e2] at q1; exact q1
      | bad => rw [e2] at q1; exact q1
    · exact q1.elim
theorem pw_andL (G : Good tb tg X hot) (tk : TakesF X W) {p : Pos} : ∀ {xs : List Ex} {es : List Expr}, xs ≠ [] → (∀ x ∈ xs, Snd x) → (hot = true → hotOkL xs = true) → calL tb tg xs → ckL X.N xs X.env.scope es = true → PW X (.BoolOp .And es p) (tT (cn X H0 Gp) W (.and xs))
  | [], _, h, _, _, _, _ => absurd rfl h
  | x :: xs, [], _, _, _, _, h => by unfold ckL at h; cases h
  | [x], [e], _, hs, hh, hc, h => by
    unfold ckL at h
    rw [Bool.and_eq_true, Bool.and_eq_true] at h
    unfold calL at hc
    have hh1 : hot = true → hotOk x = true := fun z => by have := hh z; unfold hotOkL at this; rw [Bool.and_eq_true] at this; exact this.1
    have b := pw_and1 (pos := p) ((hs x List.mem_cons_self).pt (H0 := H0) (Gp := Gp) G tk hh1 hc.1 h.1.1)
    refine ⟨fun whole pins s σ H Q I q => b.run whole pins s σ H Q I ?_⟩
    obtain ⟨ρ, er, q⟩ := q
    unfold tst ev evAnd at q
    exact ⟨ρ, er, q⟩
  | [x], _ :: _ :: _, _, _, _, _, h => by unfold ckL at h; rw [Bool.and_eq_true] at h; have := h.2; unfold ckL at this; cases this
  | x :: y :: xs, [e], _, _, _, _, h => by unfold ckL at h; rw [Bool.and_eq_true] at h; have := h.2; unfold ckL at this; cases this
  | x :: y :: xs, e :: f :: es, _, hs, hh, hc, h => by
    unfold ckL at h
    rw [Bool.and_eq_true, Bool.and_eq_true] at h
    unfold calL at hc
    have hh1 : hot = true → hotOk x = true := fun z => by have := hh z; unfold hotOkL at this; rw [Bool.and_eq_true] at this; exact this.1
    have hh2 : hot = true → hotOkL (y :: xs) = true := fun z => by have := hh z; unfold hotOkL at this; rw [Bool.and_eq_true] at this; exact this.2
    have b := pw_and (pos := p) ((hs x List.mem_cons_self).pt (H0 := H0) (Gp := Gp) G tk hh1 hc.1 h.1.1) (pw_andL G tk (by simp) (fun z hz => hs z (List.mem_cons_of_mem _ hz)) hh2 hc.2 h.2)
    refine ⟨fun whole pins s σ H Q I q => b.run whole pins s σ H Q I ?_⟩
    obtain ⟨ρ, er, q⟩ := q
    unfold tst ev evAnd at q
    refine ⟨ρ, er, ?_⟩
    unfold tst
    cases e1 : ev ρ x with
    | ok d =>
      rw [e1] at q
      cases d with
      | bl b =>
        intro H1 s1
        cases b with
        | true =>
          refine iteT ⟨ρ, er.same s1, ?_⟩
          unfold tst ev
          have q' : ((evAnd ρ (y :: xs)).bind fun d => match truD d with | some b => R.ok b | none => R.bad).all (fun b => ∀ H', Same H H' → Q b H') (fun k => ∀ H', Same H H' → XW (cn X H0 Gp) W k σ H') := q
          have q'' := R.all_later s1 q'
          cases e2 : (evAnd ρ (y :: xs)).bind fun d => match truD d with | some b => R.ok b | none => R.bad with
          | ok b => rw [e2] at q''; exact fun H' s2 => q'' H' (s1.trans s2)
          | exc k => rw [e2] at q''; exact q''
          | bad => rw [e2] at q''; exact q''
        | false => exact iteF (q H1 s1)
      | _ => exact False.elim q
    | exc k => rw [e1] at q; exact q
    | bad => rw [e1] at q; exact q
theorem pw_orL (G : Good tb tg X hot) (tk : TakesF X W) {p : Pos} : ∀ {xs : List Ex} {es : List Expr}, xs ≠ [] → (∀ x ∈ xs, Snd x) → (hot = true → hotOkL xs = true) → calL tb tg xs → ckL X.N xs X.env.scope es = true → PW X (.BoolOp .Or es p) (tT (cn X H0 Gp) W (.or xs))
  | [], _, h, _, _, _, _ => absurd rfl h
  | x :: xs, [], _, _, _, _, h => by unfold ckL at h; cases h
  | [x], [e], _, hs, hh, hc, h => by
    unfold ckL at h
    rw [Bool.and_eq_true, Bool.and_eq_true] at h
    unfold calL at hc
    have hh1 : hot = true → hotOk x = true := fun z => by have := hh z; unfold hotOkL at this; rw [Bool.and_eq_true] at this; exact this.1
    have b := pw_or1 (pos := p) ((hs x List.mem_cons_self).pt (H0 := H0) (Gp := Gp) G tk hh1 hc.1 h.1.1)
    refine ⟨fun whole pins s σ H Q I q => b.run whole pins s σ H Q I ?_⟩
    obtain ⟨ρ, er, q⟩ := q
    unfold tst ev evOr at q
    exact ⟨ρ, er, q⟩
  | [x], _ :: _ :: _, _, _, _, _, h => by unfold ckL at h; rw [Bool.and_eq_true] at h; have := h.2; unfold ckL at this; cases this
  | x :: y :: xs, [e], _, _, _, _, h => by unfold ckL at h; rw [Bool.and_eq_true] at h; have := h.2; unfold ckL at this; cases this
  | x :: y :: xs, e :: f :: es, _, hs, hh, hc, h => by
    unfold ckL at h
    rw [Bool.and_eq_true, Bool.and_eq_true] at h
    unfold calL at hc
    have hh1 : hot = true → hotOk x = true := fun z => by have := hh z; unfold hotOkL at this; rw [Bool.and_eq_true] at this; exact this.1
    have hh2 : hot = true → hotOkL (y :: xs) = true := fun z => by have := hh z; unfold hotOkL at this; rw [Bool.and_eq_true] at this; exact this.2
    have b := pw_or (pos := p) ((hs x List.mem_cons_self).pt (H0 := H0) (Gp := Gp) G tk hh1 hc.1 h.1.1) (pw_orL G tk (by simp) (fun z hz => hs z (List.mem_cons_of_mem _ hz)) hh2 hc.2 h.2)
    refine ⟨fun whole pins s σ H Q I q => b.run whole pins s σ H Q I ?_⟩
    obtain ⟨ρ, er, q⟩ := q
    unfold tst ev evOr at q
    refine ⟨ρ, er, ?_⟩
    unfold tst
    cases e1 : ev ρ x with
    | ok d =>
      rw [e1] at q
      cases d with
      | bl b =>
        intro H1 s1
        cases b with
        | false =>
          refine iteF ⟨ρ, er.same s1, ?_⟩
          unfold tst ev
          have q' : ((evOr ρ (y :: xs)).bind fun d => match truD d with | some b => R.ok b | none => R.bad).all (fun b => ∀ H', Same H H' → Q b H') (fun k => ∀ H', Same H H' → XW (cn X H0 Gp) W k σ H') := q
          have q'' := R.all_later s1 q'
          cases e2 : (evOr ρ (y :: xs)).bind fun d => match truD d with | some b => R.ok b | none => R.bad with
          | ok b => rw [e2] at q''; exact fun H' s2 => q'' H' (s1.trans s2)
          | exc k => rw [e2] at q''; exact q''
          | bad => rw [e2] at q''; exact q''
        | true => exact iteT (q H1 s1)
      | _ => exact False.elim q
    | exc k => rw [e1] at q; exact q
    | bad => rw [e1] at q; exact q
end
theorem snd_and {xs : List Ex} (hs : ∀ x ∈ xs, Snd x) : Snd (.and xs) := by
  refine ⟨fun {X H0 Gp W tb tg hot e} G tk hh hc h => ?_, fun {X H0 Gp W tb tg hot e} G tk hh hc h => ?_⟩
  all_goals
    obtain ⟨es, p, rfl, h1, h2, h3⟩ := ck_and h
    unfold cal at hc
  · exact pe_andL G tk h2 h3 hs (fun z => by have := hh z; unfold hotOk at this; exact this) hc h1
  · exact (pw_andL G tk h2 hs (fun z => by have := hh z; unfold hotOk at this; exact this) hc h1).pt
theorem snd_or {xs : List Ex} (hs : ∀ x ∈ xs, Snd x) : Snd (.or xs) := by
  refine ⟨fun {X H0 Gp W tb tg hot e} G tk hh hc h => ?_, fun {X H0 Gp W tb tg hot e} G tk hh hc h => ?_⟩
  all_goals
    obtain ⟨es, p, rfl, h1, h2, h3⟩ := ck_or h
    unfold cal at hc
  · exact pe_orL G tk h2 h3 hs (fun z => by have := hh z; unfold hotOk at this; exact this) hc h1
  · exact (pw_orL G tk h2 hs (fun z => by have := hh z; unfold hotOk at this; exact this) hc h1).pt
theorem snd_not {x : Ex} (hx : Snd x) : Snd (.not x) := by
  refine ⟨fun {X H0 Gp W tb tg hot e} G tk hh hc h => ?_, fun {X H0 Gp W tb tg hot e} G tk hh hc h => ?_⟩
  all_goals
    obtain ⟨a, p, rfl, h1⟩ := ck_not h
    unfold cal at hc
    have hh1 : hot = true → hotOk x = true := fun z => by have := hh z; unfold hotOk at this; exact this
  · refine pe_imp (pe_notT (hx.pe (H0 := H0) (Gp := Gp) G tk hh1 hc h1)) fun σ H Q q => ?_
    obtain ⟨ρ, er, q⟩ := q
    unfold ev at q
    refine tX_then er q fun d v H1 e1 po er1 q1 => ?_
    split at q1
    · rename_i b hb
      exact ⟨b, tru_of po.rb hb, q1 _ _ (.plain po.same (.bl _) rfl)⟩
    · exact q1.elim
  · refine pt_imp (pt_not (hx.pt (H0 := H0) (Gp := Gp) G tk hh1 hc h1)) fun σ H Q q => ?_
    obtain ⟨ρ, er, q⟩ := q
    refine ⟨ρ, er, ?_⟩
    unfold tst ev at q
    unfold tst
    cases e1 : ev ρ x with
    | ok d =>
      rw [e1] at q
      have q2 : (R.bind (match truD d with | some b => R.ok (D.bl !b) | none => R.bad) fun d => match truD d with | some b => R.ok b | none => R.bad).all (fun b => ∀ H', Same H H' → Q b H') (fun k => ∀ H', Same H H' → XW (cn X H0 Gp) W k σ H') := q
      show (match truD d with | some b => R.ok b | none => R.bad).all _ _
      cases e2 : truD d with
      | some b =>
        rw [e2] at q2
        exact fun H' s => q2 H' s
      | none =>
        rw [e2] at q2
        exact q2
    | exc k => rw [e1] at q; exact q
    | bad => rw [e1] at q; exact q
end OL
namespace OL
open PySem PySem.Spec PyProof.Rows L2
theorem pt_ite {X : Cx} {a b d : Expr} {p : Pos} {ta tb td : TT} (ha : PT X a ta) (hb : PT X b tb) (hd : PT X d td) : PT X (.IfExp a b d p) (fun σ H Q => ta σ H fun k H1 => if k = true then tb σ H1 Q else td σ H1 Q) := by
  constructor
  intro pins s σ H Q I h
  have e : isTrue (.IfExp a b d p) X.env (eval (.IfExp a b d p) X.env) = (do if ← isTrue a X.env (eval a X.env) then isTrue b X.env (eval b X.env) else isTrue d X.env (eval d X.env)) := rfl
  rw [e]
  apply wpAny_bind
  apply thn (ha.run pins s σ H _ I h)
  rintro k s1 ⟨H1, I1, q⟩
  cases k with
  | true => rw [if_pos rfl] at q ⊢; exact hb.run pins s1 σ H1 Q I1 q
  | false => rw [if_neg Bool.false_ne_true] at q ⊢; exact hd.run pins s1 σ H1 Q I1 q
theorem ev_all_po {c : Cn} {W : WX} {x y : Ex} {σ : Sg} {H H1 : Hp} {ρ : En} {Q : VK} {r : R D} (s : Same H H1) (hy : ∀ {H' d v}, Po c σ ρ x H1 H' d v → Po c σ ρ y H H' d v) (e : ev ρ x = r) (q : r.all (fun d => ∀ v H', Po c σ ρ y H H' d v → Q v H') (fun k => ∀ H', Same H H' → XW c W k σ H')) :
    (ev ρ x).all (fun d => ∀ v H', Po c σ ρ x H1 H' d v → Q v H') (fun k => ∀ H', Same H1 H' → XW c W k σ H') := by
  rw [e]
  cases r with
  | ok d => exact fun v H' po => q v H' (hy po)
  | exc k => exact fun H' s' => q H' (s.trans s')
  | bad => exact q
theorem snd_ite {x y z : Ex} (hx : Snd x) (hy : Snd y) (hz : Snd z) : Snd (.ite x y z) := by
  refine ⟨fun {X H0 Gp W tb tg hot e} G tk hh hc h => ?_, fun {X H0 Gp W tb tg hot e} G tk hh hc h => ?_⟩
  all_goals
    have ht : hot = false := by cases hot; rfl; (have := hh rfl; unfold hotOk at this; cases this)
    subst ht
    obtain ⟨a, b, d, p, rfl, h1, h2, h3, h4, h5⟩ := ck_ite h
    unfold cal at hc
    have px := hx.pt (H0 := H0) (Gp := Gp) G tk (fun z => by cases z) hc.1 h1
  · refine pe_imp (pe_ifExp px (hy.pe (H0 := H0) (Gp := Gp) G tk (fun z => by cases z) hc.2.1 h2) (hz.pe (H0 := H0) (Gp := Gp) G tk (fun z => by cases z) hc.2.2 h3)) fun σ H Q q => ?_
    obtain ⟨ρ, er, q⟩ := q
    refine ⟨ρ, er, ?_⟩
    unfold ev at q
    unfold tst
    cases e1 : ev ρ x with
    | ok d =>
      rw [e1] at q
      have q2 : (match truD d with | some true => ev ρ y | some false => ev ρ z | none => R.bad).all (fun d => ∀ v H', Po (cn X H0 Gp) σ ρ (.ite x y z) H H' d v → Q v H') (fun k => ∀ H', Same H H' → XW (cn X H0 Gp) W k σ H') := q
      show (match truD d with | some b => R.ok b | none => R.bad).all _ _
      cases e2 : truD d with
      | some b =>
        rw [e2] at q2
        intro H1 s1
        cases b with
        | true =>
          refine iteT ⟨ρ, er.same s1, ?_⟩
          exact ev_all_po s1 (fun po => .plain (s1.trans po.same) (po.rp h4) rfl) rfl q2
        | false =>
          refine iteF ⟨ρ, er.same s1, ?_⟩
          exact ev_all_po s1 (fun po => .plain (s1.trans po.same) (po.rp h5) rfl) rfl q2
      | none => rw [e2] at q2; exact q2
    | exc k => rw [e1] at q; exact q
    | bad => rw [e1] at q; exact q
  · refine pt_imp (pt_ite px (hy.pt (H0 := H0) (Gp := Gp) G tk (fun z => by cases z) hc.2.1 h2) (hz.pt (H0 := H0) (Gp := Gp) G tk (fun z => by cases z) hc.2.2 h3)) fun σ H Q q => ?_
    obtain ⟨ρ, er, q⟩ := q
    refine ⟨ρ, er, ?_⟩
    unfold tst ev at q
    unfold tst
    cases e1 : ev ρ x with
    | ok d =>
      rw [e1] at q
      have q2 : (R.bind (match truD d with | some true => ev ρ y | some false => ev ρ z | none => R.bad) fun d => match truD d with | some b => R.ok b | none => R.bad).all (fun b => ∀ H', Same H H' → Q b H') (fun k => ∀ H', Same H H' → XW (cn X H0 Gp) W k σ H') := q
      show (match truD d with | some b => R.ok b | none => R.bad).all _ _
      have fin : ∀ {H1 : Hp} {w : Ex}, Same H H1 → ((ev ρ w).bind fun d => match truD d with | some b => R.ok b | none => R.bad).all (fun b => ∀ H', Same H H' → Q b H') (fun k => ∀ H', Same H H' → XW (cn X H0 Gp) W k σ H') → tT (cn X H0 Gp) W w σ H1 Q := fun {H1 w} s1 q3 => by
        refine ⟨ρ, er.same s1, ?_⟩
        unfold tst
        cases e5 : (ev ρ w).bind fun d => match truD d with | some b => R.ok b | none => R.bad with
        | ok b => rw [e5] at q3; exact fun H' s => q3 H' (s1.trans s)
        | exc k => rw [e5] at q3; exact fun H' s => q3 H' (s1.trans s)
        | bad => rw [e5] at q3; exact q3
      cases e2 : truD d with
      | some b =>
        rw [e2] at q2
        intro H1 s1
        cases b with
        | true => exact iteT (fin s1 q2)
        | false => exact iteF (fin s1 q2)
      | none => rw [e2] at q2; exact q2
    | exc k => rw [e1] at q; exact q
    | bad => rw [e1] at q; exact q
theorem snd_ix {x y : Ex} (hx : Snd x) (hy : Snd y) : Snd (.ix x y) := by
  have pe : ∀ {X : Cx} {H0 : Hp} {Gp : GQ} {W : WX} {tb : Fn → Prop} {tg : String → D → Prop} {hot : Bool} {e : Expr}, Good tb tg X hot → TakesF X W → (hot = true → hotOk (.ix x y) = true) → cal tb tg (.ix x y) → ck X.N (.ix x y) X.env.scope e = true → PE X e (tX (cn X H0 Gp) W (.ix x y)) := by
    intro X H0 Gp W tb tg hot e G tk hh hc h
    obtain ⟨a, b, p, rfl, h0, h1, h2⟩ := ck_ix h
    unfold cal at hc
    have hh1 : hot = true → hotOk x = true ∧ hotOk y = true := fun z => by have := hh z; unfold hotOk at this; rw [Bool.and_eq_true] at this; exact this
    refine pe_imp (pe_ix ix_all (hx.pe (H0 := H0) (Gp := Gp) G tk (fun z => (hh1 z).1) hc.1 h1) (hy.pe (H0 := H0) (Gp := Gp) G tk (fun z => (hh1 z).2) hc.2 h2) (plainIx_of h0)) fun σ H Q q => ?_
    obtain ⟨ρ, er, q⟩ := q
    unfold ev at q
    refine tX_then er q fun d v H1 e1 po er1 q1 => ?_
    refine tX_then er1 q1 fun d2 v2 H2 e2 po2 er2 q2 => ?_
    refine ⟨_, fun _ => True, d, d2, po.rb.same po2.same, po2.rb, ?_⟩
    cases e3 : ixD d d2 with
    | ok w => rw [e3] at q2; exact fun u r => q2 u _ (.plain (po.same.trans po2.same) r rfl)
    | exc k => exact trivial
    | bad => rw [e3] at q2; exact q2.elim
  refine ⟨fun G tk hh c h => pe G tk hh c h, fun G tk hh c h => ?_⟩
  obtain ⟨a, b, p, rfl, _⟩ := ck_ix h
  exact pt_gen (pe G tk hh c h) fun _ => rfl
/-- a bound of a slice -/
def tO (c : Cn) (W : WX) (x : Ex) : TO := fun σ H Q => ∃ ρ, ER c H σ ρ ∧ (if isNop x then R.ok none else (ev ρ x).bind optI).all (fun o => ∀ H', Same H H' → Q o H') (fun k => ∀ H', Same H H' → XW c W k σ H')
theorem po_of {X : Cx} {H0 : Hp} {Gp : GQ} {W : WX} {tb : Fn → Prop} {tg : String → D → Prop} {x : Ex} {o : Option Expr} (hx : Snd x) (G : Good tb tg X false) (tk : TakesF X W) (hc : cal tb tg x) (h : ckO X.N x X.env.scope o = true) : PO X o (tO (cn X H0 Gp) W x) := by
  by_cases hn : isNop x = true
  · cases x <;> (try (cases hn; done))
    cases o with
    | some _ => simp [ckO, optC, isNop] at h
    | none =>
      refine ⟨fun pins s σ H Q I q => po_none.run pins s σ H Q I ?_⟩
      obtain ⟨ρ, er, q⟩ := q
      exact q H (Same.refl _)
  · cases o with
    | none => cases x <;> first | (exact absurd rfl hn) | (simp [ckO, optC, isNop] at h)
    | some e =>
      have h1 : ck X.N x X.env.scope e = true := by cases x <;> first | (exact absurd rfl hn) | (unfold ckO at h; exact h)
      have b := po_some (hx.pe (H0 := H0) (Gp := Gp) G tk (fun z => by cases z) hc h1)
      refine ⟨fun pins s σ H Q I q => b.run pins s σ H Q I ?_⟩
      obtain ⟨ρ, er, q⟩ := q
      have hn' : isNop x = false := by simpa using hn
      rw [hn'] at q
      refine tX_then er q fun d v H1 e1 po er1 q1 => ?_
      unfold optI at q1
      split at q1
      · cases po.rb.int; exact ⟨_, rfl, q1 _ po.same⟩
      · exact q1.elim
theorem snd_sl {x y z : Ex} (hx : Snd x) (hy : Snd y) (hz : Snd z) : Snd (.sl x y z) := by
  have pe : ∀ {X : Cx} {H0 : Hp} {Gp : GQ} {W : WX} {tb : Fn → Prop} {tg : String → D → Prop} {hot : Bool} {e : Expr}, Good tb tg X hot → TakesF X W → (hot = true → hotOk (.sl x y z) = true) → cal tb tg (.sl x y z) → ck X.N (.sl x y z) X.env.scope e = true → PE X e (tX (cn X H0 Gp) W (.sl x y z)) := by
    intro X H0 Gp W tb tg hot e G tk hh hc h
    have ht : hot = false := by cases hot; rfl; (have := hh rfl; unfold hotOk at this; cases this)
    subst ht
    obtain ⟨a, l, u, p, p2, rfl, h1, h2, h3⟩ := ck_sl h
    unfold cal at hc
    refine pe_imp (pe_slice sl_all (hx.pe (H0 := H0) (Gp := Gp) G tk (fun z => by cases z) hc.1 h1) (po_of (H0 := H0) (Gp := Gp) hy G tk hc.2.1 h2) (po_of (H0 := H0) (Gp := Gp) hz G tk hc.2.2 h3)) fun σ H Q q => ?_
    obtain ⟨ρ, er, q⟩ := q
    unfold ev at q
    refine tX_then er q fun d v H1 e1 po er1 q1 => ?_
    refine ⟨ρ, er1, ?_⟩
    cases e2 : (if isNop y then R.ok none else (ev ρ y).bind optI) with
    | ok l =>
      rw [e2] at q1
      intro H2 s2
      refine ⟨ρ, er1.same s2, ?_⟩
      have q1' : ((if isNop z then R.ok none else (ev ρ z).bind optI).bind fun h => slD d l h).all (fun d => ∀ v H', Po (cn X H0 Gp) σ ρ (.sl x y z) H H' d v → Q v H') (fun k => ∀ H'', Same H1 H'' → XW (cn X H0 Gp) W k σ H'') := q1
      cases e3 : (if isNop z then R.ok none else (ev ρ z).bind optI) with
      | ok u =>
        rw [e3] at q1'
        intro H3 s3
        refine ⟨_, fun _ => True, d, (po.rb.same s2).same s3, ?_⟩
        have q2 : (slD d l u).all (fun d => ∀ v H', Po (cn X H0 Gp) σ ρ (.sl x y z) H H' d v → Q v H') (fun k => ∀ H'', Same H1 H'' → XW (cn X H0 Gp) W k σ H'') := q1'
        cases e4 : slD d l u with
        | ok w => rw [e4] at q2; exact fun u H' nw => q2 u H' (nw.po er ((po.same.trans s2).trans s3))
        | exc k => exact trivial
        | bad => rw [e4] at q2; exact q2.elim
      | exc k => rw [e3] at q1'; exact fun H'' s => q1' H'' (s2.trans s)
      | bad => rw [e3] at q1'; exact q1'.elim
    | exc k => rw [e2] at q1; exact q1
    | bad => rw [e2] at q1; exact q1.elim
  refine ⟨fun G tk hh c h => pe G tk hh c h, fun G tk hh c h => ?_⟩
  obtain ⟨a, l, u, p, p2, rfl, _⟩ := ck_sl h
  exact pt_gen (pe G tk hh c h) fun _ => rfl
theorem vals_rp {K : PySem.W.Frag} {mg : Str → Option Value} {H : Hp} {Z : Addr → Prop} : ∀ {ds : List D}, ds.all scalD = true → RpA K mg H Z ds (ds.map valD)
  | [], _ => .nil
  | d :: ds, h => by
    rw [List.all_cons, Bool.and_eq_true] at h
    exact .cons (rp_scal h.1) (vals_rp h.2)
theorem snd_call {f : Fn} {fl : Bool} {xs : List Ex} (hs : ∀ x ∈ xs, Snd x) : Snd (.call f fl xs) := by
  have pe : ∀ {X : Cx} {H0 : Hp} {Gp : GQ} {W : WX} {tb : Fn → Prop} {tg : String → D → Prop} {hot : Bool} {e : Expr}, Good tb tg X hot → TakesF X W → (hot = true → hotOk (.call f fl xs) = true) → cal tb tg (.call f fl xs) → ck X.N (.call f fl xs) X.env.scope e = true → PE X e (tX (cn X H0 Gp) W (.call f fl xs)) := by
    intro X H0 Gp W tb tg hot e G tk hh hc h
    have ht : hot = false := by cases hot; rfl; (have := hh rfl; unfold hotOk at this; cases this)
    subst ht
    obtain ⟨q0, es, p, rfl, h1, h2, h3, h4, h5, h6⟩ := ck_call h
    unfold cal at hc
    obtain ⟨⟨k, fa, fd, ps, vds, F, hr, hm, hk, hb, hv, hlen⟩, hdf⟩ := G.calls rfl f hc.1
    unfold spG at F
    rw [h6] at F
    replace F : FnOk X.prog X.w X.K X.mg X.base (L2.CX X.prog X.w) k fa fd ps (spF X.K X.mg f.run f.fr ps.length) := F
    cases es with
    | nil =>
      cases xs with
      | nil => exact absurd rfl h4
      | cons _ _ => unfold ckL at h3; cases h3
    | cons e1 es1 =>
      cases xs with
      | nil => exact absurd rfl h4
      | cons x1 xs1 =>
        have h3' := h3
        unfold ckL at h3'
        rw [Bool.and_eq_true, Bool.and_eq_true] at h3'
        refine pe_imp (pe_callD F hr hb hv (gl_of h1) hm hk (fun σ => passAt tk.1 σ) (pa_of (H0 := H0) (Gp := Gp) G tk hs (fun z => by cases z) hc.2 h3) (dbg_of h2).1 (star_of h3'.1.2 es1 X.env) (nostars h3'.2 X.env p)) fun σ H Q q => ?_
        obtain ⟨ρ, er, q⟩ := q
        unfold ev at q
        refine tA_then er q fun ds vs H1 ee po er1 q1 => ?_
        have hl : (ds ++ f.dfl).length = ps.length := hlen _ fun z => by rw [z] at q1; exact q1
        -- what the arguments are, by what Z
        have args : ∃ Z : Addr → Prop, RpA X.K X.mg H1 Z (ds ++ f.dfl) (vs ++ f.dfl.map valD) ∧ (fl = true ∨ ∀ a, Z a → Zf (cn X H0 Gp) σ ρ a) := by
          rcases h5 with h5 | h5
          · exact ⟨fun _ => True, po.rb.top.append (vals_rp hdf), .inl h5⟩
          · exact ⟨Zf (cn X H0 Gp) σ ρ, (po.rp h5).append (vals_rp hdf), .inr fun _ z => z⟩
        obtain ⟨Z, ra, hz⟩ := args
        refine ⟨by rw [← ra.length]; exact hl, Z, _, ra, ?_⟩
        cases e3 : f.run (ds ++ f.dfl) with
        | ok w =>
          rw [e3] at q1
          intro v H' s' r' fr'
          have q2 : (if fl && !flat w then R.bad else R.ok w).all (fun d => ∀ v H', Po (cn X H0 Gp) σ ρ (.call f fl (x1 :: xs1)) H H' d v → Q v H') (fun k => ∀ H'', Same H1 H'' → XW (cn X H0 Gp) W k σ H'') := q1
          split at q2
          · exact q2.elim
          · rename_i hf
            have q3 : ∀ v H', Po (cn X H0 Gp) σ ρ (.call f fl (x1 :: xs1)) H H' w v → Q v H' := q2
            have nz : ∀ a, H1 a = none → Zf (cn X H0 Gp) σ ρ a := fun a ha => er1.newZ ha
            rcases hz with hz | hz
            · have fw : flat w = true := by
                cases e4 : flat w with
                | true => rfl
                | false => exact absurd (by rw [hz, e4]; rfl) hf
              refine q3 _ _ (.noL (po.same.trans s') (r'.flat fw) fun ds z => ?_)
              subst z
              unfold flat at fw
              cases fw
            · have zz : ∀ a, (Z a ∨ H1 a = none) → Zf (cn X H0 Gp) σ ρ a := fun a z => z.elim (hz a) (nz a)
              have r2 : Rp X.K X.mg H' (Zf (cn X H0 Gp) σ ρ) w v := r'.weak fun a _ _ z => zz a z
              refine q3 _ _ ⟨po.same.trans s', .p r2, fun _ => r2, fun g ds z => ?_⟩
              obtain ⟨a, ys, e5, e6, e7, e8⟩ := fr' g ds z
              exact ⟨a, ys, e5, po.same.free e6, e7, e8.weak fun b _ _ z => ⟨zz b z.1, z.2⟩⟩
        | exc k =>
          rw [e3] at q1
          intro C H' ie m s'
          exact q1 H' s' C ie m
        | bad => rw [e3] at q1; exact q1
  refine ⟨fun G tk hh c h => pe G tk hh c h, fun G tk hh c h => ?_⟩
  obtain ⟨q0, es, p, rfl, _⟩ := ck_call h
  exact pt_gen (pe G tk hh c h) fun _ => rfl
end OL
/-! xs[a:c] = a new list, c past the end too (the kit's set_slice wants c within) -/
namespace OL
open PySem PySem.Spec PyProof.Rows L2
theorem bounds_any {a c n : Nat} (ha : a ≤ n) : sliceBounds (some (a : Int)) (some (c : Int)) none n = ((a : Int), ((min c n : Nat) : Int), 1) := by
  simp only [sliceBounds, Option.getD_none]
  have h1 : ¬ ((a : Int) < 0) := by omega
  have h2 : ¬ ((c : Int) < 0) := by omega
  simp only [h1, h2, if_false, show (1 : Int) > 0 by decide, if_true]
  congr 1
  · omega
  · congr 1; omega
section
variable {prog : Program} {w : World} {A : Around} {E : Value → Shared → Prop} {s : Shared}
theorem setItem_any {l b sl : Addr} {items new : Array Value} {n n2 : Nat} {vl vu : Value} {a c : Nat} {Q : Unit → Shared → Prop}
    (e : s.heap.get? l = some { cls := .type "list", data := .seq items n }) (e2 : s.heap.get? b = some { cls := .type "list", data := .seq new n2 }) (hne : l ≠ b)
    (hs : s.heap.IsSliceOf sl vl vu .none) (pl : IsPart vl (some (a : Int))) (pu : IsPart vu (some (c : Int))) (hac : a ≤ c) (ha : a ≤ items.size)
    (hsz : items.size + new.size ≤ sizeLine) (h : Q () { s with heap := s.heap.update l (Obj.mapSeq fun xs => xs.extract 0 a ++ new ++ xs.extract (min c items.size) xs.size) }) :
    wpAny (model prog w) A (setItem (.ref l) (.ref sl) (.ref b)) Q E s := by
  have hl : s.heap.IsList l items := PySem.IsL.isList e
  have hb : s.heap.IsList b new := PySem.IsL.isList e2
  obtain ⟨os, hos, hcs, hds⟩ := id hs
  have hTs : s.TypeIs (.ref sl) "slice" := ⟨os, hos, hcs⟩
  have hstep : ¬ ((rawPart none == rawInt 0) = true) := Bool.false_ne_true
  have hsame : Builtin.List.listSameRef (.ref l) (.ref b) = false := by
    unfold Builtin.List.listSameRef
    exact beq_eq_false_iff_ne.mpr hne
  have hmax : (max (a : Int) ((min c items.size : Nat) : Int)).toNat = min c items.size := by omega
  have hz' : ((fun xs : Array Value => xs.extract 0 a ++ new ++ xs.extract (min c items.size) xs.size) items).size ≤ sizeLine + 1 := by
    simp only [Array.size_append, Array.size_extract]
    omega
  unfold setItem
  try with_reducible refine wpAny_holding ?_
  first | refine wpAny_bind (wpAny_pure ?_) | skip
  refine wpAny_bind (wpAny_sequenceKey hl.typeIs (by decide) ?_)
  refine wpAny_bind (wpAny_callSpecial?_slot (name := Str.ofString "__setitem__") hl.typeIs slot_list_setitem
    (wpAny_call_entry slot_list_setitem hl.typeIs entry_list_setitem ?_ (args_list_setitem _ _ _)))
  show wpAny _ _ (Builtin.List.listSubscript? (.ref sl) >>= _) _ _ s
  refine wpAny_bind ?_
  unfold Builtin.List.listSubscript?
  refine wpAny_bind (wpAny_specialOf hTs slice_no_index ?_)
  simp only [Option.isNone_none, if_true]
  refine wpAny_pure ?_
  show wpAny _ _ (typeOf (.ref sl) >>= _) _ _ s
  refine wpAny_bind (wpAny_typeOf hTs ?_)
  first
    | rw [if_neg (by decide)]
    | refine PySem.W.KFB.if_not (by decide) ?_
  rw [listSliceParts_eq]
  refine wpAny_bind (wpAny_bind (wpAny_field hos hds (x := .none) rfl (wpAny_bind (wpAny_listPart .none ?_))))
  rw [if_neg hstep]
  refine wpAny_bind (wpAny_field hos hds (x := vl) rfl (wpAny_bind (wpAny_listPart pl ?_)))
  refine wpAny_bind (wpAny_field hos hds (x := vu) rfl (wpAny_bind (wpAny_listPart pu (wpAny_pure ?_))))
  first
    | simp only [hsame, Bool.false_eq_true, if_false]
    | refine PySem.W.KFB.if_not hsame ?_
    | (dsimp only
       rw [if_neg (by rw [hsame]; exact Bool.false_ne_true)])
  refine wpAny_bind (m := Builtin.List.listAllItems (.ref b) "must assign iterable to extended slice") ?_
  unfold Builtin.List.listAllItems
  refine wpAny_bind (wpAny_typeOf hb.typeIs ?_)
  first
    | refine PySem.W.KFB.if_so (by decide) ?_
    | rw [if_pos (by decide)]
    | simp only [beq_self_eq_true, Bool.true_or, if_true]
  unfold Builtin.List.listItems
  refine wpAny_bind (wpAny_seqItems e2 rfl (wpAny_pure ?_))
  refine wpAny_bind (wpAny_bind (wpAny_seqItems e rfl (wpAny_pure ?_)))
  refine wpAny_bind (wpAny_of_eq ((sliceIndices_raw (some (a : Int)) (some (c : Int)) none items.size (by simp)).trans (congrArg (pure : Int × Int × Int → Sem (Int × Int × Int)) (bounds_any ha))) ?_)
  show wpAny _ _ (if ((1 : Int) == 1) = true then _ else _) _ _ s
  rw [if_pos (by decide)]
  refine wpAny_bind (wpAny_rule ?_)
  first
    | simp only [notLongL hsz, Bool.false_eq_true, if_false]
    | refine PySem.W.KFB.if_not (notLongL hsz) ?_
  first | refine wpAny_bind (wpAny_pure ?_) | skip
  show wpAny _ _ (updateSeq l (fun xs => xs.extract 0 ((a : Int)).toNat ++ new ++ xs.extract (max (a : Int) ((min c items.size : Nat) : Int)).toNat xs.size) >>= _) _ _ s
  rw [hmax, Int.toNat_natCast]
  refine wpAny_bind (wpAny_updateSeq (hz := Nat.le_trans (Nat.le_add_right _ _) hsz) (_hz' := hz') e rfl ?_)
  refine wpAny_bind (wpAny_letGo ?_)
  first
    | exact wpAny_bind (wpAny_pure (wpAny_pure ⟨.none, rfl, wpAny_pure h⟩))
    | exact wpAny_pure ⟨.none, rfl, wpAny_pure h⟩
end
theorem drop_min {α : Type} (xs : List α) (c : Nat) : xs.drop (min c xs.length) = xs.drop c := by
  by_cases h : c ≤ xs.length
  · rw [Nat.min_eq_left h]
  · rw [Nat.min_eq_right (by omega), List.drop_length, List.drop_eq_nil_of_le (by omega)]
section
variable {X : Cx}
theorem set_any {pins : List (Addr × Obj)} {s : Shared} {σ : Sg} {H : Hp} {l b sl : Addr} {xs ys : List V} {a c : Int} {vl vu : Value} {Q : Unit → Shared → Prop} (I : Inv X pins σ H s)
    (hH : H l = some (.lst xs)) (hB : H b = some (.lst ys)) (hne : l ≠ b) (hs : s.heap.IsSliceOf sl vl vu .none) (ra : IsPart vl (some a)) (rc : IsPart vu (some c)) (h0 : 0 ≤ a) (ha : a ≤ xs.length) (hac : a ≤ c)
    (hz : xs.length + ys.length ≤ sizeLine) (h : ∀ s', Inv X pins σ (upd H l (.lst (xs.take a.toNat ++ ys ++ xs.drop c.toNat))) s' → Q () s') :
    wpAny (model X.prog X.w) X.A (setItem (.ref l) (.ref sl) (.ref b)) Q X.xe s := by
  obtain ⟨z, its, n, r, hl, e⟩ := I.lstM hH
  obtain ⟨z2, its2, n2, r2, hl2, e2⟩ := I.lstM hB
  obtain ⟨a', rfl⟩ := Int.eq_ofNat_of_zero_le h0
  obtain ⟨c', rfl⟩ := Int.eq_ofNat_of_zero_le (Int.le_trans h0 hac)
  simp only [Int.toNat_natCast] at h
  refine setItem_any (a := a') (c := c') e e2 hne hs ra rc (by omega) (by rw [List.size_toArray]; omega) (by rw [List.size_toArray, List.size_toArray]; omega) (h _ ?_)
  refine I.lset (its' := its.take a' ++ its2 ++ its.drop (min c' its.length)) (t' := s.toks) hH e ?_ ?_ ?_
  · rw [List.size_toArray]
    exact splice_eq its its2 a' (min c' its.length)
  · rw [drop_min]
    exact Vals.append (Vals.append (r.take _) r2) (r.drop _)
  · rw [List.length_append, List.length_append, List.length_take, List.length_drop]
    omega
/-- o[lo:hi] = .. -/
def gSls (to : TE) (tl th : TO) : TG := fun v σ H Q => to σ H fun o H1 => tl σ H1 fun l H2 => th σ H2 fun u H3 => ∃ p b xs ys a c, o = .ref p ∧ v = .ref b ∧ l = some a ∧ u = some c ∧ H3 p = some (.lst xs) ∧ H3 b = some (.lst ys) ∧ p ≠ b ∧
  0 ≤ a ∧ a ≤ (xs.length : Int) ∧ a ≤ c ∧ xs.length + ys.length ≤ sizeLine ∧ Q σ (upd H3 p (.lst (xs.take a.toNat ++ ys ++ xs.drop c.toNat)))
theorem pg_sls {o : Expr} {lo hi : Option Expr} {p2 pos : Pos} {to : TE} {tl th : TO} (ho : PE X o to) (hl : PO X lo tl) (hu : PO X hi th) : PG X (.Subscript o (.Slice lo hi none p2) pos) (gSls to tl th) := by
  refine ⟨fun pins s σ H v u Q I r h => ?_⟩
  have ha : ∀ v, assign (.Subscript o (.Slice lo hi none p2) pos) X.env v = (do
      let ov ← holding [v] (eval o X.env)
      let iv ← holding [v, ov] (eval (.Slice lo hi none p2) X.env)
      standAt pos
      holding [v, ov, iv] (setItem ov iv v)
      release [iv, v, ov] []) := by intro _; rfl
  rw [ha]
  refine wpAny_bind (wpAny_holding (thn (ho.run pins s σ H _ I h) fun ov s1 ⟨x, H1, I1, r1, q1⟩ => ?_))
  refine wpAny_bind (wpAny_holding (wpAny_Slice (thn (hl.run pins s1 σ H1 _ I1 q1) fun vl s2 ⟨l, H2, I2, pl, q2⟩ => thn (hu.run pins s2 σ H2 _ I2 q2) fun vu s3 ⟨w, H3, I3, pu, q3⟩ => ?_)))
  rw [evalPart_none]
  refine wpAny_pure ?_
  have I4 : Inv X pins σ H3 { s3 with heap := s3.heap.push { cls := .type "slice", data := .fields #[vl, vu, .none] } } := I3.kept (t' := s3.toks) fun b ob q => Heap.get?_push_of_some _ q
  obtain ⟨p, b, xs, ys, a, c, rfl, rfl, rfl, rfl, f1, f2, ne, h0, h1, h2, hz, q⟩ := q3
  cases r1
  cases r
  refine wpAny_bind (wpAny_standAt (wpAny_bind (wpAny_holding (set_any I4 f1 f2 ne (Heap.IsSliceOf.new ..) pl pu h0 h1 h2 hz fun s' I' => ?_))))
  exact wpAny_release ⟨σ, _, I', q⟩
end
end OL
namespace OL
open PySem PySem.Spec PyProof.Rows L2
theorem boot_all2 : ∀ b : Blt, bootBuiltins (bltName b) = some (bltV b)
  | .len => PySem.boot_len | .abs => PyProof.Rows.boot_abs | .max => PyProof.Rows.boot_max | .min => PyProof.Rows.boot_min | .all => PyProof.Rows.boot_all | .any => PyProof.Rows.boot_any
  | .int => PyProof.Rows.boot_int | .str => PyProof.Rows.boot_str | .list => PyProof.Rows.boot_list | .tuple => PyProof.Rows.boot_tuple | .bool => PyProof.Rows.boot_bool
theorem blt_plain : ∀ b : Blt, bltName b ≠ "__name__" ∧ (bltName b == ("__debug__" : Str)) = false := by
  intro b
  cases b <;> exact ⟨by decide, by decide⟩
theorem pe_blt {X : Cx} {b : Blt} {e : Expr} {es : List Expr} {t : TA} {q p : Pos} (dg : PySem.W.nsIn X.K cStatics "sys.int_max_str_digits" = some none) (hc : (b = .max ∨ b = .min ∨ b = .all ∨ b = .any) → X.calm = true) (hg : Gl X (bltName b)) (hm : X.mg (bltName b) = none) (ha : PA X (e :: es) t)
    (he : starEach (e :: es) X.env = (false, eval e X.env) :: starEach es X.env) (hpl : (backTo p (starEach es X.env)).any (·.1) = false) : PE X (.Call (.Name (bltName b) q) (e :: es) [] p) (tCB (rBlt X.K X.mg b) t) := by
  have cb := call_blt (X := X) b dg hc
  have bb := boot_all2 b
  obtain ⟨n1, n2⟩ := blt_plain b
  cases b <;> first | exact pe_callB cb hg hm bb ha n1 n2 he hpl | exact pe_callTy cb hg hm bb ha n1 n2 he hpl
theorem snd_blt {b : Blt} {xs : List Ex} (hs : ∀ x ∈ xs, Snd x) : Snd (.blt b xs) := by
  have pe : ∀ {X : Cx} {H0 : Hp} {Gp : GQ} {W : WX} {tb : Fn → Prop} {tg : String → D → Prop} {hot : Bool} {e : Expr}, Good tb tg X hot → TakesF X W → (hot = true → hotOk (.blt b xs) = true) → cal tb tg (.blt b xs) → ck X.N (.blt b xs) X.env.scope e = true → PE X e (tX (cn X H0 Gp) W (.blt b xs)) := by
    intro X H0 Gp W tb tg hot e G tk hh hc h
    have ht : hot = false := by cases hot; rfl; (have := hh rfl; unfold hotOk at this; cases this)
    subst ht
    obtain ⟨q0, es, p, rfl, h1, h3, h4⟩ := ck_blt h
    unfold cal at hc
    cases es with
    | nil =>
      cases xs with
      | nil => exact absurd rfl h4
      | cons _ _ => unfold ckL at h3; cases h3
    | cons e1 es1 =>
      cases xs with
      | nil => exact absurd rfl h4
      | cons x1 xs1 =>
        have h3' := h3
        unfold ckL at h3'
        rw [Bool.and_eq_true, Bool.and_eq_true] at h3'
        refine pe_imp (pe_blt G.xk.dg (fun _ => G.calm rfl) (gl_of h1) (G.blt b) (pa_of (H0 := H0) (Gp := Gp) G tk hs (fun z => by cases z) hc h3) (star_of h3'.1.2 es1 X.env) (nostars h3'.2 X.env p)) fun σ H Q q => ?_
        obtain ⟨ρ, er, q⟩ := q
        unfold ev at q
        refine tA_then er q fun ds vs H1 ee po er1 q1 => ?_
        refine ⟨_, fun _ => True, ds, po.rb, ?_⟩
        cases e3 : bltD b ds with
        | ok w => rw [e3] at q1; exact fun u H' nw => q1 u H' (nw.po er po.same)
        | exc k => exact trivial
        | bad => rw [e3] at q1; exact q1.elim
  refine ⟨fun G tk hh c h => pe G tk hh c h, fun G tk hh c h => ?_⟩
  obtain ⟨q0, es, p, rfl, _⟩ := ck_blt h
  exact pt_gen (pe G tk hh c h) fun _ => rfl
theorem base_bits {o : Expr} {env : Env} : attributeBase o ("bit_length" : Str) env (eval o env) = eval o env ∨ True := .inr trivial
theorem attr_base {o : Expr} {a : Str} {env : Env} (h : ∀ id p q, o = .Call (.Name id p) [] [] q → False) (t : Sem Value) : attributeBase o a env t = t := by
  unfold attributeBase
  split
  · exact (h _ _ _ rfl).elim
  · rfl
theorem ck_nocall0 {N : List Str} {x : Ex} {sc : Scope} {id : Str} {p q : Pos} (h : ck N x sc (.Call (.Name id p) [] [] q) = true) : False := by
  cases x with
  | call f fl xs =>
    obtain ⟨_, es, _, e, _, _, h3, h4, _⟩ := ck_call h
    cases e
    cases xs <;> first | exact h4 rfl | (unfold ckL at h3; cases h3)
  | blt b xs =>
    obtain ⟨_, es, _, e, _, h3, h4⟩ := ck_blt h
    cases e
    cases xs <;> first | exact h4 rfl | (unfold ckL at h3; cases h3)
  | isi x cs =>
    obtain ⟨_, a, t, p2, e, _⟩ := ck_isi h
    cases e
  | mth m x xs =>
    cases m
    obtain ⟨_, o, ap, p2, e, _⟩ := ck_bitlen h
    cases e
  | _ => unfold ck at h; cases h
theorem snd_mth {m : Mth} {x : Ex} {xs : List Ex} (hx : Snd x) : Snd (.mth m x xs) := by
  cases m
  have pe : ∀ {X : Cx} {H0 : Hp} {Gp : GQ} {W : WX} {tb : Fn → Prop} {tg : String → D → Prop} {hot : Bool} {e : Expr}, Good tb tg X hot → TakesF X W → (hot = true → hotOk (.mth .bitlen x xs) = true) → cal tb tg (.mth .bitlen x xs) → ck X.N (.mth .bitlen x xs) X.env.scope e = true → PE X e (tX (cn X H0 Gp) W (.mth .bitlen x xs)) := by
    intro X H0 Gp W tb tg hot e G tk hh hc h
    have ht : hot = false := by cases hot; rfl; (have := hh rfl; unfold hotOk at this; cases this)
    subst ht
    obtain ⟨rfl, o, ap, p, rfl, h1, h2⟩ := ck_bitlen h
    unfold cal at hc
    refine pe_imp (pe_bits (hx.pe (H0 := H0) (Gp := Gp) G tk (fun z => by cases z) hc.1 h2) (attr_base (fun id p q z => by subst z; exact ck_nocall0 h2) _) h1) fun σ H Q q => ?_
    obtain ⟨ρ, er, q⟩ := q
    unfold ev evs at q
    refine tX_then er q fun d v H1 e1 po er1 q1 => ?_
    have q2 : (mthD .bitlen d []).all (fun d => ∀ v H', Po (cn X H0 Gp) σ ρ (.mth .bitlen x []) H H' d v → Q v H') (fun k => ∀ H'', Same H1 H'' → XW (cn X H0 Gp) W k σ H'') := q1
    unfold mthD at q2
    split at q2
    · cases po.rb.int
      exact ⟨_, rfl, q2 _ _ (.plain po.same (.int _) rfl)⟩
    · exact q2.elim
  refine ⟨fun G tk hh c h => pe G tk hh c h, fun G tk hh c h => ?_⟩
  obtain ⟨_, o, ap, p, rfl, _⟩ := ck_bitlen h
  exact pt_gen (pe G tk hh c h) fun _ => rfl
/-! ### methods of texts -/
def smId : Sm → String
  | .part => "str.partition" | .split => "str.split" | .join => "str.join" | .upper => "str.upper" | .starts => "str.startswith"
theorem slot_sm : ∀ m : Sm, Slot "str" (smName m) (smId m)
  | .part => PySem.F.slot_str_partition | .split => PySem.F.slot_str_split | .join => PySem.F.slot_str_join | .upper => PySem.F.slot_str_upper | .starts => PySem.F.slot_str_startswith
theorem type_sm : ∀ m : Sm, typeOf (Value.builtin (smId m)) = pure (Value.type "method_descriptor")
  | .part => PySem.F.type_str_partition | .split => PySem.F.type_str_split | .join => PySem.F.type_str_join | .upper => PySem.F.type_str_upper | .starts => PySem.F.type_str_startswith
def rSm (K : PySem.W.Frag) (mg : Str → Option Value) (m : Sm) : V → List V → Hp → VK → Prop := fun x vs H Q => ∃ (Z : Addr → Prop) (E : String → Prop) (d : D) (ds : List D), Rb K mg H Z d x ∧ RbA K mg H Z ds vs ∧
  (smD m d ds).all (fun d => ∀ v H', Nw K mg H Z d v H' → Q v H') E
theorem strs_of {K : PySem.W.Frag} {mg : Str → Option Value} {H : Hp} {Z : Addr → Prop} : ∀ {ds : List D} {xs : List V} {ys : List Str}, RpA K mg H Z ds xs → strsOf ds = some ys → xs = ys.map V.str ∧ ds = ys.map D.str
  | [], _, _, .nil, h => by unfold strsOf at h; cases h; exact ⟨rfl, rfl⟩
  | d :: ds, _, ys, .cons r t, h => by
    cases d <;> (unfold strsOf at h) <;> try (cases h; done)
    cases e : strsOf ds with
    | none => rw [e] at h; cases h
    | some zs =>
      rw [e] at h
      cases h
      obtain ⟨a, b⟩ := strs_of t e
      cases r
      subst a b
      exact ⟨rfl, rfl⟩
theorem rpa_strs {K : PySem.W.Frag} {mg : Str → Option Value} {H : Hp} {Z : Addr → Prop} : ∀ ys : List Str, RpA K mg H Z (ys.map D.str) (ys.map V.str)
  | [] => .nil
  | y :: ys => .cons (.str y) (rpa_strs ys)
theorem nb_of {n : Nat} (h : n ≠ 0) : (n == 0) = false := by simpa using h
theorem mt_sm {X : Cx} : ∀ m : Sm, MtR X (smId m) (rSm X.K X.mg m)
  | .part => fun pins s σ H x xs v us Q I rx r h => by
    obtain ⟨Z, E, d, ds, ra, rb, h⟩ := h
    unfold smD at h
    split at h <;> (try (exact h.elim)) <;> rename_i hm <;> (try (cases hm; done))
    split at h
    · rename_i hl
      cases ra.str
      obtain ⟨w, rfl, rw'⟩ := rb.one
      cases rw'.str
      exact mt_partition pins s σ H _ _ v us Q I rx r ⟨_, _, rfl, rfl, nb_of hl.1, by rw [line_eq]; exact hl.2, fun p hp => h _ _ (.nt hp (.cons (.str _) (.cons (.str _) (.cons (.str _) .nil))))⟩
    · exact h.elim
  | .split => fun pins s σ H x xs v us Q I rx r h => by
    obtain ⟨Z, E, d, ds, ra, rb, h⟩ := h
    unfold smD at h
    split at h <;> (try (exact h.elim)) <;> rename_i hm <;> (try (cases hm; done))
    split at h
    · rename_i hl
      cases ra.str
      obtain ⟨w, rfl, rw'⟩ := rb.one
      cases rw'.str
      exact mt_split pins s σ H _ _ v us Q I rx r ⟨_, _, rfl, rfl, nb_of hl.1, by rw [line_eq]; exact hl.2, fun p hp => h _ _ (.nl hp (rpa_strs _))⟩
    · exact h.elim
  | .join => fun pins s σ H x xs v us Q I rx r h => by
    obtain ⟨Z, E, d, ds, ra, rb, h⟩ := h
    unfold smD at h
    split at h <;> (try (exact h.elim)) <;> rename_i hm <;> (try (cases hm; done))
    split at h
    · rename_i ys hy
      split at h
      · rename_i hl
        cases ra.str
        obtain ⟨w, rfl, rw'⟩ := rb.one
        obtain ⟨p, zs, rfl, e2, r2⟩ := rw'.lst
        obtain ⟨e3, _⟩ := strs_of r2 hy
        subst e3
        exact mt_join pins s σ H _ _ v us Q I rx r ⟨_, p, ys, rfl, rfl, .inl (SqL.of e2), hl, h _ _ (.sc rfl)⟩
      · exact h.elim
    · exact h.elim
  | .upper => fun pins s σ H x xs v us Q I rx r h => by
    obtain ⟨Z, E, d, ds, ra, rb, h⟩ := h
    unfold smD at h
    split at h <;> (try (exact h.elim)) <;> rename_i hm <;> (try (cases hm; done))
    split at h
    · rename_i hl
      cases ra.str
      cases rb
      exact mt_upper pins s σ H _ _ v us Q I rx r ⟨_, rfl, rfl, hl, h _ _ (.sc rfl)⟩
    · exact h.elim
  | .starts => fun pins s σ H x xs v us Q I rx r h => by
    obtain ⟨Z, E, d, ds, ra, rb, h⟩ := h
    unfold smD at h
    split at h <;> (try (exact h.elim)) <;> rename_i hm <;> (try (cases hm; done))
    cases ra.str
    obtain ⟨w, rfl, rw'⟩ := rb.one
    cases rw'.str
    exact mt_startswith pins s σ H _ _ v us Q I rx r ⟨_, _, rfl, rfl, h _ _ (.sc rfl)⟩
theorem ck_sm {N : List Str} {sc : Scope} {e : Expr} {m : Sm} {x : Ex} {xs : List Ex} (h : ck N (.sm m x xs) sc e = true) : ∃ o ap es p, e = .Call (.Attribute o (smName m) ap) es [] p ∧ (ap.endLine == p.line) = true ∧ ck N x sc o = true ∧ ckL N xs sc es = true ∧ xs.length = smAr m := by
  unfold ck at h
  split at h <;> (try (cases h; done)) <;> (rename_i heq; cases heq)
  simp only [Bool.and_eq_true, beq_iff_eq, decide_eq_true_eq] at h
  obtain ⟨⟨⟨⟨rfl, h1⟩, h2⟩, h3⟩, h4⟩ := h
  exact ⟨_, _, _, _, rfl, by rw [beq_iff_eq]; exact h1, h2, h3, h4⟩
theorem tX_imp {c : Cn} {W : WX} {x : Ex} {σ : Sg} {H : Hp} {Q Q' : VK} (h : tX c W x σ H Q) (i : ∀ v H', Q v H' → Q' v H') : tX c W x σ H Q' := by
  obtain ⟨ρ, er, q⟩ := h
  refine ⟨ρ, er, ?_⟩
  cases e : ev ρ x with
  | ok d => rw [e] at q; exact fun v H' po => i v H' (q v H' po)
  | exc k => rw [e] at q; exact q
  | bad => rw [e] at q; exact q
theorem snd_sm {m : Sm} {x : Ex} {xs : List Ex} (hx : Snd x) (hs : ∀ y ∈ xs, Snd y) : Snd (.sm m x xs) := by
  have pe : ∀ {X : Cx} {H0 : Hp} {Gp : GQ} {W : WX} {tb : Fn → Prop} {tg : String → D → Prop} {hot : Bool} {e : Expr}, Good tb tg X hot → TakesF X W → (hot = true → hotOk (.sm m x xs) = true) → cal tb tg (.sm m x xs) → ck X.N (.sm m x xs) X.env.scope e = true → PE X e (tX (cn X H0 Gp) W (.sm m x xs)) := by
    intro X H0 Gp W tb tg hot e G tk hh hc h
    have ht : hot = false := by cases hot; rfl; (have := hh rfl; unfold hotOk at this; cases this)
    subst ht
    obtain ⟨o, ap, es, p, rfl, h1, h2, h3, h4⟩ := ck_sm h
    unfold cal at hc
    have ab : attributeBase o (smName m) X.env (eval o X.env) = eval o X.env := attr_base (fun id p q z => by subst z; exact ck_nocall0 h2) _
    have px := hx.pe (H0 := H0) (Gp := Gp) G tk (fun z => by cases z) hc.1 h2
    have fin : ∀ {σ : Sg} {H : Hp} {ρ : En} {Q : VK} (er : ER (cn X H0 Gp) H σ ρ) (q : ((ev ρ x).bind fun d => if !isSt d then .bad else (evs ρ xs).bind fun ds => smD m d ds).all (fun d => ∀ v H', Po (cn X H0 Gp) σ ρ (.sm m x xs) H H' d v → Q v H') (fun k => ∀ H', Same H H' → XW (cn X H0 Gp) W k σ H')),
        tX (cn X H0 Gp) W x σ H fun v H1 => tyV X.K "str" v H1 ∧ tA (cn X H0 Gp) W xs σ H1 fun vs H2 => rSm X.K X.mg m v vs H2 Q := fun {σ H ρ Q} er q => by
      refine tX_then er q fun d v H1 e1 po er1 q1 => ?_
      have hd : ∃ a, d = .str a := by cases d <;> first | exact ⟨_, rfl⟩ | exact False.elim q1
      obtain ⟨a, rfl⟩ := hd
      cases po.rb.str
      refine ⟨rfl, tA_then er1 q1 fun ds vs H2 e2 po2 er2 q2 => ?_⟩
      refine ⟨_, fun _ => True, .str a, ds, .p (.str a), po2.rb, ?_⟩
      cases e3 : smD m (.str a) ds with
      | ok w => rw [e3] at q2; exact fun u H' nw => q2 u H' (nw.po er (po.same.trans po2.same))
      | exc k => exact trivial
      | bad => rw [e3] at q2; exact q2.elim
    cases xs with
    | nil =>
      cases es with
      | cons _ _ => unfold ckL at h3; cases h3
      | nil =>
        refine pe_imp (pe_bm0 PySem.F.plainAttrs_str (slot_sm m) (type_sm m) (mt_sm m) px ab h1) fun σ H Q q => ?_
        obtain ⟨ρ, er, q⟩ := q
        unfold ev at q
        refine tX_imp (fin er q) fun v H1 w => ⟨w.1, ?_⟩
        obtain ⟨ρ1, er1, q1⟩ := w.2
        unfold evs at q1
        exact q1 [] H1 ⟨Same.refl _, .nil, fun _ => .nil⟩
    | cons y ys =>
      cases es with
      | nil => unfold ckL at h3; cases h3
      | cons e1 es1 =>
        have h3' := h3
        unfold ckL at h3'
        rw [Bool.and_eq_true, Bool.and_eq_true] at h3'
        have hy : ys = [] := by
          cases m <;> (unfold smAr at h4; simp at h4) <;> exact h4
        subst hy
        have hz : es1 = [] := by
          cases es1 with
          | nil => rfl
          | cons _ _ => have z := h3'.2; unfold ckL at z; cases z
        subst hz
        refine pe_imp (pe_bm PySem.F.plainAttrs_str (slot_sm m) (type_sm m) (mt_sm m) px (pa_of (H0 := H0) (Gp := Gp) G tk hs (fun z => by cases z) hc.2 h3) ab (by rw [star_of h3'.1.2 [] X.env]; rfl) h1 (star_of h3'.1.2 [] X.env) (nostars h3'.2 X.env p)) fun σ H Q q => ?_
        obtain ⟨ρ, er, q⟩ := q
        unfold ev at q
        exact fin er q
  refine ⟨fun G tk hh c h => pe G tk hh c h, fun G tk hh c h => ?_⟩
  obtain ⟨o, ap, es, p, rfl, _⟩ := ck_sm h
  exact pt_gen (pe G tk hh c h) fun _ => rfl
/-! ### isinstance -/
theorem boot_ty {k : String} (h : tyName k = true) : bootBuiltins (Str.ofString k) = some (.type k) ∧ Str.ofString k ∈ othN ∧ Str.ofString k ≠ "__name__" ∧ (Str.ofString k == ("__debug__" : Str)) = false := by
  unfold tyName at h
  split at h <;> first | (cases h; done) | skip
  · exact ⟨PyProof.Rows.boot_int, by decide, by decide, by decide⟩
  · exact ⟨PyProof.Rows.boot_bool, by decide, by decide, by decide⟩
  · exact ⟨PyProof.Rows.boot_str, by decide, by decide, by decide⟩
  · exact ⟨PyProof.Rows.boot_list, by decide, by decide, by decide⟩
  · exact ⟨PyProof.Rows.boot_tuple, by decide, by decide, by decide⟩
  · exact ⟨PyProof.Rows.boot_dict, by decide, by decide, by decide⟩
section
variable {X : Cx} {tb : Fn → Prop} {tg : String → D → Prop} {hot : Bool}
theorem pe_ty (G : Good tb tg X hot) {k : String} {p : Pos} (hk : tyName k = true) (hg : glB X.env.scope (Str.ofString k) = true) : PE X (.Name (Str.ofString k) p) (tC (.ty k)) := by
  obtain ⟨h1, h2, h3, h4⟩ := boot_ty hk
  exact pe_bltn (gl_of hg) (G.oth _ h2) h1 rfl h3 h4
theorem pa_tys (G : Good tb tg X hot) : ∀ {cs : List String} {es : List Expr}, ckTy X.env.scope cs es = true → (∀ k ∈ cs, tyName k = true) ∧ ∃ t : TA, PA X es t ∧ ∀ σ H Q, Q (cs.map V.ty) H → t σ H Q
  | [], [], _ => ⟨fun _ h => by (cases h), tNil, pa_nil, fun _ _ _ q => q⟩
  | [], _ :: _, h => by unfold ckTy at h; cases h
  | _ :: _, [], h => by unfold ckTy at h; cases h
  | c :: cs, e :: es, h => by
    cases e <;> (try (unfold ckTy at h; cases h; done))
    rename_i x p
    unfold ckTy at h
    rw [Bool.and_eq_true, Bool.and_eq_true, Bool.and_eq_true, Bool.and_eq_true, beq_iff_eq] at h
    obtain ⟨⟨⟨⟨rfl, h1⟩, h2⟩, _⟩, h4⟩ := h
    obtain ⟨a, t, b, k⟩ := pa_tys G h4
    exact ⟨fun k hk => (List.mem_cons.mp hk).elim (fun z => by rw [z]; exact h1) (a k), tCons (tC (.ty c)) t, pa_cons (pe_ty G h1 h2) b (star_of rfl _ _), fun σ H Q q => k σ H _ q⟩
theorem tys_vals : ∀ (cs : List String), Paired ClsV (cs.map V.ty) (cs.map Value.type)
  | [] => .nil
  | c :: cs => .cons (.ty c) (tys_vals cs)
theorem snd_isi {x : Ex} {cs : List String} (hx : Snd x) : Snd (.isi x cs) := by
  have pe : ∀ {X : Cx} {H0 : Hp} {Gp : GQ} {W : WX} {tb : Fn → Prop} {tg : String → D → Prop} {hot : Bool} {e : Expr}, Good tb tg X hot → TakesF X W → (hot = true → hotOk (.isi x cs) = true) → cal tb tg (.isi x cs) → ck X.N (.isi x cs) X.env.scope e = true → PE X e (tX (cn X H0 Gp) W (.isi x cs)) := by
    intro X H0 Gp W tb tg hot e G tk hh hc h
    have ht : hot = false := by cases hot; rfl; (have := hh rfl; unfold hotOk at this; cases this)
    subst ht
    obtain ⟨q0, a, t, p, rfl, h1, h2, h3, h4, h5⟩ := ck_isi h
    unfold cal at hc
    have px := hx.pe (H0 := H0) (Gp := Gp) G tk (fun z => by cases z) hc h4
    have hm : X.mg ("isinstance" : Str) = none := G.oth _ (by decide)
    have sa := star_of h2 [t] X.env
    have st : (backTo p (starEach [t] X.env)).any (·.1) = false := by rw [star_of h3 [] X.env]; rfl
    unfold ckTys at h5
    split at h5
    · rename_i k y p2
      simp only [Bool.and_eq_true, beq_iff_eq] at h5
      obtain ⟨⟨rfl, k1⟩, k2⟩ := h5
      refine pe_imp (pe_callB call_isi (gl_of h1) hm PyProof.Rows.boot_isinstance (pa_cons px (pa_cons (pe_ty G k1 k2) pa_nil rfl) sa) (by decide) (by decide) sa st) fun σ H Q q => ?_
      obtain ⟨ρ, er, q⟩ := q
      unfold ev at q
      refine tX_then er q fun d v H1 e1 po er1 q1 => ?_
      unfold isiD at q1
      split at q1
      · rename_i ty hty
        have q2 := q1 (.bl ([k].any (isT ty))) H1 (.plain po.same (.bl _) rfl)
        rw [show [k].any (isT ty) = isT ty k from Bool.or_false _] at q2
        exact ⟨_, _, _, _, _, rfl, .ty k, po.rb.ty hty, kit_of_ty hty k1, q2⟩
      · exact q1.elim
    · rename_i k k' ks es j p2
      rw [Bool.and_eq_true] at h5
      have hlen := of_decide_eq_true h5.1
      replace h5 := h5.2
      obtain ⟨n1, t1, pt1, k1⟩ := pa_tys G h5
      refine pe_imp (pe_callB call_isiT (gl_of h1) hm PyProof.Rows.boot_isinstance (pa_cons px (pa_cons (pe_tup pt1) pa_nil rfl) sa) (by decide) (by decide) sa st) fun σ H Q q => ?_
      obtain ⟨ρ, er, q⟩ := q
      unfold ev at q
      refine tX_then er q fun d v H1 e1 po er1 q1 => ?_
      unfold isiD at q1
      split at q1
      · rename_i ty hty
        refine k1 σ H1 _ ⟨?_, fun tp htp => ?_⟩
        · rw [List.length_map, line_eq, List.length_cons, List.length_cons]
          omega
        · have q2 := q1 (.bl ((k :: k' :: ks).any (isT ty))) (upd H1 tp (.tup ((k :: k' :: ks).map V.ty))) (.plain (po.same.trans (same_upd htp)) (.bl _) rfl)
          exact ⟨_, tp, _, _, _, _, rfl, upd_same, tys_vals _, (po.rb.same (same_upd htp)).ty hty, kit_any hty n1, q2⟩
      · exact q1.elim
    · cases h5
  refine ⟨fun G tk hh c h => pe G tk hh c h, fun G tk hh c h => ?_⟩
  obtain ⟨q0, a, t, p, rfl, _⟩ := ck_isi h
  exact pt_gen (pe G tk hh c h) fun _ => rfl
end
theorem boot_VE : bootBuiltins "ValueError" = some (.type "ValueError") := by decide +kernel
/-! ### isinstance of errors -/
/-- the type of a value, an error's too -/
inductive TyY (K : PySem.W.Frag) (H : Hp) : V → Value → Prop where
  | base {x : V} {t : Value} : TyX K H x t → TyY K H x t
  | err {a D : Addr} {φ : Heap → Prop} : H a = some (.ext φ) → (∀ h, φ h → ErP (.ref D) a h) → ExcC K D → TyY K H (.ref a) (.ref D)
section
variable {X : Cx} {pins : List (Addr × Obj)} {σ : Sg} {H : Hp} {s : Shared}
theorem kit_ofY {x : V} {u t : Value} (I : Inv X pins σ H s) (rx : RelV x u) (ty : TyY X.K H x t) : ∃ P : Heap → Prop, PySem.W.KitX X.K u t P ∧ P s.heap ∧ u ≠ .builtin "__main__.__loader__#opaque" := by
  cases ty with
  | base b => exact kit_of I rx b
  | @err a D φ ha hφ C =>
    cases (show u = Value.ref a from rx)
    obtain ⟨p, _, _⟩ := (show ObjOk X.prog X.w H s.heap a (.ext φ) from I.hok a _ ha)
    obtain ⟨ob, fs, h1, h2, h3⟩ := hφ _ p
    refine ⟨_, PySem.W.handS_kitx_exc (ox := ob) C.hg C.hk C.hs C.hd C.ha C.hn C.ht C.hm, ?_, fun z => nomatch z⟩
    obtain ⟨oc, od, dt, sl⟩ := ob
    obtain ⟨z1, z2⟩ := h2
    dsimp only at z1 z2 h3
    subst z1 z2 h3
    exact ⟨h1, rfl, rfl, trivial⟩
def rIsY (K : PySem.W.Frag) : List V → Hp → VK → Prop := fun xs H Q => ∃ (x c : V) (t u : Value) (b : Bool), xs = [x, c] ∧ ClsV c u ∧ TyY K H x t ∧ PySem.W.kitOne K t u = some b ∧ Q (.bl b) H
def rIsYT (K : PySem.W.Frag) : List V → Hp → VK → Prop := fun xs H Q => ∃ (x : V) (tp : Addr) (cs : List V) (t : Value) (us : List Value) (b : Bool), xs = [x, .ref tp] ∧ H tp = some (.tup cs) ∧ Paired ClsV cs us ∧ TyY K H x t ∧ PySem.W.kitAny K t us = some b ∧ Q (.bl b) H
theorem call_isY : CallR X (.builtin "isinstance") (rIsY X.K) := by
  intro pins s σ H xs us Q I r ⟨x, c, t, u, b, ex, k, ty, e, q⟩
  subst ex
  obtain ⟨u1, u2, rfl, r1, r2⟩ := vals2 r
  cases k.eq r2
  obtain ⟨P, Z, p, hx⟩ := kit_ofY I r1 ty
  exact PySem.W.kia_one Z I.kIn p e hx (fun tk => ⟨.bl b, H, I.tok tk, rfl, q⟩)
theorem call_isYT : CallR X (.builtin "isinstance") (rIsYT X.K) := by
  intro pins s σ H xs us Q I r ⟨x, tp, cs, t, ws, b, ex, hT, k, ty, e, q⟩
  subst ex
  obtain ⟨u1, u2, rfl, r1, r2⟩ := vals2 r
  cases (show u2 = Value.ref tp from r2)
  obtain ⟨P, Z, p, hx⟩ := kit_ofY I r1 ty
  have ok : ObjOk X.prog X.w H s.heap tp (.tup cs) := I.hok tp _ hT
  obtain ⟨_, its, rv, o, h1, h2, n, h3⟩ := ok
  cases ClsV.all k rv
  obtain ⟨oc, od, dt, sl⟩ := o
  simp only at h2 h3
  subst h2 h3
  exact PySem.W.kia_tup Z I.kIn p h1 e hx (fun tk => ⟨.bl b, H, I.tok tk, rfl, q⟩)
end
/-- the answer of one class -/
def ansX (d : D) (c : String) : Bool := match d with
  | .exc k => subY k c
  | _ => false
theorem isxD_eq {d : D} {cs : List String} {r : D} (h : isxD d cs = .ok r) : r = .bl (cs.any (ansX d)) ∧ ((∃ k, d = .exc k) ∨ ∃ t, tyD d = some t) := by
  unfold isxD at h
  split at h
  · cases h; exact ⟨rfl, .inl ⟨_, rfl⟩⟩
  · rename_i d' hd
    split at h
    · rename_i t ht
      cases h
      refine ⟨?_, .inr ⟨t, ht⟩⟩
      congr 1
      symm
      rw [List.any_eq_false]
      intro c _
      unfold ansX
      split
      · exact absurd rfl (hd _)
      · decide
    · cases h
section
variable {X : Cx} {tb : Fn → Prop} {tg : String → D → Prop} {hot : Bool}
theorem tyD_in {d : D} {t : String} (h : tyD d = some t) : t ∈ ["NoneType", "bool", "int", "str", "tuple", "list", "dict"] := by
  cases d <;> (unfold tyD at h) <;> first | (cases h; decide) | cases h
/-- a class as a value -/
def clsOf (mg : Str → Option Value) (c : String) : V := if c = "ValueError" then .ty "ValueError" else match mg (Str.ofString c) with
  | some (.ref C) => .ref C
  | _ => .non
theorem kit_of_X (G : Good tb tg X hot) {K' : Unit} {H : Hp} {Z : Addr → Prop} {d : D} {v : V} (r : Rb X.K X.mg H Z d v) (hd : (∃ k, d = .exc k ∧ isExc k = true) ∨ ∃ t, tyD d = some t) : ∃ t, TyY X.K H v t ∧ ∀ c, (c = "ValueError" ∨ (isExc c = true ∧ ∃ C, X.mg (Str.ofString c) = some (.ref C))) → ∃ u, ClsV (clsOf X.mg c) u ∧ PySem.W.kitOne X.K t u = some (ansX d c) := by
  have cl : ∀ c, isExc c = true → c ≠ "ValueError" := fun c h z => by subst z; revert h; decide
  rcases hd with ⟨k, rfl, hk⟩ | ⟨t, ht⟩
  · cases r with
    | p r => cases r with
      | @exc a C c0 φ ha hφ hm _ =>
        refine ⟨_, .err ha hφ (G.xk.ec k C hk hm), fun c hc => ?_⟩
        rcases hc with rfl | ⟨h1, C', h2⟩
        · exact ⟨_, .ty _, (G.xk.kv k C hk hm).trans (by unfold ansX subY; simp)⟩
        · refine ⟨.ref C', ?_, ?_⟩
          · unfold clsOf
            rw [if_neg (cl c h1), h2]
            exact .own C'
          · rw [G.xk.kk k c C C' hk h1 hm h2]
            unfold ansX subY
            simp [cl c h1]
  · refine ⟨_, .base (r.ty ht), fun c hc => ?_⟩
    have na : ansX d c = false := by
      unfold ansX
      split
      · cases ht
      · rfl
    rcases hc with rfl | ⟨h1, C', h2⟩
    · refine ⟨_, .ty _, ?_⟩
      rw [na]
      have fin : ∀ t ∈ ["NoneType", "bool", "int", "str", "tuple", "list", "dict"], kitB t "ValueError" = some false := by decide +kernel
      exact kit_ty (fin t (tyD_in ht))
    · refine ⟨.ref C', ?_, ?_⟩
      · unfold clsOf
        rw [if_neg (cl c h1), h2]
        exact .own C'
      · rw [na]
        exact G.xk.kn t (tyD_in ht) c C' h1 h2
theorem pe_cls (G : Good tb tg X hot) {c : String} {p : Pos} (hc : c = "ValueError" ∨ tg c (.exc c)) (hx : (c == "ValueError" || isExc c) = true) (hg : glB X.env.scope (Str.ofString c) = true) (hd : dbg (Str.ofString c) = true) :
    PE X (.Name (Str.ofString c) p) (tC (clsOf X.mg c)) ∧ (c = "ValueError" ∨ (isExc c = true ∧ ∃ C, X.mg (Str.ofString c) = some (.ref C))) := by
  have cl : ∀ c, isExc c = true → c ≠ "ValueError" := fun c h z => by subst z; revert h; decide
  rw [Bool.or_eq_true, beq_iff_eq] at hx
  rcases hx with rfl | hx
  · refine ⟨?_, .inl rfl⟩
    unfold clsOf
    rw [if_pos rfl]
    exact pe_bltn (gl_of hg) (G.oth _ (by decide)) boot_VE rfl (by decide) (by decide)
  · rcases hc with rfl | hc
    · exact absurd rfl (cl _ hx)
    · obtain ⟨C, hC⟩ := G.gle c c hc
      refine ⟨?_, .inr ⟨hx, C, hC⟩⟩
      unfold clsOf
      rw [if_neg (cl c hx), hC]
      exact pe_glob (gl_of hg) hC rfl (dbg_of hd).1
theorem pa_clss (G : Good tb tg X hot) : ∀ {cs : List String} {es : List Expr}, (∀ k ∈ cs, k = "ValueError" ∨ tg k (.exc k)) → ckXs X.env.scope cs es = true → (∀ c ∈ cs, c = "ValueError" ∨ (isExc c = true ∧ ∃ C, X.mg (Str.ofString c) = some (.ref C))) ∧ ∃ t : TA, PA X es t ∧ ∀ σ H Q, Q (cs.map (clsOf X.mg)) H → t σ H Q
  | [], [], _, _ => ⟨fun _ h => by (cases h), tNil, pa_nil, fun _ _ _ q => q⟩
  | [], _ :: _, _, h => by unfold ckXs at h; cases h
  | _ :: _, [], _, h => by unfold ckXs at h; cases h
  | c :: cs, e :: es, hc, h => by
    cases e <;> (try (unfold ckXs at h; cases h; done))
    rename_i x p
    unfold ckXs at h
    rw [Bool.and_eq_true, Bool.and_eq_true, Bool.and_eq_true, Bool.and_eq_true, Bool.and_eq_true, beq_iff_eq] at h
    obtain ⟨⟨⟨⟨⟨rfl, h1⟩, h2⟩, h3⟩, _⟩, h4⟩ := h
    obtain ⟨a, t, b, k⟩ := pa_clss G (fun k hk => hc k (List.mem_cons_of_mem _ hk)) h4
    obtain ⟨pe, ok⟩ := pe_cls G (p := p) (hc c List.mem_cons_self) h1 h2 h3
    exact ⟨fun q hq => (List.mem_cons.mp hq).elim (fun z => by rw [z]; exact ok) (a q), tCons (tC (clsOf X.mg c)) t, pa_cons pe b (star_of rfl _ _), fun σ H Q q => k σ H _ q⟩
theorem kitAny_X {K : PySem.W.Frag} {t : Value} {f : String → V} {g : String → Bool} : ∀ {cs : List String}, (∀ c ∈ cs, ∃ u, ClsV (f c) u ∧ PySem.W.kitOne K t u = some (g c)) → ∃ us, Paired ClsV (cs.map f) us ∧ PySem.W.kitAny K t us = some (cs.any g)
  | [], _ => ⟨[], .nil, rfl⟩
  | c :: cs, h => by
    obtain ⟨u, h1, h2⟩ := h c List.mem_cons_self
    obtain ⟨us, k1, k2⟩ := kitAny_X fun q hq => h q (List.mem_cons_of_mem _ hq)
    refine ⟨u :: us, .cons h1 k1, kitAny_cons (b := g c) h2 (fun e => ?_) fun e => ?_⟩
    · rw [k2, List.any_cons, e]; rfl
    · rw [List.any_cons, e]; rfl
theorem snd_isx {x : Ex} {cs : List String} (hx : Snd x) : Snd (.isx x cs) := by
  have pe : ∀ {X : Cx} {H0 : Hp} {Gp : GQ} {W : WX} {tb : Fn → Prop} {tg : String → D → Prop} {hot : Bool} {e : Expr}, Good tb tg X hot → TakesF X W → (hot = true → hotOk (.isx x cs) = true) → cal tb tg (.isx x cs) → ck X.N (.isx x cs) X.env.scope e = true → PE X e (tX (cn X H0 Gp) W (.isx x cs)) := by
    intro X H0 Gp W tb tg hot e G tk hh hc h
    obtain ⟨q0, a, t, p, rfl, h1, h2, h3, h4, h5⟩ := ck_isx h
    unfold cal at hc
    have px := hx.pe (H0 := H0) (Gp := Gp) G tk (fun z => by have := hh z; unfold hotOk at this; exact this) hc.1 h4
    have hm : X.mg ("isinstance" : Str) = none := G.oth _ (by decide)
    have sa := star_of h2 [t] X.env
    have st : (backTo p (starEach [t] X.env)).any (·.1) = false := by rw [star_of h3 [] X.env]; rfl
    have clse : ∀ {H : Hp} {Z : Addr → Prop} {d : D} {v : V}, Rb X.K X.mg H Z d v → ((∃ k, d = .exc k) ∨ ∃ t, tyD d = some t) → (∃ k, d = .exc k ∧ isExc k = true) ∨ ∃ t, tyD d = some t := fun {H Z d v} r z => z.elim (fun ⟨k, e⟩ => .inl ⟨k, e, by
      subst e
      cases r with
      | p r => cases r with
        | exc _ _ _ hk => exact hk⟩) .inr
    unfold ckX at h5
    split at h5
    · rename_i k y p2
      simp only [Bool.and_eq_true, beq_iff_eq] at h5
      obtain ⟨⟨⟨rfl, k1⟩, k2⟩, k3⟩ := h5
      obtain ⟨pc, ok⟩ := pe_cls G (p := p2) (hc.2 k (by simp)) k1 k2 k3
      refine pe_imp (pe_callB call_isY (gl_of h1) hm PyProof.Rows.boot_isinstance (pa_cons px (pa_cons pc pa_nil rfl) sa) (by decide) (by decide) sa st) fun σ H Q q => ?_
      obtain ⟨ρ, er, q⟩ := q
      unfold ev at q
      refine tX_then er q fun d v H1 e1 po er1 q1 => ?_
      cases hr : isxD d [k] with
      | ok r =>
        rw [hr] at q1
        obtain ⟨rfl, hd⟩ := isxD_eq hr
        obtain ⟨t, ty, all⟩ := kit_of_X (K' := ()) G po.rb (clse po.rb hd)
        obtain ⟨u, cu, ku⟩ := all k ok
        have q2 := q1 (.bl ([k].any (ansX d))) H1 (.plain po.same (.bl _) rfl)
        rw [show [k].any (ansX d) = ansX d k from Bool.or_false _] at q2
        exact ⟨_, _, _, _, _, rfl, cu, ty, ku, q2⟩
      | exc k => exact absurd hr (by unfold isxD; split <;> first | (intro z; cases z) | (split <;> (intro z; cases z)))
      | bad => rw [hr] at q1; exact q1.elim
    · rename_i k k' ks es j p2
      rw [Bool.and_eq_true] at h5
      have hlen := of_decide_eq_true h5.1
      replace h5 := h5.2
      obtain ⟨n1, t1, pt1, k1⟩ := pa_clss G hc.2 h5
      refine pe_imp (pe_callB call_isYT (gl_of h1) hm PyProof.Rows.boot_isinstance (pa_cons px (pa_cons (pe_tup pt1) pa_nil rfl) sa) (by decide) (by decide) sa st) fun σ H Q q => ?_
      obtain ⟨ρ, er, q⟩ := q
      unfold ev at q
      refine tX_then er q fun d v H1 e1 po er1 q1 => ?_
      cases hr : isxD d (k :: k' :: ks) with
      | ok r =>
        rw [hr] at q1
        obtain ⟨rfl, hd⟩ := isxD_eq hr
        refine k1 σ H1 _ ⟨?_, fun tp htp => ?_⟩
        · rw [List.length_map, line_eq, List.length_cons, List.length_cons]
          omega
        · obtain ⟨t, ty, all⟩ := kit_of_X (K' := ()) G (po.rb.same (same_upd htp)) (clse po.rb hd)
          obtain ⟨us, pu, ku⟩ := kitAny_X (f := clsOf X.mg) (g := ansX d) fun c hc => all c (n1 c hc)
          have q2 := q1 (.bl ((k :: k' :: ks).any (ansX d))) (upd H1 tp (.tup ((k :: k' :: ks).map (clsOf X.mg)))) (.plain (po.same.trans (same_upd htp)) (.bl _) rfl)
          exact ⟨_, tp, _, _, _, _, rfl, upd_same, pu, ty, ku, q2⟩
      | exc k => exact absurd hr (by unfold isxD; split <;> first | (intro z; cases z) | (split <;> (intro z; cases z)))
      | bad => rw [hr] at q1; exact q1.elim
    · cases h5
  refine ⟨fun G tk hh c h => pe G tk hh c h, fun G tk hh c h => ?_⟩
  obtain ⟨q0, a, t, p, rfl, _⟩ := ck_isx h
  exact pt_gen (pe G tk hh c h) fun _ => rfl
/-! ### a list from behind -/
theorem snd_rvl {x : Ex} (hx : Snd x) : Snd (.rvl x) := by
  have pe : ∀ {X : Cx} {H0 : Hp} {Gp : GQ} {W : WX} {tb : Fn → Prop} {tg : String → D → Prop} {hot : Bool} {e : Expr}, Good tb tg X hot → TakesF X W → (hot = true → hotOk (.rvl x) = true) → cal tb tg (.rvl x) → ck X.N (.rvl x) X.env.scope e = true → PE X e (tX (cn X H0 Gp) W (.rvl x)) := by
    intro X H0 Gp W tb tg hot e G tk hh hc h
    have ht : hot = false := by cases hot; rfl; (have := hh rfl; unfold hotOk at this; cases this)
    subst ht
    unfold cal at hc
    have go : ∀ {a : Expr}, ck X.N x X.env.scope a = true → ∀ {σ : L2.St} {H : Hp} {Q : V → Hp → Prop}, tX (cn X H0 Gp) W (.rvl x) σ H Q → tRevL X.K (tX (cn X H0 Gp) W x) σ H Q := by
      intro a h1 σ H Q q
      obtain ⟨ρ, er, q⟩ := q
      unfold ev at q
      refine tX_then er q fun d v H1 e1 po er1 q1 => ?_
      unfold rvlD at q1
      split at q1
      · obtain ⟨b, xs, rfl, e2, r⟩ := po.rb.lst
        refine ⟨b, xs, rfl, SqL.of e2, fun pp hp => q1 _ _ (Nw.po er po.same (.nl hp r.reverse))⟩
      · exact q1.elim
    rcases ck_rvl h with ⟨a, k, p1, p2, p3, p, rfl, h1⟩ | ⟨q1, q2, a, p1, p2, rfl, g1, g2, st, h1⟩
    · exact pe_imp (pe_revL (hx.pe (H0 := H0) (Gp := Gp) G tk (fun z => by cases z) hc h1)) fun σ H Q q => go h1 q
    · exact pe_imp (pe_lstRev (G.calm rfl) (gl_of g1) (G.blt .list) (gl_of g2) (G.oth _ (by decide)) (hx.pe (H0 := H0) (Gp := Gp) G tk (fun z => by cases z) hc h1) (star_of st [] X.env) rfl) fun σ H Q q => go h1 q
  refine ⟨fun G tk hh c h => pe G tk hh c h, fun G tk hh c h => ?_⟩
  rcases ck_rvl h with ⟨a, k, p1, p2, p3, p, rfl, _⟩ | ⟨q1, q2, a, p1, p2, rfl, _⟩
  · exact pt_gen (pe G tk hh c h) fun _ => rfl
  · exact pt_gen (pe G tk hh c h) fun _ => rfl
end
end OL
namespace OL
open PySem PySem.Spec PyProof.Rows L2
/-- sound as what is walked -/
def Pis (x : Ex) : Prop := ∀ {X : Cx} {H0 : Hp} {Gp : GQ} {W : WX} {tb : Fn → Prop} {tg : String → D → Prop} {t i : Expr}, Good tb tg X false → TakesF X W → cal tb tg x → ckI X.N x X.env.scope i (isTup t) = true → PI X t i (tI (cn X H0 Gp) W x)
theorem pis_plain {x : Ex} (hx : Snd x) (hi : ckIt x = false) : Pis x := by
  intro X H0 Gp W tb tg t i G tk hc h
  have h' : (ck X.N x X.env.scope i && nb x) = true := by
    cases x <;> first | (cases hi; done) | (unfold ckI at h; exact h)
  rw [Bool.and_eq_true] at h'
  exact pi_plain (hx.pe G tk (fun z => by cases z) hc h'.1) h'.2
theorem tup_of {t : Expr} (h : isTup t = true) : ∃ es k p, t = .Tuple es k p := by
  cases t <;> first | exact ⟨_, _, _, rfl⟩ | cases h
theorem rng_map0 (n : Nat) : ((List.range n).map fun (k : Nat) => D.int k) = (List.range n).map fun (k : Nat) => D.int (0 + k) := by
  congr 1
  funext k
  rw [Int.zero_add]
section
variable {N : List Str} {sc : Scope} {e : Expr} {x y : Ex} {tup : Bool}
theorem ckI_r1 (h : ckI N (.rng [x]) sc e tup = true) : ∃ q a p, e = .Call (.Name ("range" : Str) q) [a] [] p ∧ glB sc ("range" : Str) = true ∧ noStar a = true ∧ ck N x sc a = true := by
  cases e <;> (try (simp [ckI, ckIt, ckJ] at h; done))
  rename_i fn es ks p
  cases fn <;> (try (simp [ckI, ckIt, ckJ] at h; done))
  match es, ks, h with
  | [a], [], h =>
    first | simp [ckI, ckIt, ckJ] at h | simp at h
    obtain ⟨⟨⟨rfl, h1⟩, h2⟩, h3⟩ := h
    exact ⟨_, _, _, rfl, h1, h2, h3⟩
  | [], _, h => first | (simp [ckI, ckIt, ckJ] at h; done) | (simp at h; done)
  | _ :: _ :: _, _, h => first | (simp [ckI, ckIt, ckJ] at h; done) | (simp at h; done)
  | [_], _ :: _, h => first | (simp [ckI, ckIt, ckJ] at h; done) | (simp at h; done)
theorem ckI_r2 (h : ckI N (.rng [x, y]) sc e tup = true) : ∃ q a b p, e = .Call (.Name ("range" : Str) q) [a, b] [] p ∧ glB sc ("range" : Str) = true ∧ noStar a = true ∧ noStar b = true ∧ ck N x sc a = true ∧ ck N y sc b = true := by
  cases e <;> (try (simp [ckI, ckIt, ckJ] at h; done))
  rename_i fn es ks p
  cases fn <;> (try (simp [ckI, ckIt, ckJ] at h; done))
  match es, ks, h with
  | [a, b], [], h =>
    first | simp [ckI, ckIt, ckJ] at h | simp at h
    obtain ⟨⟨⟨⟨⟨rfl, h1⟩, h2⟩, h3⟩, h4⟩, h5⟩ := h
    exact ⟨_, _, _, _, rfl, h1, h2, h3, h4, h5⟩
  | [], _, h => first | (simp [ckI, ckIt, ckJ] at h; done) | (simp at h; done)
  | [_], _, h => first | (simp [ckI, ckIt, ckJ] at h; done) | (simp at h; done)
  | _ :: _ :: _ :: _, _, h => first | (simp [ckI, ckIt, ckJ] at h; done) | (simp at h; done)
  | [_, _], _ :: _, h => first | (simp [ckI, ckIt, ckJ] at h; done) | (simp at h; done)
theorem ckI_rn {xs : List Ex} (h : ckI N (.rng xs) sc e tup = true) : (∃ x, xs = [x]) ∨ ∃ x y, xs = [x, y] := by
  match xs, h with
  | [x], _ => exact .inl ⟨x, rfl⟩
  | [x, y], _ => exact .inr ⟨x, y, rfl⟩
  | [], h => cases e <;> (try (simp [ckI, ckIt, ckJ] at h; done))
  | _ :: _ :: _ :: _, h => cases e <;> (try (simp [ckI, ckIt, ckJ] at h; done))
theorem ckI_enum (h : ckI N (.enum x) sc e tup = true) : tup = true ∧ ∃ q a p, e = .Call (.Name ("enumerate" : Str) q) [a] [] p ∧ glB sc ("enumerate" : Str) = true ∧ noStar a = true ∧ ck N x sc a = true ∧ nb x = true := by
  cases e <;> (try (simp [ckI, ckIt, ckJ] at h; done))
  rename_i fn es ks p
  cases fn <;> (try (simp [ckI, ckIt, ckJ] at h; done))
  match es, ks, h with
  | [a], [], h =>
    first | simp [ckI, ckIt, ckJ] at h | simp at h
    obtain ⟨⟨⟨⟨⟨h0, rfl⟩, h1⟩, h2⟩, h3⟩, h4⟩ := h
    exact ⟨h0, _, _, _, rfl, h1, h2, h3, h4⟩
  | [], _, h => first | (simp [ckI, ckIt, ckJ] at h; done) | (simp at h; done)
  | _ :: _ :: _, _, h => first | (simp [ckI, ckIt, ckJ] at h; done) | (simp at h; done)
  | [_], _ :: _, h => first | (simp [ckI, ckIt, ckJ] at h; done) | (simp at h; done)
theorem ckI_revd (h : ckI N (.revd x) sc e tup = true) : ∃ q a p, e = .Call (.Name ("reversed" : Str) q) [a] [] p ∧ glB sc ("reversed" : Str) = true ∧ noStar a = true ∧ ck N x sc a = true ∧ nb x = true := by
  cases e <;> (try (simp [ckI, ckIt, ckJ] at h; done))
  rename_i fn es ks p
  cases fn <;> (try (simp [ckI, ckIt, ckJ] at h; done))
  match es, ks, h with
  | [a], [], h =>
    first | simp [ckI, ckIt, ckJ] at h | simp at h
    obtain ⟨⟨⟨⟨rfl, h1⟩, h2⟩, h3⟩, h4⟩ := h
    exact ⟨_, _, _, rfl, h1, h2, h3, h4⟩
  | [], _, h => first | (simp [ckI, ckIt, ckJ] at h; done) | (simp at h; done)
  | _ :: _ :: _, _, h => first | (simp [ckI, ckIt, ckJ] at h; done) | (simp at h; done)
  | [_], _ :: _, h => first | (simp [ckI, ckIt, ckJ] at h; done) | (simp at h; done)
theorem ckI_zip (h : ckI N (.zip x y) sc e tup = true) : tup = true ∧ ∃ q a b p, e = .Call (.Name ("zip" : Str) q) [a, b] [] p ∧ glB sc ("zip" : Str) = true ∧ noStar a = true ∧ noStar b = true ∧ ck N x sc a = true ∧ ck N y sc b = true ∧ nb x = true ∧ nb y = true := by
  cases e <;> (try (simp [ckI, ckIt, ckJ] at h; done))
  rename_i fn es ks p
  cases fn <;> (try (simp [ckI, ckIt, ckJ] at h; done))
  match es, ks, h with
  | [a, b], [], h =>
    first | simp [ckI, ckIt, ckJ] at h | simp at h
    obtain ⟨⟨⟨⟨⟨⟨⟨⟨h0, rfl⟩, h1⟩, h2⟩, h3⟩, h4⟩, h5⟩, h6⟩, h7⟩ := h
    exact ⟨h0, _, _, _, _, rfl, h1, h2, h3, h4, h5, h6, h7⟩
  | [], _, h => first | (simp [ckI, ckIt, ckJ] at h; done) | (simp at h; done)
  | [_], _, h => first | (simp [ckI, ckIt, ckJ] at h; done) | (simp at h; done)
  | _ :: _ :: _ :: _, _, h => first | (simp [ckI, ckIt, ckJ] at h; done) | (simp at h; done)
  | [_, _], _ :: _, h => first | (simp [ckI, ckIt, ckJ] at h; done) | (simp at h; done)
end
theorem ckL1 {N : List Str} {sc : Scope} {x : Ex} {a : Expr} (h2 : noStar a = true) (h3 : ck N x sc a = true) : ckL N [x] sc [a] = true := by
  unfold ckL
  rw [h2, h3]
  unfold ckL
  rfl
theorem ckL2 {N : List Str} {sc : Scope} {x y : Ex} {a b : Expr} (h2 : noStar a = true) (h3 : ck N x sc a = true) (h4 : noStar b = true) (h5 : ck N y sc b = true) : ckL N [x, y] sc [a, b] = true := by
  unfold ckL
  rw [h2, h3, ckL1 h4 h5]
  rfl
theorem pis_rng {xs : List Ex} (hs : ∀ x ∈ xs, Snd x) : Pis (.rng xs) := by
  intro X H0 Gp W tb tg t i G tk hc h
  unfold cal at hc
  rcases ckI_rn h with ⟨x, rfl⟩ | ⟨x, y, rfl⟩
  · obtain ⟨q, a, p, rfl, h1, h2, h3⟩ := ckI_r1 h
    have pa := pa_of (H0 := H0) (Gp := Gp) G tk hs (fun z => by cases z) hc (ckL1 h2 h3)
    refine pi_imp (pi_range1 (gl_of h1) (G.oth _ (by decide)) pa (star_of h2 [] X.env)) fun σ H Tn q => ?_
    obtain ⟨ρ, er, q⟩ := q
    unfold ev at q
    have q' : ((evs ρ [x]).bind fun ds => (rngD ds).bind itemsOf).all (fun ds => ∀ J H', Same H H' → Wk X.K X.mg H' (Zf (cn X H0 Gp) σ ρ) J ds → Tn J H') (fun k => ∀ H', Same H H' → XW (cn X H0 Gp) W k σ H') := by
      cases e : evs ρ [x] with
      | ok d => rw [e] at q; exact q
      | exc k => rw [e] at q; exact q
      | bad => rw [e] at q; exact q
    refine tA_then er q' fun ds vs H1 ee po er1 q1 => ?_
    unfold rngD at q1
    split at q1
    · rename_i j
      split at q1
      · rename_i hj
        obtain ⟨v, rfl, rv⟩ := po.rb.one
        cases rv.int
        have q2 : ∀ J H', Same H H' → Wk X.K X.mg H' (Zf (cn X H0 Gp) σ ρ) J ((List.range j.toNat).map fun (k : Nat) => D.int k) → Tn J H' := q1
        exact ⟨j, rfl, hj.1, hj.2, q2 _ _ po.same (by rw [rng_map0]; exact wk_rng 0 _)⟩
      · exact q1.elim
    · rename_i i j
      have := po.rb
      cases this with
      | cons _ z => cases z with
        | cons a b =>
          exfalso
          unfold evs at ee
          cases e1 : ev ρ x with
          | ok d => rw [e1] at ee; unfold evs at ee; cases ee
          | exc _ => rw [e1] at ee; cases ee
          | bad => rw [e1] at ee; cases ee
    · exact q1.elim
  · obtain ⟨q, a, b, p, rfl, h1, h2, h4, h3, h5⟩ := ckI_r2 h
    have pa := pa_of (H0 := H0) (Gp := Gp) G tk hs (fun z => by cases z) hc (ckL2 h2 h3 h4 h5)
    refine pi_imp (pi_range2 (gl_of h1) (G.oth _ (by decide)) pa (by rw [star_of h2, star_of h4]; rfl) (star_of h4 [] X.env)) fun σ H Tn q => ?_
    obtain ⟨ρ, er, q⟩ := q
    unfold ev at q
    have q' : ((evs ρ [x, y]).bind fun ds => (rngD ds).bind itemsOf).all (fun ds => ∀ J H', Same H H' → Wk X.K X.mg H' (Zf (cn X H0 Gp) σ ρ) J ds → Tn J H') (fun k => ∀ H', Same H H' → XW (cn X H0 Gp) W k σ H') := by
      cases e : evs ρ [x, y] with
      | ok d => rw [e] at q; exact q
      | exc k => rw [e] at q; exact q
      | bad => rw [e] at q; exact q
    refine tA_then er q' fun ds vs H1 ee po er1 q1 => ?_
    unfold rngD at q1
    split at q1
    · exfalso
      unfold evs at ee
      cases e1 : ev ρ x with
      | ok d =>
        rw [e1] at ee
        unfold evs at ee
        cases e2 : ev ρ y with
        | ok d => rw [e2] at ee; unfold evs at ee; cases ee
        | exc _ => rw [e2] at ee; cases ee
        | bad => rw [e2] at ee; cases ee
      | exc _ => rw [e1] at ee; cases ee
      | bad => rw [e1] at ee; cases ee
    · rename_i i j
      split at q1
      · rename_i hj
        obtain ⟨v, w, rfl, rv, rw'⟩ := po.rb.two
        cases rv.int; cases rw'.int
        have q2 : ∀ J H', Same H H' → Wk X.K X.mg H' (Zf (cn X H0 Gp) σ ρ) J ((List.range (j - i).toNat).map fun (k : Nat) => D.int (i + k)) → Tn J H' := q1
        exact ⟨i, j, rfl, hj, q2 _ _ po.same (wk_rng i _)⟩
      · exact q1.elim
    · exact q1.elim
theorem bind_items {c : Cn} {W : WX} {x : Ex} {σ : Sg} {H : Hp} {ρ : En} {β : Type} {f : List D → R β} {p : β → Prop} (q : (((ev ρ x).bind itemsOf).bind f).all p (fun k => ∀ H', Same H H' → XW c W k σ H')) :
    ((ev ρ x).bind fun d => (itemsOf d).bind f).all p (fun k => ∀ H', Same H H' → XW c W k σ H') := by
  cases e : ev ρ x with
  | ok d => rw [e] at q; exact q
  | exc k => rw [e] at q; exact q
  | bad => rw [e] at q; exact q
theorem pis_enum {x : Ex} (hx : Snd x) : Pis (.enum x) := by
  intro X H0 Gp W tb tg t i G tk hc h
  unfold cal at hc
  obtain ⟨ht, q, a, p, rfl, h1, h2, h3, h4⟩ := ckI_enum h
  obtain ⟨es, k, pt, rfl⟩ := tup_of ht
  have px := hx.pe (H0 := H0) (Gp := Gp) G tk (fun z => by cases z) hc h3
  refine pi_imp (pi_enum (gl_of h1) (G.oth _ (by decide)) (pa_cons px pa_nil (star_of h2 [] X.env)) (star_of h2 [] X.env)) fun σ H Tn q => ?_
  obtain ⟨ρ, er, q⟩ := q
  unfold ev at q
  have q' : ((ev ρ x).bind fun d => (if lstOnly d then itemsOf d else .bad).bind fun ds => (R.ok (enumD ds))).all (fun ds => ∀ J H', Same H H' → Wk X.K X.mg H' (Zf (cn X H0 Gp) σ ρ) J ds → Tn J H') (fun k => ∀ H', Same H H' → XW (cn X H0 Gp) W k σ H') := by
    cases e : ev ρ x with
    | ok d =>
      rw [e] at q
      have q1 : (((if lstOnly d then itemsOf d else .bad).bind fun ds => (R.ok (D.lst (enumD ds)) : R D)).bind itemsOf).all (fun ds => ∀ J H', Same H H' → Wk X.K X.mg H' (Zf (cn X H0 Gp) σ ρ) J ds → Tn J H') (fun k => ∀ H', Same H H' → XW (cn X H0 Gp) W k σ H') := q
      show ((if lstOnly d then itemsOf d else .bad).bind fun ds => (R.ok (enumD ds))).all _ _
      cases e2 : (if lstOnly d then itemsOf d else R.bad) with
      | ok ds => rw [e2] at q1; exact q1
      | exc k => rw [e2] at q1; exact q1
      | bad => rw [e2] at q1; exact q1
    | exc k => rw [e] at q; exact q
    | bad => rw [e] at q; exact q
  refine tX_then er q' fun d v H1 e1 po er1 q1 => ?_
  by_cases hl : lstOnly d = true
  · rw [if_pos hl] at q1
    cases e2 : itemsOf d with
    | ok ds =>
      rw [e2] at q1
      obtain ⟨a, xs, rfl, s1, s2, ra⟩ := items_lst (c := cn X H0 Gp) (po.rp h4) e2 (fun z hz => by rw [hz] at hl; cases hl) (fun z hz => by rw [hz] at hl; cases hl)
      exact ⟨a, xs, rfl, s1, q1 _ _ po.same (wk_enum s2 ra)⟩
    | exc k => unfold itemsOf at e2; split at e2 <;> cases e2
    | bad => rw [e2] at q1; exact q1.elim
  · rw [if_neg hl] at q1
    exact q1.elim
theorem pis_revd {x : Ex} (hx : Snd x) : Pis (.revd x) := by
  intro X H0 Gp W tb tg t i G tk hc h
  unfold cal at hc
  obtain ⟨q, a, p, rfl, h1, h2, h3, h4⟩ := ckI_revd h
  have px := hx.pe (H0 := H0) (Gp := Gp) G tk (fun z => by cases z) hc h3
  refine pi_imp (pi_reversed (gl_of h1) (G.oth _ (by decide)) (pa_cons px pa_nil (star_of h2 [] X.env)) (star_of h2 [] X.env)) fun σ H Tn q => ?_
  obtain ⟨ρ, er, q⟩ := q
  unfold ev at q
  have q' : ((ev ρ x).bind fun d => (if lstOnly d then itemsOf d else .bad).bind fun ds => (R.ok ds.reverse)).all (fun ds => ∀ J H', Same H H' → Wk X.K X.mg H' (Zf (cn X H0 Gp) σ ρ) J ds → Tn J H') (fun k => ∀ H', Same H H' → XW (cn X H0 Gp) W k σ H') := by
    cases e : ev ρ x with
    | ok d =>
      rw [e] at q
      have q1 : (((if lstOnly d then itemsOf d else .bad).bind fun ds => (R.ok (D.lst ds.reverse) : R D)).bind itemsOf).all (fun ds => ∀ J H', Same H H' → Wk X.K X.mg H' (Zf (cn X H0 Gp) σ ρ) J ds → Tn J H') (fun k => ∀ H', Same H H' → XW (cn X H0 Gp) W k σ H') := q
      show ((if lstOnly d then itemsOf d else .bad).bind fun ds => (R.ok ds.reverse)).all _ _
      cases e2 : (if lstOnly d then itemsOf d else R.bad) with
      | ok ds => rw [e2] at q1; exact q1
      | exc k => rw [e2] at q1; exact q1
      | bad => rw [e2] at q1; exact q1
    | exc k => rw [e] at q; exact q
    | bad => rw [e] at q; exact q
  refine tX_then er q' fun d v H1 e1 po er1 q1 => ?_
  by_cases hl : lstOnly d = true
  · rw [if_pos hl] at q1
    cases e2 : itemsOf d with
    | ok ds =>
      rw [e2] at q1
      obtain ⟨a, xs, rfl, s1, s2, ra⟩ := items_lst (c := cn X H0 Gp) (po.rp h4) e2 (fun z hz => by rw [hz] at hl; cases hl) (fun z hz => by rw [hz] at hl; cases hl)
      exact ⟨a, xs, rfl, s1, q1 _ _ po.same (wk_rev s2 ra)⟩
    | exc k => unfold itemsOf at e2; split at e2 <;> cases e2
    | bad => rw [e2] at q1; exact q1.elim
  · rw [if_neg hl] at q1
    exact q1.elim
theorem pis_zip {x y : Ex} (hx : Snd x) (hy : Snd y) : Pis (.zip x y) := by
  intro X H0 Gp W tb tg t i G tk hc h
  unfold cal at hc
  obtain ⟨ht, q, a, b, p, rfl, h1, h2, h3, h4, h5, h6, h7⟩ := ckI_zip h
  obtain ⟨es, k, pt, rfl⟩ := tup_of ht
  have px := hx.pe (H0 := H0) (Gp := Gp) G tk (fun z => by cases z) hc.1 h4
  have py := hy.pe (H0 := H0) (Gp := Gp) G tk (fun z => by cases z) hc.2 h5
  refine pi_imp (pi_zip (gl_of h1) (G.oth _ (by decide)) (pa_cons px (pa_cons py pa_nil (star_of h3 [] X.env)) (star_of h2 _ X.env)) (star_of h2 _ X.env) (by rw [star_of h3]; rfl)) fun σ H Tn q => ?_
  obtain ⟨ρ, er, q⟩ := q
  unfold ev at q
  have q' : ((ev ρ x).bind fun d => (ev ρ y).bind fun d2 => (if lstOnly d && lstOnly d2 then (itemsOf d).bind fun ds => (itemsOf d2).bind fun es => R.ok (zipD ds es) else .bad)).all (fun ds => ∀ J H', Same H H' → Wk X.K X.mg H' (Zf (cn X H0 Gp) σ ρ) J ds → Tn J H') (fun k => ∀ H', Same H H' → XW (cn X H0 Gp) W k σ H') := by
    cases e : ev ρ x with
    | ok d =>
      rw [e] at q
      cases e3 : ev ρ y with
      | ok d2 =>
        rw [e3] at q
        have q1 : ((if lstOnly d && lstOnly d2 then (itemsOf d).bind fun ds => (itemsOf d2).bind fun es => (R.ok (D.lst (zipD ds es)) : R D) else .bad).bind itemsOf).all (fun ds => ∀ J H', Same H H' → Wk X.K X.mg H' (Zf (cn X H0 Gp) σ ρ) J ds → Tn J H') (fun k => ∀ H', Same H H' → XW (cn X H0 Gp) W k σ H') := q
        show (if lstOnly d && lstOnly d2 then (itemsOf d).bind fun ds => (itemsOf d2).bind fun es => R.ok (zipD ds es) else .bad).all _ _
        by_cases hl : (lstOnly d && lstOnly d2) = true
        · rw [if_pos hl] at q1 ⊢
          cases e4 : itemsOf d with
          | ok ds =>
            rw [e4] at q1
            cases e5 : itemsOf d2 with
            | ok es => rw [e5] at q1; exact q1
            | exc k => rw [e5] at q1; exact q1
            | bad => rw [e5] at q1; exact q1
          | exc k => rw [e4] at q1; exact q1
          | bad => rw [e4] at q1; exact q1
        · rw [if_neg hl] at q1; exact q1.elim
      | exc k => rw [e3] at q; exact q
      | bad => rw [e3] at q; exact q
    | exc k => rw [e] at q; exact q
    | bad => rw [e] at q; exact q
  refine tX_then er q' fun d v H1 e1 po er1 q1 => ?_
  refine tX_then er1 q1 fun d2 v2 H2 e2 po2 er2 q2 => ?_
  by_cases hl : (lstOnly d && lstOnly d2) = true
  · rw [if_pos hl] at q2
    rw [Bool.and_eq_true] at hl
    cases e4 : itemsOf d with
    | ok ds =>
      rw [e4] at q2
      cases e5 : itemsOf d2 with
      | ok es =>
        rw [e5] at q2
        obtain ⟨a, xs, rfl, s1, s2, ra⟩ := items_lst (c := cn X H0 Gp) ((po.rp h6).same po2.same) e4 (fun z hz => by rw [hz] at hl; cases hl.1) (fun z hz => by rw [hz] at hl; cases hl.1)
        obtain ⟨b, ys, rfl, t1, t2, rb⟩ := items_lst (c := cn X H0 Gp) (po2.rp h7) e5 (fun z hz => by rw [hz] at hl; cases hl.2) (fun z hz => by rw [hz] at hl; cases hl.2)
        exact ⟨a, b, xs, ys, rfl, s1, t1, q2 _ _ (po.same.trans po2.same) (wk_zip s2 t2 ra rb)⟩
      | exc k => unfold itemsOf at e5; split at e5 <;> cases e5
      | bad => rw [e5] at q2; exact q2.elim
    | exc k => unfold itemsOf at e4; split at e4 <;> cases e4
    | bad => rw [e4] at q2; exact q2.elim
  · rw [if_neg hl] at q2
    exact q2.elim
end OL
namespace OL
open PySem PySem.Spec PyProof.Rows L2
def no : WX := fun _ _ _ _ => False
/-- the readings of a comprehension's parts, whatever they stand on -/
def tE (K : PySem.W.Frag) (mg : Str → Option Value) (W : WX) (x : Ex) (σ0 : Sg) : TE := fun σ H Q => ∃ (H0 : Hp) (Gp : GQ), tX ⟨K, mg, H0, Gp⟩ (fun c d _ H => W c d σ0 H) x σ H Q
def tC2 (K : PySem.W.Frag) (mg : Str → Option Value) (x : Ex) : TT := if isNop x then tYes else fun σ H Q => ∃ (H0 : Hp) (Gp : GQ), tT ⟨K, mg, H0, Gp⟩ no x σ H Q
theorem Good.blk {tb : Fn → Prop} {tg : String → D → Prop} {X : Cx} {hot : Bool} (G : Good tb tg X hot) (s : Shared) (H : Hp) (scope : Scope) (env : Env) (fp : List Addr) : Good tb tg (X.blk s H scope env fp) hot :=
  ⟨G.nd, G.un, G.calm, fun h f hf => let c := G.calls h f hf; ⟨c.ex, c.dfl⟩, G.blt, G.oth, G.xk, G.gle, G.glb⟩
theorem Good.bx {tb : Fn → Prop} {tg : String → D → Prop} {X : Cx} {hot : Bool} (G : Good tb tg X hot) (s : Shared) (H : Hp) (scope : Scope) (env : Env) (fp : List Addr) (W : WX) (σ : Sg) : Good tb tg (bx X s H scope env fp W σ) hot :=
  ⟨G.nd, G.un, G.calm, fun h f hf => let c := G.calls h f hf; ⟨c.ex, c.dfl⟩, G.blt, G.oth, G.xk, G.gle, G.glb⟩
mutual
theorem setT_noexc : ∀ (t : Tg) (d : D) (ρ : En) (k : String), setT t d ρ ≠ .exc k
  | .nm i, d, ρ, k, h => by
    unfold setT at h
    split at h <;> cases h
  | .tp ts, d, ρ, k, h => by
    cases d <;> (unfold setT at h) <;> first | (cases h; done) | exact setTs_noexc ts _ ρ k h
theorem setTs_noexc : ∀ (ts : List Tg) (ds : List D) (ρ : En) (k : String), setTs ts ds ρ ≠ .exc k
  | [], [], ρ, k, h => by unfold setTs at h; cases h
  | [], _ :: _, ρ, k, h => by unfold setTs at h; cases h
  | _ :: _, [], ρ, k, h => by unfold setTs at h; cases h
  | t :: ts, d :: ds, ρ, k, h => by
    unfold setTs at h
    cases e : setT t d ρ with
    | ok ρ' => rw [e] at h; exact setTs_noexc ts ds ρ' k h
    | exc k' => exact setT_noexc t d ρ k' e
    | bad => rw [e] at h; cases h
end
theorem list_ext {α : Type} {l l' : List α} (h : ∀ i : Nat, l[i]? = l'[i]?) : l = l' := List.ext_getElem? h
theorem wipe_same {σ σ' : Sg} {vs : List Nat} (hl : σ'.length = σ.length) (h : ∀ i, i ∉ vs → σ'[i]? = σ[i]?) : wipe σ' vs = wipe σ vs := by
  induction vs generalizing σ σ' with
  | nil => exact list_ext fun i => h i (by simp)
  | cons v vs ih =>
    refine list_ext fun i => ?_
    by_cases hi : i ∈ v :: vs
    · -- both are empty there, or out of range
      have len1 : (wipe σ' (v :: vs)).length = (wipe σ (v :: vs)).length := by rw [wipe_length, wipe_length, hl]
      by_cases hb : i < (wipe σ (v :: vs)).length
      · have at_none : ∀ {τ : Sg}, i < (wipe τ (v :: vs)).length → (wipe τ (v :: vs))[i]? = some none := fun {τ} hb => by
          cases e : (wipe τ (v :: vs))[i]? with
          | none => rw [List.getElem?_eq_none_iff] at e; omega
          | some o =>
            cases o with
            | none => rfl
            | some x => exact absurd hi (wipe_some e).2
        rw [at_none hb, at_none (by rw [len1]; exact hb)]
      · rw [List.getElem?_eq_none (by omega), List.getElem?_eq_none (by omega)]
    · rw [wipe_out hi, wipe_out hi]
      exact h i hi
theorem wipe_wipe (σ : Sg) (vs : List Nat) : wipe (wipe σ vs) vs = wipe σ vs := wipe_same (wipe_length _ _) fun i hi => wipe_out hi
theorem lc_all {elt it cond : Ex} {tg : Tg} (he : Snd elt) (hi : Pis it) (hd : Snd cond) {X : Cx} {H0 : Hp} {Gp : GQ} {W : WX} {tb : Fn → Prop} {tgl : String → D → Prop} {a t i : Expr} {ifs : List Expr} {scope : Scope} {p : Pos}
    (G : Good tb tgl X false) (tk : TakesF X W) (hc : cal tb tgl elt ∧ cal tb tgl it ∧ cal tb tgl cond) (h1 : blkC X.N X.env.scope scope (ownT tg t) = true) (h2 : ckG X.N false (relS scope X.env.scope) tg t = true) (h3 : ck X.N elt (relS scope X.env.scope) a = true)
    (h4 : ckCd X.N cond (relS scope X.env.scope) ifs = true) (h5 : nb elt = true) (h6 : (ownT tg t).map (·.2) = slotsT tg) (h7 : ckI X.N it X.env.scope i (isTup t) = true) (h8 : ∀ es k q, i ≠ .Set es k q) :
    PI X t i (tI (cn X H0 Gp) W it) ∧ BlkOk X.N X.env.scope scope (ownT tg t) ∧ (∀ (s : Shared) (H : Hp) (C : Addr) (cl : List (Str × Addr)) (fp : List Addr), PG (X.blk s H scope (compEnvC scope cl C X.env) fp) t (gOf X.K tg)) ∧
    (∀ (s : Shared) (H : Hp) (C : Addr) (cl : List (Str × Addr)) (fp : List Addr), PTs (X.blk s H scope (compEnvC scope cl C X.env) fp) ifs (tC2 X.K X.mg cond)) ∧
    (∀ (σ : Sg) (s : Shared) (H : Hp) (C : Addr) (cl : List (Str × Addr)) (fp : List Addr), PE (bx X s H scope (compEnvC scope cl C X.env) fp W σ) a (tE X.K X.mg W elt σ)) ∧ (∀ x, foldedSetIterable i X.env x = pure x) ∧
    ∀ σ H Q, tX (cn X H0 Gp) W (.lc elt tg it cond) σ H Q → tLcX (tI (cn X H0 Gp) W it) (gOf X.K tg) (tC2 X.K X.mg cond) (tE X.K X.mg W elt) ((ownT tg t).map (·.2)) σ H Q := by
    have pi := hi (H0 := H0) (Gp := Gp) G tk hc.2.1 h7
    have pg : ∀ (s : Shared) (H : Hp) (C : Addr) (cl : List (Str × Addr)) (fp : List Addr), PG (X.blk s H scope (compEnvC scope cl C X.env) fp) t (gOf X.K tg) := fun s H C cl fp =>
      pg_of (X := X.blk s H scope (compEnvC scope cl C X.env) fp) (cel := false) G.nd (G.calm rfl) (fun z => by cases z) h2
    have pl : ∀ (σ : Sg) (s : Shared) (H : Hp) (C : Addr) (cl : List (Str × Addr)) (fp : List Addr), PE (bx X s H scope (compEnvC scope cl C X.env) fp W σ) a (tE X.K X.mg W elt σ) := fun σ0 s H C cl fp => ⟨fun pins s' σ H' Q I q => by
      obtain ⟨H1, G1, q⟩ := q
      exact (he.pe (X := bx X s H scope (compEnvC scope cl C X.env) fp W σ0) (H0 := H1) (Gp := G1) (W := fun c d _ H => W c d σ0 H) (G.bx s H scope _ fp W σ0) (takes_bx tk rfl) (fun z => by cases z) hc.1 h3).run pins s' σ H' Q I q⟩
    have pt : ∀ (s : Shared) (H : Hp) (C : Addr) (cl : List (Str × Addr)) (fp : List Addr), PTs (X.blk s H scope (compEnvC scope cl C X.env) fp) ifs (tC2 X.K X.mg cond) := fun s H C cl fp => by
      by_cases hn : isNop cond = true
      · unfold tC2
        rw [if_pos hn]
        cases cond <;> (try (cases hn; done))
        cases ifs with
        | nil => exact pts_nil
        | cons _ _ => simp [ckCd, cdC, isNop] at h4
      · unfold tC2
        rw [if_neg hn]
        have z : ∃ b, ifs = [b] ∧ ck X.N cond (relS scope X.env.scope) b = true := by
          cases ifs with
          | nil => cases cond <;> first | (exact absurd rfl hn) | (simp [ckCd, cdC, isNop] at h4)
          | cons b bs =>
            cases bs with
            | nil => exact ⟨b, rfl, by cases cond <;> first | (exact absurd rfl hn) | (unfold ckCd at h4; exact h4)⟩
            | cons _ _ => cases cond <;> first | (exact absurd rfl hn) | (simp [ckCd, cdC, isNop] at h4)
        obtain ⟨b, rfl, hb⟩ := z
        refine pts_one ⟨fun pins s' σ H' Q I q => ?_⟩
        obtain ⟨H1, G1, q⟩ := q
        exact (hd.pt (X := X.blk s H scope (compEnvC scope cl C X.env) fp) (H0 := H1) (Gp := G1) (W := no) (G.blk s H scope _ fp) takesF0 (fun z => by cases z) hc.2.2 hb).run pins s' σ H' Q I q
    refine ⟨pi, blkOk_by h1, pg, pt, pl, fun x => by (cases i <;> first | rfl | exact absurd rfl (h8 _ _ _)), fun σ H Q q => ?_⟩
    obtain ⟨ρ, er, q⟩ := q
    rw [h6]
    refine ⟨ρ, er, ?_⟩
    unfold ev at q
    cases e1 : (ev ρ it).bind itemsOf with
    | exc k => rw [e1] at q; exact q
    | bad => rw [e1] at q; exact q
    | ok ds =>
    rw [e1] at q
    intro J H1 s1 wk D hD
    by_cases hn : (slotsT tg).all (notOwn ρ) = true
    case neg =>
      have q' : (if (!(slotsT tg).all (notOwn ρ)) = true then R.bad else _).all _ _ := q
      rw [if_pos (by simp only [Bool.not_eq_true] at hn; rw [hn]; rfl)] at q'
      exact q'.elim
    have q' : (if (!(slotsT tg).all (notOwn ρ)) = true then R.bad else _).all _ _ := q
    rw [if_neg (by rw [hn]; decide)] at q'
    clear q
    generalize hf : (fun d => if isNop cond = true then R.ok (OL.D.bl true) else (setT tg d (wipeN ρ (slotsT tg))).bind fun ρ' => ev ρ' cond) = f at q'
    generalize hg : (fun d => (setT tg d (wipeN ρ (slotsT tg))).bind fun ρ' => ev ρ' elt) = g at q'
    obtain ⟨r0, hr0⟩ : ∃ r0, r0 = lcR ds f g := ⟨_, rfl⟩
    have q2 : (lcT ds r0).all (fun d => ∀ v H', Po (cn X H0 Gp) σ ρ (.lc elt tg it cond) H H' d v → Q v H') (fun k => ∀ H', Same H H' → XW (cn X H0 Gp) W k σ H') := by rw [hr0]; exact q'
    have bad0 : r0 = .bad → False := fun z => by rw [z] at q2; exact q2
    clear q'
    have er1 := er.same s1
    have zD : Zf (cn X H0 Gp) σ ρ D := er1.newZ hD
    refine ⟨fun i m Hc => m = ds.length - i ∧ i ≤ ds.length ∧ ∃ dn acc, r0 = (lcR (ds.drop i) f g).bind (fun rs => .ok (dn ++ rs)) ∧ dn.length ≤ i ∧ Hc D = some (.lst acc) ∧ RpA X.K X.mg Hc (fun b => Zf (cn X H0 Gp) σ ρ b ∧ b ≠ D) dn acc ∧ Same H1 Hc,
      ⟨ds.length, by simp, Nat.zero_le _, [], [], by rw [hr0, List.drop_zero]; cases lcR ds f g <;> rfl, Nat.le_refl _, upd_same, .nil, same_upd hD⟩, ?_⟩
    rintro i m Hc ⟨rfl, hile, dn, acc, er0, hdn, hacc, ra, sc⟩
    by_cases hlt : i < ds.length
    · have hst : Stay H1 (Zf (cn X H0 Gp) σ ρ) Hc := .of_same sc
      refine .inr ⟨wk.go Hc i hst hlt, fun H' => (i + 1) ≤ ds.length ∧ ∃ dn acc, r0 = (lcR (ds.drop (i + 1)) f g).bind (fun rs => .ok (dn ++ rs)) ∧ dn.length ≤ i + 1 ∧ H' D = some (.lst acc) ∧ RpA X.K X.mg H' (fun b => Zf (cn X H0 Gp) σ ρ b ∧ b ≠ D) dn acc ∧ Same H1 H',
        fun H' nx => ⟨ds.length - (i + 1), by omega, rfl, nx⟩, fun x H2 y => ?_⟩
      have hdi : ds[i]? = some ds[i] := List.getElem?_eq_getElem hlt
      obtain ⟨s2, rx⟩ := wk.yld Hc i x H2 hst y _ hdi
      have hdrop : ds.drop i = ds[i] :: ds.drop (i + 1) := List.drop_eq_getElem_cons hlt
      rw [hdrop] at er0
      -- the rest of the list, told by its first item
      have stp : lcR (ds[i] :: ds.drop (i + 1)) f g = match f ds[i] with
          | .ok c => match truD c with
            | some true => match g ds[i] with
              | .ok y => (lcR (ds.drop (i + 1)) f g).bind fun ys => .ok (y :: ys)
              | .exc k => .exc k
              | .bad => .bad
            | some false => lcR (ds.drop (i + 1)) f g
            | none => .bad
          | _ => .bad := by
        (conv => lhs; unfold lcR)
        all_goals rfl
      rw [stp] at er0
      have erc := er1.same sc
      have er3 := erc.same s2
      -- the block's slots, away from the list that is made
      have D2 : H2 D = some (.lst acc) := s2 _ _ hacc
      have eqo := own_wipe (σ := σ) (ρ := ρ) (vs := slotsT tg) hn
      have stays : ∀ b o, H1 b = some o → b ≠ D := fun b o e => ne_of_none e hD
      let c' : Cn := aw (cn X H0 Gp) D
      have erw : ER c' H2 (wipe σ (slotsT tg)) (wipeN ρ (slotsT tg)) := by
        have w := er1.wipe hn
        exact w.wG (sc.trans s2) (.aw w (fun q e => (sc.trans s2).free e) hD D2)
      have rx' : Rp X.K X.mg H2 (Zf c' (wipe σ (slotsT tg)) (wipeN ρ (slotsT tg))) ds[i] x := rx.weak fun b o e z => by
        have nb : b ≠ D ∧ Zf (cn X H0 Gp) σ ρ b := by
          rcases z with ⟨z, o', e'⟩ | z
          · exact ⟨stays b o' e', z⟩
          · exact ⟨fun w => by (subst w; rw [hacc] at z; cases z), erc.newZ z⟩
        exact ⟨⟨nb.2.1, nb.1⟩, fun w => nb.2.2 ((eqo b).mp w)⟩
      -- the target
      have setok : ∃ ρ2, setT tg ds[i] (wipeN ρ (slotsT tg)) = .ok ρ2 := by
        cases e5 : setT tg ds[i] (wipeN ρ (slotsT tg)) with
        | ok ρ2 => exact ⟨ρ2, rfl⟩
        | exc k => exact absurd e5 (setT_noexc _ _ _ _)
        | bad =>
          exfalso
          have g0 : g ds[i] = .bad := by rw [← hg]; show (setT tg ds[i] _).bind _ = _; rw [e5]
          by_cases hnp : isNop cond = true
          · have f0 : f ds[i] = .ok (.bl true) := by rw [← hf]; exact if_pos hnp
            rw [f0, g0] at er0
            exact bad0 er0
          · have f0 : f ds[i] = .bad := by rw [← hf]; show (if isNop cond = true then _ else _) = _; rw [if_neg hnp, e5]
            rw [f0] at er0
            exact bad0 er0
      obtain ⟨ρ2, hset⟩ := setok
      have gd : g ds[i] = ev ρ2 elt := by rw [← hg]; show (setT tg ds[i] _).bind _ = _; rw [hset]
      rw [gd] at er0
      refine gOf_ok (c := c') erw rx' hset fun σ2 er4 ow sl ln => ⟨?_, ?_⟩
      · rw [wipe_same (ln.trans rfl) fun j hj => (sl j hj).1]
        exact wipe_wipe σ (slotsT tg)
      · -- what is one's own is the same
        have ow2 : ∀ b, own σ2 ρ2 b ↔ own σ ρ b := fun b => ⟨fun w => (eqo b).mp (ow b w), fun w => by
          obtain ⟨j, es, f1, f2⟩ := (eqo b).mpr w
          have hj : j ∉ slotsT tg := fun m => by
            rcases wipe_at f1 with ⟨_, z⟩ | ⟨m2, _⟩
            · cases z
            · exact m2 m
          exact ⟨j, es, by rw [(sl j hj).2]; exact f1, by rw [(sl j hj).1]; exact f2⟩⟩
        have zof : ∀ b, Zf c' σ2 ρ2 b → Zf (cn X H0 Gp) σ ρ b ∧ b ≠ D := fun b z => ⟨⟨z.1.1, fun w => z.2 ((ow2 b).mpr w)⟩, z.1.2⟩
        -- the test, then the item
        have item : ∀ (H3 : Hp), Same H2 H3 → (r0 = (match ev ρ2 elt with | .ok y => (lcR (ds.drop (i + 1)) f g).bind fun ys => R.ok (y :: ys) | .exc k => .exc k | .bad => .bad).bind fun rs => .ok (dn ++ rs)) →
            tE X.K X.mg W elt σ σ2 H3 fun y H4 => ∃ acc, H4 D = some (.lst acc) ∧ acc.length < sizeLine ∧ ((i + 1) ≤ ds.length ∧ ∃ dn acc', r0 = (lcR (ds.drop (i + 1)) f g).bind (fun rs => .ok (dn ++ rs)) ∧ dn.length ≤ i + 1 ∧ (upd H4 D (.lst (acc ++ [y]))) D = some (.lst acc') ∧ RpA X.K X.mg (upd H4 D (.lst (acc ++ [y]))) (fun b => Zf (cn X H0 Gp) σ ρ b ∧ b ≠ D) dn acc' ∧ Same H1 (upd H4 D (.lst (acc ++ [y])))) := by
          intro H3 s3 er5
          refine ⟨H0, (aw (cn X H0 Gp) D).G, ρ2, er4.same s3, ?_⟩
          cases ey : ev ρ2 elt with
          | bad => rw [ey] at er5; exact (bad0 er5).elim
          | exc k =>
            rw [ey] at er5
            have er5 : r0 = .exc k := er5
            rw [er5] at q2
            intro H' sH C h1 h2
            have q3 : (if ds.length ≤ 16777216 then (R.exc k : R OL.D) else .bad).all (fun d => ∀ v H', Po (cn X H0 Gp) σ ρ (.lc elt tg it cond) H H' d v → Q v H') (fun k => ∀ H', Same H H' → XW (cn X H0 Gp) W k σ H') := q2
            split at q3
            · exact q3 H' ((((s1.trans sc).trans s2).trans s3).trans sH) C h1 h2
            · exact q3.elim
          | ok y =>
            rw [ey] at er5
            have er5 : r0 = ((lcR (ds.drop (i + 1)) f g).bind fun ys => R.ok (y :: ys)).bind fun rs => .ok (dn ++ rs) := er5
            intro v H4 po
            have D4 : H4 D = some (.lst acc) := po.same _ _ (s3 _ _ D2)
            have er6 : r0 = (lcR (ds.drop (i + 1)) f g).bind (fun rs => .ok ((dn ++ [y]) ++ rs)) := by
              rw [er5]
              cases lcR (ds.drop (i + 1)) f g with
              | ok rs =>
                show R.ok (dn ++ (y :: rs)) = .ok ((dn ++ [y]) ++ rs)
                rw [List.append_assoc]; rfl
              | exc k => rfl
              | bad => rfl
            have hl : acc.length < 16777216 := by
              have := ra.length
              cases e7 : lcR (ds.drop (i + 1)) f g with
              | ok rs =>
                rw [e7] at er6
                have er6 : r0 = .ok ((dn ++ [y]) ++ rs) := er6
                rw [er6] at q2
                have q3 : (if ((dn ++ [y]) ++ rs).length ≤ 16777216 then (R.ok (OL.D.lst ((dn ++ [y]) ++ rs)) : R OL.D) else .bad).all (fun d => ∀ v H', Po (cn X H0 Gp) σ ρ (.lc elt tg it cond) H H' d v → Q v H') (fun k => ∀ H', Same H H' → XW (cn X H0 Gp) W k σ H') := q2
                split at q3
                · rename_i hlen
                  simp only [List.length_append, List.length_cons, List.length_nil] at hlen
                  omega
                · exact q3.elim
              | exc k =>
                rw [e7] at er6
                have er6 : r0 = .exc k := er6
                rw [er6] at q2
                have q3 : (if ds.length ≤ 16777216 then (R.exc k : R OL.D) else .bad).all (fun d => ∀ v H', Po (cn X H0 Gp) σ ρ (.lc elt tg it cond) H H' d v → Q v H') (fun k => ∀ H', Same H H' → XW (cn X H0 Gp) W k σ H') := q2
                split at q3
                · omega
                · exact q3.elim
              | bad =>
                rw [e7] at er6
                exact (bad0 er6).elim
            have s14 : Same Hc H4 := (s2.trans s3).trans po.same
            have sty : Stay H4 (fun b => Zf (cn X H0 Gp) σ ρ b ∧ b ≠ D) (upd H4 D (.lst (acc ++ [v]))) := fun b o e z => by
              by_cases hb : b = D
              · subst hb
                rw [D4] at e; cases e
                exact absurd rfl (z rfl).2
              · rw [upd_ne hb]; exact e
            refine ⟨acc, D4, by rw [line_eq]; exact hl, hlt, dn ++ [y], _, er6, by rw [List.length_append, List.length_cons, List.length_nil]; omega, upd_same, ?_, fun b o e => by rw [upd_ne (stays b o e)]; exact s14 _ _ (sc _ _ e)⟩
            refine RpA.append ((ra.same s14).mono sty fun _ _ _ z => z) (.cons (((po.rp h5).weak fun b _ _ z => zof b z).mono sty fun _ _ _ z => z) .nil)
        have skip : ∀ (H3 : Hp), Same H2 H3 → r0 = (lcR (ds.drop (i + 1)) f g).bind (fun rs => .ok (dn ++ rs)) → ((i + 1) ≤ ds.length ∧ ∃ dn acc, r0 = (lcR (ds.drop (i + 1)) f g).bind (fun rs => .ok (dn ++ rs)) ∧ dn.length ≤ i + 1 ∧ H3 D = some (.lst acc) ∧ RpA X.K X.mg H3 (fun b => Zf (cn X H0 Gp) σ ρ b ∧ b ≠ D) dn acc ∧ Same H1 H3) := fun H3 s3 el =>
          ⟨hlt, dn, acc, el, Nat.le_succ_of_le hdn, s3 _ _ D2, ra.same (s2.trans s3), (sc.trans s2).trans s3⟩
        by_cases hnp : isNop cond = true
        · have f0 : f ds[i] = .ok (.bl true) := by rw [← hf]; exact if_pos hnp
          rw [f0] at er0
          unfold tC2
          rw [if_pos hnp]
          have w := item H2 (Same.refl _) er0
          unfold tYes
          dsimp only
          rw [if_pos rfl]
          exact w
        · have f0 : f ds[i] = ev ρ2 cond := by rw [← hf]; show (if isNop cond = true then _ else _) = _; rw [if_neg hnp, hset]
          rw [f0] at er0
          unfold tC2
          rw [if_neg hnp]
          refine ⟨H0, (aw (cn X H0 Gp) D).G, ρ2, er4, ?_⟩
          unfold tst
          cases e6 : ev ρ2 cond with
          | ok k =>
            rw [e6] at er0
            show (match truD k with | some b => R.ok b | none => R.bad).all _ _
            cases e7 : truD k with
            | none =>
              have er0' : r0 = (match truD k with | some true => (match ev ρ2 elt with | .ok y => (lcR (ds.drop (i + 1)) f g).bind fun ys => R.ok (y :: ys) | .exc k => .exc k | .bad => .bad) | some false => lcR (ds.drop (i + 1)) f g | none => R.bad).bind fun rs => .ok (dn ++ rs) := er0
              rw [e7] at er0'
              exact (bad0 er0').elim
            | some b =>
              have er0' : r0 = (match truD k with | some true => (match ev ρ2 elt with | .ok y => (lcR (ds.drop (i + 1)) f g).bind fun ys => R.ok (y :: ys) | .exc k => .exc k | .bad => .bad) | some false => lcR (ds.drop (i + 1)) f g | none => R.bad).bind fun rs => .ok (dn ++ rs) := er0
              rw [e7] at er0'
              intro H3 s3
              cases b with
              | true => exact iteT (item H3 s3 er0')
              | false => exact iteF (skip H3 s3 er0')
          | exc k => rw [e6] at er0; exact (bad0 er0).elim
          | bad => rw [e6] at er0; exact (bad0 er0).elim
    · have e : i = ds.length := by omega
      subst e
      refine .inl ⟨wk.stop Hc _ (.of_same sc) (Nat.le_refl _), ?_⟩
      rw [List.drop_length] at er0
      have er0 : r0 = .ok (dn ++ []) := er0
      rw [List.append_nil] at er0
      rw [er0] at q2
      have q3 : (if dn.length ≤ 16777216 then (R.ok (OL.D.lst dn) : R OL.D) else .bad).all (fun d => ∀ v H', Po (cn X H0 Gp) σ ρ (.lc elt tg it cond) H H' d v → Q v H') (fun k => ∀ H', Same H H' → XW (cn X H0 Gp) W k σ H') := q2
      split at q3
      case isFalse => exact q3.elim
      have r2 : Rp X.K X.mg Hc (Zf (cn X H0 Gp) σ ρ) (.lst dn) (.ref D) := .lst hacc zD (ra.weak fun _ _ _ z => z.1)
      refine q3 _ _ ⟨s1.trans sc, .p r2, fun _ => r2, fun _ es z => ?_⟩
      cases z
      exact ⟨D, acc, rfl, s1.free hD, hacc, ra⟩
theorem snd_lc {elt it cond : Ex} {tg : Tg} (he : Snd elt) (hi : Pis it) (hd : Snd cond) : Snd (.lc elt tg it cond) := by
  have pe : ∀ {X : Cx} {H0 : Hp} {Gp : GQ} {W : WX} {tb : Fn → Prop} {tgl : String → D → Prop} {hot : Bool} {e : Expr}, Good tb tgl X hot → TakesF X W → (hot = true → hotOk (.lc elt tg it cond) = true) → cal tb tgl (.lc elt tg it cond) → ck X.N (.lc elt tg it cond) X.env.scope e = true → PE X e (tX (cn X H0 Gp) W (.lc elt tg it cond)) := by
    intro X H0 Gp W tb tgl hot e G tk hh hc h
    have ht : hot = false := by cases hot; rfl; (have := hh rfl; unfold hotOk at this; cases this)
    subst ht
    obtain ⟨a, t, i, ifs, scope, p, rfl, h1, h2, h3, h4, h5, h6, h7, h8⟩ := ck_lc h
    unfold cal at hc
    obtain ⟨pi, bk, pg, pt, pl, fs, imp⟩ := lc_all (H0 := H0) (Gp := Gp) (p := p) he hi hd G tk hc h1 h2 h3 h4 h5 h6 h7 h8
    exact pe_imp (pe_lcX tk (G.calm rfl) G.nd pi bk pg pt pl fs) imp
  refine ⟨fun G tk hh c h => pe G tk hh c h, fun G tk hh c h => ?_⟩
  obtain ⟨a, t, i, ifs, scope, p, rfl, _⟩ := ck_lc h
  exact pt_gen (pe G tk hh c h) fun _ => rfl
theorem snd_no {x : Ex} (h : ∀ N sc e, ck N x sc e = false) : Snd x := ⟨fun _ _ _ _ z => by (rw [h] at z; cases z), fun _ _ _ _ z => by (rw [h] at z; cases z)⟩
/- all of it -/
mutual
theorem snd : ∀ x : Ex, Snd x ∧ Pis x
  | .nop => ⟨snd_nop, pis_plain snd_nop rfl⟩
  | .var i => ⟨snd_var i, pis_plain (snd_var i) rfl⟩
  | .bor i => ⟨snd_bor i, pis_plain (snd_bor i) rfl⟩
  | .lit d => ⟨snd_lit d, pis_plain (snd_lit d) rfl⟩
  | .glob n d => ⟨snd_glob n d, pis_plain (snd_glob n d) rfl⟩
  | .tup xs => let h := snd_tup (sndL xs); ⟨h, pis_plain h rfl⟩
  | .lst xs => let h := snd_lst (sndL xs); ⟨h, pis_plain h rfl⟩
  | .bin op x y => let h := snd_bin (op := op) (snd x).1 (snd y).1; ⟨h, pis_plain h rfl⟩
  | .neg x => let h := snd_neg (snd x).1; ⟨h, pis_plain h rfl⟩
  | .cmp op x y => let h := snd_cmp (op := op) (snd x).1 (snd y).1; ⟨h, pis_plain h rfl⟩
  | .chain op op' x y z => let h := snd_chain (op := op) (op' := op') (snd x).1 (snd y).1 (snd z).1; ⟨h, pis_plain h rfl⟩
  | .and xs => let h := snd_and (sndL xs); ⟨h, pis_plain h rfl⟩
  | .or xs => let h := snd_or (sndL xs); ⟨h, pis_plain h rfl⟩
  | .not x => let h := snd_not (snd x).1; ⟨h, pis_plain h rfl⟩
  | .ite c x y => let h := snd_ite (snd c).1 (snd x).1 (snd y).1; ⟨h, pis_plain h rfl⟩
  | .ix x i => let h := snd_ix (snd x).1 (snd i).1; ⟨h, pis_plain h rfl⟩
  | .sl x lo hi => let h := snd_sl (snd x).1 (snd lo).1 (snd hi).1; ⟨h, pis_plain h rfl⟩
  | .call f fl xs => let h := snd_call (f := f) (fl := fl) (sndL xs); ⟨h, pis_plain h rfl⟩
  | .blt b xs => let h := snd_blt (b := b) (sndL xs); ⟨h, pis_plain h rfl⟩
  | .mth m x xs => let h := snd_mth (m := m) (xs := xs) (snd x).1; ⟨h, pis_plain h rfl⟩
  | .isi x cs => let h := snd_isi (cs := cs) (snd x).1; ⟨h, pis_plain h rfl⟩
  | .isx x cs => let h := snd_isx (cs := cs) (snd x).1; ⟨h, pis_plain h rfl⟩
  | .rvl x => let h := snd_rvl (snd x).1; ⟨h, pis_plain h rfl⟩
  | .lc elt tg it cond => let h := snd_lc (tg := tg) (snd elt).1 (snd it).2 (snd cond).1; ⟨h, pis_plain h rfl⟩
  | .sm m x xs => let h := snd_sm (m := m) (snd x).1 (sndL xs); ⟨h, pis_plain h rfl⟩
  | .rng xs => ⟨snd_no fun N sc e => by cases e <;> (unfold ck; rfl), pis_rng (sndL xs)⟩
  | .enum x => ⟨snd_no fun N sc e => by cases e <;> (unfold ck; rfl), pis_enum (snd x).1⟩
  | .zip x y => ⟨snd_no fun N sc e => by cases e <;> (unfold ck; rfl), pis_zip (snd x).1 (snd y).1⟩
  | .revd x => ⟨snd_no fun N sc e => by cases e <;> (unfold ck; rfl), pis_revd (snd x).1⟩
theorem sndL : ∀ xs : List Ex, ∀ x ∈ xs, Snd x
  | [], _, h => by cases h
  | x :: xs, y, h => by
    rcases List.mem_cons.mp h with e | e
    · rw [e]; exact (snd x).1
    · exact sndL xs y e
end
end OL
namespace OL
open PySem PySem.Spec PyProof.Rows L2
theorem sw_par {x y : Str} {a b : Expr} {px py pt pt2 : Pos} {kt k2 : Nat} {env : Env} (hk : env.scope.kind = .function) (hx : env.scope.names.lookup x = some .local) (hy : env.scope.names.lookup y = some .local) (hl : (py.line == px.line) = true) (hxy : (x == y) = false)
    (sa : noStar a = true) (sb : noStar b = true) (hf : [a, b].all (foldedForSure 8) = false) (hc : [a, b].all (constantsAlone 8) = false) :
    swappedStores [.Tuple [.Name x px, .Name y py] kt pt] (.Tuple [a, b] k2 pt2) env = pure (some [x, y]) := by
  have kx : env.kindOf x = some .local := hx
  have ky : env.kindOf y = some .local := hy
  have hb : env.blockKind = .function := by unfold Env.blockKind; rw [hk]; rfl
  have hxy' : (y == x) = false := by
    rw [beq_eq_false_iff_ne] at hxy ⊢
    exact fun z => hxy z.symm
  unfold swappedStores
  simp [hb, kx, ky, hf, hc, Expr.pos, hl, List.filterMap, List.eraseDups, List.eraseDupsBy, List.eraseDupsBy.loop, hxy, hxy']
  intro h
  exfalso
  rcases h with h | h
  · cases a <;> first | (cases h; done) | (cases sa; done)
  · cases b <;> first | (cases h; done) | (cases sb; done)
/-- no comprehension -/
def noComp : Expr → Bool
  | .ListComp .. => false
  | .SetComp .. => false
  | .DictComp .. => false
  | _ => true
theorem sw_none {e : Expr} (h : noComp e = true) (t : Option Expr) (l : Nat) (env : Env) : swapsWith e t l env = pure false := by
  cases e <;> first | rfl | cases h
theorem sw_tupT {e : Expr} {es : List Expr} {k : Nat} {p : Pos} (l : Nat) (env : Env) : swapsWithSole [.Tuple es k p] e l env = pure false := by
  cases e <;> rfl
theorem sw_cell {elt : Expr} {gs : List Comprehension} {scope : Scope} {pos py : Pos} {y : Str} {l : Nat} {env : Env} (hy : env.scope.names.lookup y = some .cell) : swapsWith (.ListComp elt gs scope pos) (some (.Name y py)) l env = pure false := by
  have ky : env.kindOf y = some .cell := hy
  unfold swapsWith
  simp only [ky]
  have z : ((some NameKind.cell : Option NameKind) == some .local) = false := rfl
  simp only [z, Bool.and_false, Bool.false_and]
/-- a tuple that is stored as such -/
def noSwap : Expr → Bool
  | .Tuple vs _ _ => !(vs.length == 2) && !(vs.length == 3)
  | _ => true
theorem sw_some {e : Expr} {ts : List Expr} {k : Nat} {p : Pos} {env : Env} (h : noSwap e = true) : swappedStores [.Tuple ts k p] e env = pure none := by
  unfold swappedStores
  cases e <;> (try rfl)
  rename_i vs k2 p2
  unfold noSwap at h
  rw [Bool.and_eq_true] at h
  have h1 : (vs.length == 2) = false := by simpa using h.1
  have h2 : (vs.length == 3) = false := by simpa using h.2
  by_cases e : vs.length = ts.length
  · rw [e] at h1 h2
    simp [h1, h2]
  · have e' : (vs.length != ts.length) = true := by simpa using e
    simp [e']
theorem pmk_own0 {X : Cx} {C : Addr} {bmB : List Value} {B newId initId : String} {x : Str} {p pos : Pos} (F : ExcBaseFacts B newId initId bmB) (q : PySem.W.excIn X.K C bmB newId = true) (gC : X.mg x = some (.ref C)) (kC : PySem.W.keepIn X.K (.ref C) = true)
    (r : Raises X (.ref C)) (hg : Gl X x) (hdb : (x == ("__debug__" : Str)) = false) : PMk X (.Call (.Name x p) [] [] pos) (fun _ H Q => Q (.ref C) none H) := by
  intro pins s σ H Q I h
  apply wpAny_Call_Name_kw
  apply ld_glob I hg gC _ hdb
  apply PySem.W.callWith_K0 I.kIn kC
  show wpAny _ _ (call (.ref C) []) _ _ _
  obtain ⟨bm, Nn, nm, qn, bs, hdct, sn, sub, ab, col, dd, k0, k1, k2, k3, k5, mN, hC, hN, hni, T⟩ := exc_obj I.kIn q
  refine wpAny_call_exc_subT F T hC hN hni (fun h' e hm => mk_of I hm r h (I.hok.gone hm.new)) ?_
  show 0 ≤ sizeLine
  exact Nat.zero_le _
/-! ### statements -/
/-- what is wanted of a value that is handed back -/
def Ret (c : Cn) (fr : Bool) (H : Hp) (d : D) (v : V) : Prop := c.Qa = none → Same c.H0 H ∧ Rp c.K c.mg H c.Gp d v ∧
  (fr = true → ∀ es, d = .lst es → ∃ a xs, v = .ref a ∧ c.H0 a = none ∧ H a = some (.lst xs) ∧ RpA c.K c.mg H (fun b => c.Gp b ∧ b ≠ a) es xs)
/-- of one that is handed back with the caller's list -/
def RetQ (c : Cn) (fr : Bool) (H : Hp) (d : D) (out : List D) (v : V) : Prop := ∃ (q : Addr) (ys : List V), c.Qa = some q ∧ (∀ b o, c.H0 b = some o → b ≠ q → H b = some o) ∧ H q = some (.lst ys) ∧ RpA c.K c.mg H c.Gp out ys ∧ Rp c.K c.mg H c.Gp d v ∧
  (fr = true → ∀ es, d = .lst es → ∃ a xs, v = .ref a ∧ c.H0 a = none ∧ H a = some (.lst xs) ∧ RpA c.K c.mg H (fun b => c.Gp b ∧ b ≠ a) es xs ∧ RpA c.K c.mg H (fun b => c.Gp b ∧ b ≠ a) out ys)
/-- what stood, but one's own and the caller's list, stands -/
def Stb (c : Cn) (σ : Sg) (ρ : En) (H : Hp) (σ' : Sg) (ρ' : En) (H' : Hp) : Prop := ∀ a o, H a = some o → ¬ own σ ρ a → c.Qa ≠ some a → H' a = some o ∧ ¬ own σ' ρ' a
theorem Stb.trans {c : Cn} {σ σ1 σ2 : Sg} {ρ ρ1 ρ2 : En} {H H1 H2 : Hp} (a : Stb c σ ρ H σ1 ρ1 H1) (b : Stb c σ1 ρ1 H1 σ2 ρ2 H2) : Stb c σ ρ H σ2 ρ2 H2 := fun x o e n m => let ⟨e1, n1⟩ := a x o e n m; b x o e1 n1 m
theorem Stb.refl {c : Cn} {σ : Sg} {ρ : En} {H : Hp} : Stb c σ ρ H σ ρ H := fun _ _ e n _ => ⟨e, n⟩
theorem Stb.same {c : Cn} {σ : Sg} {ρ : En} {H H' : Hp} (s : Same H H') : Stb c σ ρ H σ ρ H' := fun a o e n _ => ⟨s a o e, n⟩
theorem Stb.stay {c : Cn} {σ σ' : Sg} {ρ ρ' : En} {H H' : Hp} (st : Stb c σ ρ H σ' ρ' H') (h : ER c H σ ρ) : Stay H (Zf c σ ρ) H' := h.stay fun a o e n m => (st a o e n m).1
/-- data that stood stands -/
theorem Rp.stb {c : Cn} {σ σ' : Sg} {ρ ρ' : En} {H H' : Hp} {d : D} {v : V} (r : Rp c.K c.mg H (Zf c σ ρ) d v) (h : ER c H σ ρ) (st : Stb c σ ρ H σ' ρ' H') : Rp c.K c.mg H' (Zf c σ' ρ') d v :=
  r.mono (st.stay h) fun a o e z => ⟨z.1, (st a o e z.2 fun q => (h.qg a q).1 z.1).2⟩
theorem RpA.stb {c : Cn} {σ σ' : Sg} {ρ ρ' : En} {H H' : Hp} {d : List D} {v : List V} (r : RpA c.K c.mg H (Zf c σ ρ) d v) (h : ER c H σ ρ) (st : Stb c σ ρ H σ' ρ' H') : RpA c.K c.mg H' (Zf c σ' ρ') d v :=
  r.mono (st.stay h) fun a o e z => ⟨z.1, (st a o e z.2 fun q => (h.qg a q).1 z.1).2⟩
def oA (c : Cn) (W : WX) (fr : Bool) (σ : Sg) (ρ : En) (H : Hp) (Dn : Ends) : O → Prop
  | .nx ρ' => ∀ σ' H', ER c H' σ' ρ' → Stb c σ ρ H σ' ρ' H' → Dn.nx σ' H'
  | .bk ρ' => ∀ σ' H', ER c H' σ' ρ' → Stb c σ ρ H σ' ρ' H' → Dn.bk σ' H'
  | .ct ρ' => ∀ σ' H', ER c H' σ' ρ' → Stb c σ ρ H σ' ρ' H' → Dn.ct σ' H'
  | .rt d => ∀ v H', Ret c fr H' d v → Dn.rt v H'
  | .rq d out => ∀ v H', RetQ c fr H' d out v → Dn.rt v H'
  | .exc k ρ' => ∀ σ' H', ER c H' σ' ρ' → Stb c σ ρ H σ' ρ' H' → XW c W k σ' H'
  | .bad => False
theorem oA.later {c : Cn} {W : WX} {fr : Bool} {σ σ1 : Sg} {ρ ρ1 : En} {H H1 : Hp} {Dn : Ends} (s : Stb c σ ρ H σ1 ρ1 H1) : ∀ {o : O}, oA c W fr σ ρ H Dn o → oA c W fr σ1 ρ1 H1 Dn o
  | .nx _, q => fun σ' H' e s' => q σ' H' e (s.trans s')
  | .bk _, q => fun σ' H' e s' => q σ' H' e (s.trans s')
  | .ct _, q => fun σ' H' e s' => q σ' H' e (s.trans s')
  | .rt _, q => q
  | .rq _ _, q => q
  | .exc _ _, q => fun σ' H' e s' => q σ' H' e (s.trans s')
  | .bad, q => q
def tS1 (c : Cn) (W : WX) (fr : Bool) (s : St) : TS := fun Dn σ H => ∃ ρ, ER c H σ ρ ∧ oA c W fr σ ρ H Dn (exe ρ s)
def tSs (c : Cn) (W : WX) (fr : Bool) (ss : List St) : TS := fun Dn σ H => ∃ ρ, ER c H σ ρ ∧ oA c W fr σ ρ H Dn (exs ρ ss)
/-- an expression first -/
theorem of_ok {c : Cn} {W : WX} {fr : Bool} {σ : Sg} {ρ : En} {H : Hp} {Dn : Ends} {x : Ex} {f : D → O} {Q : VK} (er : ER c H σ ρ) (q : oA c W fr σ ρ H Dn (.of ρ (ev ρ x) f))
    (k : ∀ d v H', ev ρ x = .ok d → Po c σ ρ x H H' d v → ER c H' σ ρ → oA c W fr σ ρ H' Dn (f d) → Q v H') : tX c W x σ H Q := by
  refine ⟨ρ, er, ?_⟩
  cases e : ev ρ x with
  | ok d =>
    rw [e] at q
    exact fun v H' po => k d v H' e po (er.same po.same) (oA.later (.same po.same) q)
  | exc k => rw [e] at q; exact fun H' s => q σ H' (er.same s) (.same s)
  | bad => rw [e] at q; exact q.elim
end OL
/-! Expressions that change a list of one's own, by a def that is called with it. -/
namespace OL
open PySem PySem.Spec PyProof.Rows L2
/-- hands back a new list, if a list at all -/
def frf : Fx → Bool
  | .p x => frx x
  | .io f _ _ => f.fr
  | .iot f _ _ => f.fr
  | .call f _ => f.fr
  | .lst _ => true
  | .lc .. => true
  | _ => false
mutual
def ckF (N : List Str) : Fx → Scope → Expr → Bool
  | .p x, sc, e => ck N x sc e && nb x
  | .io f i xs, sc, .Call (.Name y _) (.Name z _ :: es) [] _ => y == Str.ofString f.name && glB sc y && dbg y && decide (N[i]? = some z) && visB sc z && dbg z && f.io && ckFL N xs sc es
  | .iot f x xs, sc, .Call (.Name y _) (e :: es) [] _ => y == Str.ofString f.name && glB sc y && dbg y && ck N x sc e && frx x && nb x && noStar e && f.io && ckL N xs sc es && xs.all nb
  | .call f xs, sc, .Call (.Name y _) es [] _ => y == Str.ofString f.name && glB sc y && dbg y && !f.io && !xs.isEmpty && ckFL N xs sc es
  | .tup xs, sc, .Tuple es _ _ => ckFL N xs sc es
  | .lst xs, sc, .List es _ => ckFL N xs sc es
  | .bin op x y, sc, .BinOp a o b _ => decide (o = opOf op) && ckF N x sc a && ckF N y sc b
  | .cmp op x y, sc, .Compare a [o] [b] _ => decide (o = cpOf op) && !(behindInMarks o b) && ckF N x sc a && ckF N y sc b
  | .neg x, sc, .UnaryOp o a _ => decide (o = .USub) && ckF N x sc a
  | .not x, sc, .UnaryOp o a _ => decide (o = .Not) && ckF N x sc a
  | .and xs, sc, .BoolOp o es _ => decide (o = .And) && ckFL N xs sc es && !xs.isEmpty
  | .or xs, sc, .BoolOp o es _ => decide (o = .Or) && ckFL N xs sc es && !xs.isEmpty
  | .ix x i, sc, .Subscript a b _ => noSlice b && ckF N x sc a && ckF N i sc b
  | .blt b xs, sc, .Call (.Name x _) es [] _ => x == bltName b && glB sc x && ckFL N xs sc es && !xs.isEmpty
  | .sl x lo hi, sc, .Subscript a (.Slice l h none _) _ => ckF N x sc a && optC (isNopF lo) l (fun e => ckF N lo sc e) && optC (isNopF hi) h (fun e => ckF N hi sc e)
  | .lc elt tg it, sc, .ListComp e [⟨t, i, ifs, n⟩] scope _ => decide (n = 0) && ifs.isEmpty && blkC N sc scope (ownT tg t) && ckG N false (relS scope sc) tg t && ckF N elt (relS scope sc) e &&
      decide ((ownT tg t).map (·.2) = slotsT tg) && (match it with | .p x => ckI N x sc i (isTup t) | .rng xs => ckR N xs sc i | _ => false) && !(match i with | .Set .. => true | _ => false)
  | _, _, _ => false
def ckFL (N : List Str) : List Fx → Scope → List Expr → Bool
  | [], _, [] => true
  | x :: xs, sc, e :: es => ckF N x sc e && noStar e && ckFL N xs sc es
  | _, _, _ => false
/-- range -/
def ckR (N : List Str) : List Fx → Scope → Expr → Bool
  | [x], sc, .Call (.Name f _) [a] [] _ => f == ("range" : Str) && glB sc f && noStar a && ckF N x sc a
  | [x, y], sc, .Call (.Name f _) [a, b] [] _ => f == ("range" : Str) && glB sc f && noStar a && noStar b && ckF N x sc a && ckF N y sc b
  | _, _, _ => false
end
def ckFI (N : List Str) (it : Fx) (sc : Scope) (i : Expr) (tup : Bool) : Bool := match it with | .p x => ckI N x sc i tup | .rng xs => ckR N xs sc i | _ => false
mutual
def calF (tb : Fn → Prop) (tg : String → D → Prop) : Fx → Prop
  | .p x => cal tb tg x
  | .io f _ xs => tb f ∧ calFL tb tg xs
  | .iot f x xs => tb f ∧ cal tb tg x ∧ calL tb tg xs
  | .call f xs => tb f ∧ calFL tb tg xs
  | .tup xs => calFL tb tg xs
  | .lst xs => calFL tb tg xs
  | .bin _ x y => calF tb tg x ∧ calF tb tg y
  | .cmp _ x y => calF tb tg x ∧ calF tb tg y
  | .neg x => calF tb tg x
  | .not x => calF tb tg x
  | .and xs => calFL tb tg xs
  | .or xs => calFL tb tg xs
  | .ix x i => calF tb tg x ∧ calF tb tg i
  | .blt _ xs => calFL tb tg xs
  | .lc elt _ it => calF tb tg elt ∧ calF tb tg it
  | .rng xs => calFL tb tg xs
  | .sl x lo hi => calF tb tg x ∧ calF tb tg lo ∧ calF tb tg hi
def calFL (tb : Fn → Prop) (tg : String → D → Prop) : List Fx → Prop
  | [] => True
  | x :: xs => calF tb tg x ∧ calFL tb tg xs
end
theorem star_ofF {N : List Str} : ∀ {xs : List Fx} {sc : Scope} {es : List Expr}, ckFL N xs sc es = true → ∀ (env : Env) (pos : Pos), (backTo pos (starEach es env)).any (·.1) = false
  | [], _, [], _, _, _ => rfl
  | [], _, _ :: _, h, _, _ => by unfold ckFL at h; cases h
  | _ :: _, _, [], h, _, _ => by unfold ckFL at h; cases h
  | x :: xs, sc, e :: es, h, env, pos => by
    unfold ckFL at h
    rw [Bool.and_eq_true, Bool.and_eq_true] at h
    rw [star_of h.1.2]
    show (false || (backTo pos (starEach es env)).any (·.1)) = false
    rw [star_ofF h.2 env pos]
    rfl
/-! ### what an error leaves -/
theorem xen_at {ρ : En} {i : Nat} {s : Sl} (h : (xen ρ)[i]? = some s) : (∀ ds, s ≠ .o ds) ∧ (∀ ds, s ≠ .q ds) ∧ ∀ d, s = .v d → ρ[i]? = some (.v d) := by
  unfold xen at h
  rw [List.getElem?_map] at h
  cases e : ρ[i]? with
  | none => rw [e] at h; cases h
  | some s' =>
    rw [e] at h
    have h' : xenS s' = s := Option.some.inj h
    subst h'
    cases s' with
    | n => exact ⟨fun _ z => (by cases z), fun _ z => (by cases z), fun _ z => by cases z⟩
    | v d => exact ⟨fun _ z => (by cases z), fun _ z => (by cases z), fun _ z => by cases z; rfl⟩
    | o d => exact ⟨fun _ z => (by cases z), fun _ z => (by cases z), fun _ z => by cases z⟩
    | q d => exact ⟨fun _ z => (by cases z), fun _ z => (by cases z), fun _ z => by cases z⟩
theorem own_xen {σ : Sg} {ρ : En} {a : Addr} : ¬ own σ (xen ρ) a := fun ⟨i, ds, e, _⟩ => (xen_at e).1 ds rfl
/-- behind an error: what stood but the list at a (one's own, or the caller's) stands -/
theorem ER.xenG {c : Cn} {H H' : Hp} {σ : Sg} {ρ : En} (h : ER c H σ ρ) {P : Addr → Prop} (hP : ∀ a, P a → own σ ρ a ∨ c.Qa = some a) (st : ∀ b o, H b = some o → ¬ P b → H' b = some o) (e' : ∀ a, P a → ∃ ys, H' a = some (.lst ys)) : ER c H' σ (xen ρ) := by
  have dom : ∀ b, H' b = none → H b = none := fun b hb => by
    cases e1 : H b with
    | none => rfl
    | some o =>
      by_cases z : P b
      · obtain ⟨ys, e2⟩ := e' b z; rw [e2] at hb; cases hb
      · rw [st b o e1 z] at hb; cases hb
  have st0 : Stay H (Zf c σ ρ) H' := h.stay fun a o e1 n1 n2 => st a o e1 fun z => (hP a z).elim n1 n2
  refine ⟨by unfold xen; rw [List.length_map]; exact h.len, fun b o e1 n1 => ?_, fun b hb => h.nw b (dom b hb), fun b hb => h.dm b (dom b hb), fun a e1 => ?_, fun j fs q1 => ?_, fun j d q1 => ?_, fun j fs q1 => ?_, fun j k a fs gs q1 q2 e1 e2 => ?_⟩
  · refine st b o (h.sm b o e1 n1) fun z => ?_
    rcases hP b z with ⟨j, fs, g1, g2⟩ | z
    · obtain ⟨a, zs, k1, _, k3, _⟩ := h.lst j fs g1
      rw [g2] at k1; cases k1
      rw [k3.1] at e1; cases e1
    · exact n1 z
  · obtain ⟨g1, g2, xs', g3⟩ := h.qg a e1
    refine ⟨g1, g2, ?_⟩
    by_cases z : P a
    · exact e' a z
    · exact ⟨xs', st _ _ g3 z⟩
  · exact absurd rfl ((xen_at q1).2.1 _)
  · obtain ⟨w, k1, r1⟩ := h.val j d ((xen_at q1).2.2 d rfl)
    exact ⟨w, k1, r1.mono st0 fun a o e z => ⟨z.1, own_xen⟩⟩
  · exact absurd rfl ((xen_at q1).1 _)
  · exact absurd rfl ((xen_at q1).1 _)
theorem ER.xen {c : Cn} {H H' : Hp} {σ : Sg} {ρ : En} (h : ER c H σ ρ) (s : Same H H') : ER c H' σ (xen ρ) := h.xenG (P := fun _ => False) (fun _ z => z.elim) (fun b o e _ => s b o e) (fun _ z => z.elim)
theorem stb_xen {c : Cn} {H H' : Hp} {σ : Sg} {ρ : En} (s : Same H H') : Stb c σ ρ H σ (OL.xen ρ) H' := fun a o e _ _ => ⟨s a o e, own_xen⟩
/-- an error's end -/
def EX (c : Cn) (W : WX) (σ : Sg) (ρ : En) (H : Hp) (k : String) : Prop := ∀ H', ER c H' σ (xen ρ) → Stb c σ ρ H σ (xen ρ) H' → XW c W k σ H'
theorem EX.of {c : Cn} {W : WX} {σ : Sg} {ρ : En} {H : Hp} {k : String} (h : EX c W σ ρ H k) (er : ER c H σ ρ) : ∀ H', Same H H' → XW c W k σ H' := fun H' s => h H' (er.xen s) (stb_xen s)
/-! ### readings -/
structure PoX (c : Cn) (σ : Sg) (ρ : En) (x : Fx) (H H' : Hp) (p : D × En) (v : V) : Prop where
  er : ER c H' σ p.2
  st : Stb c σ ρ H σ p.2 H'
  dom : ∀ a, H' a = none → H a = none
  xe : OL.xen p.2 = OL.xen ρ
  rp : Rp c.K c.mg H' (Zf c σ p.2) p.1 v
  fr : frf x = true → ∀ ds, p.1 = .lst ds → ∃ a xs, v = .ref a ∧ H a = none ∧ H' a = some (.lst xs) ∧ ER (aw c a) H' σ p.2 ∧ RpA c.K c.mg H' (fun b => Zf c σ p.2 b ∧ b ≠ a) ds xs
structure PoXs (c : Cn) (σ : Sg) (ρ : En) (H H' : Hp) (p : List D × En) (vs : List V) : Prop where
  er : ER c H' σ p.2
  st : Stb c σ ρ H σ p.2 H'
  dom : ∀ a, H' a = none → H a = none
  xe : OL.xen p.2 = OL.xen ρ
  rp : RpA c.K c.mg H' (Zf c σ p.2) p.1 vs
theorem EX.later {c : Cn} {W : WX} {σ : Sg} {ρ ρ' : En} {H H' : Hp} {k : String} (h : EX c W σ ρ H k) (st : Stb c σ ρ H σ ρ' H') (xe : xen ρ' = xen ρ) : EX c W σ ρ' H' k := fun H'' er st' => h H'' (xe ▸ er) (xe ▸ st.trans st')
def tFX (c : Cn) (W : WX) (x : Fx) : TE := fun σ H Q => ∃ ρ, ER c H σ ρ ∧ (evx ρ x).all (fun p => ∀ v H', PoX c σ ρ x H H' p v → Q v H') (EX c W σ ρ H)
def tFA (c : Cn) (W : WX) (xs : List Fx) : TA := fun σ H Q => ∃ ρ, ER c H σ ρ ∧ (evxs ρ xs).all (fun p => ∀ vs H', PoXs c σ ρ H H' p vs → Q vs H') (EX c W σ ρ H)
def tsx (ρ : En) (x : Fx) : R (Bool × En) := (evx ρ x).bind fun a => match truD a.1 with
  | some b => .ok (b, a.2)
  | none => .bad
/-- behind a test -/
structure PoT (c : Cn) (σ : Sg) (ρ ρ' : En) (H H' : Hp) : Prop where
  er : ER c H' σ ρ'
  st : Stb c σ ρ H σ ρ' H'
  dom : ∀ a, H' a = none → H a = none
  xe : OL.xen ρ' = OL.xen ρ
def tFT (c : Cn) (W : WX) (x : Fx) : TT := fun σ H Q => ∃ ρ, ER c H σ ρ ∧ (tsx ρ x).all (fun p => ∀ H', PoT c σ ρ p.2 H H' → Q p.1 H') (EX c W σ ρ H)
theorem PoX.t {c : Cn} {σ : Sg} {ρ : En} {x : Fx} {H H' : Hp} {p : D × En} {v : V} (h : PoX c σ ρ x H H' p v) : PoT c σ ρ p.2 H H' := ⟨h.er, h.st, h.dom, h.xe⟩
theorem PoXs.t {c : Cn} {σ : Sg} {ρ : En} {H H' : Hp} {p : List D × En} {v : List V} (h : PoXs c σ ρ H H' p v) : PoT c σ ρ p.2 H H' := ⟨h.er, h.st, h.dom, h.xe⟩
theorem PoT.trans {c : Cn} {σ : Sg} {ρ ρ1 ρ2 : En} {H H1 H2 : Hp} (a : PoT c σ ρ ρ1 H H1) (b : PoT c σ ρ1 ρ2 H1 H2) : PoT c σ ρ ρ2 H H2 := ⟨b.er, a.st.trans b.st, fun x h => a.dom x (b.dom x h), b.xe.trans a.xe⟩
theorem PoT.of {c : Cn} {σ : Sg} {ρ : En} {H H' : Hp} (h : ER c H σ ρ) (s : Same H H') : PoT c σ ρ ρ H H' := ⟨h.same s, .same s, fun a e => s.free e, rfl⟩
theorem PoT.ex {c : Cn} {W : WX} {σ : Sg} {ρ ρ' : En} {H H' : Hp} {k : String} (t : PoT c σ ρ ρ' H H') (h : EX c W σ ρ H k) : EX c W σ ρ' H' k := h.later t.st t.xe
/-- an answer that is not asked to be new -/
theorem PoX.mk0 {c : Cn} {σ : Sg} {ρ ρ' : En} {x : Fx} {H H' : Hp} {d : D} {v : V} (t : PoT c σ ρ ρ' H H') (r : Rp c.K c.mg H' (Zf c σ ρ') d v) (f : frf x = false) : PoX c σ ρ x H H' (d, ρ') v := ⟨t.er, t.st, t.dom, t.xe, r, fun z => by rw [f] at z; cases z⟩
theorem tFX_then {c : Cn} {W : WX} {x : Fx} {σ : Sg} {H : Hp} {ρ : En} {Q : VK} {β : Type} {f : D × En → R β} {p : β → Prop} (h : ER c H σ ρ)
    (q : ((evx ρ x).bind f).all p (EX c W σ ρ H))
    (hk : ∀ d ρ' v H', evx ρ x = .ok (d, ρ') → PoX c σ ρ x H H' (d, ρ') v → (f (d, ρ')).all p (EX c W σ ρ' H') → Q v H') : tFX c W x σ H Q := by
  refine ⟨ρ, h, ?_⟩
  cases e : evx ρ x with
  | ok d =>
    rw [e] at q
    intro v H' po
    refine hk d.1 d.2 v H' e po ?_
    have q' : (f d).all p (EX c W σ ρ H) := q
    cases e2 : f d with
    | ok b => rw [e2] at q'; exact q'
    | exc k => rw [e2] at q'; exact po.t.ex q'
    | bad => rw [e2] at q'; exact q'.elim
  | exc k => rw [e] at q; exact q
  | bad => rw [e] at q; exact q.elim
theorem tFA_then {c : Cn} {W : WX} {xs : List Fx} {σ : Sg} {H : Hp} {ρ : En} {Q : List V → Hp → Prop} {β : Type} {f : List D × En → R β} {p : β → Prop} (h : ER c H σ ρ)
    (q : ((evxs ρ xs).bind f).all p (EX c W σ ρ H))
    (hk : ∀ ds ρ' vs H', evxs ρ xs = .ok (ds, ρ') → PoXs c σ ρ H H' (ds, ρ') vs → (f (ds, ρ')).all p (EX c W σ ρ' H') → Q vs H') : tFA c W xs σ H Q := by
  refine ⟨ρ, h, ?_⟩
  cases e : evxs ρ xs with
  | ok d =>
    rw [e] at q
    intro v H' po
    refine hk d.1 d.2 v H' e po ?_
    have q' : (f d).all p (EX c W σ ρ H) := q
    cases e2 : f d with
    | ok b => rw [e2] at q'; exact q'
    | exc k => rw [e2] at q'; exact po.t.ex q'
    | bad => rw [e2] at q'; exact q'.elim
  | exc k => rw [e] at q; exact q
  | bad => rw [e] at q; exact q.elim
/-- sound -/
structure SndF (x : Fx) : Prop where
  pe : ∀ {X : Cx} {H0 : Hp} {Gp : GQ} {W : WX} {tb : Fn → Prop} {tg : String → D → Prop} {e : Expr}, Good tb tg X false → TakesF X W → calF tb tg x → ckF X.N x X.env.scope e = true → PE X e (tFX (cn X H0 Gp) W x)
  pt : ∀ {X : Cx} {H0 : Hp} {Gp : GQ} {W : WX} {tb : Fn → Prop} {tg : String → D → Prop} {e : Expr}, Good tb tg X false → TakesF X W → calF tb tg x → ckF X.N x X.env.scope e = true → PT X e (tFT (cn X H0 Gp) W x)
theorem ptF_gen {X : Cx} {H0 : Hp} {Gp : GQ} {W : WX} {x : Fx} {e : Expr} (h : PE X e (tFX (cn X H0 Gp) W x)) (he : ∀ whole, isTrue e X.env whole = (do let v ← whole; standAt e.pos; holding [v] (truthy v))) : PT X e (tFT (cn X H0 Gp) W x) := by
  refine pt_imp (pt_truth h he) fun σ H Q q => ?_
  obtain ⟨ρ, er, q⟩ := q
  unfold tsx at q
  refine tFX_then er q fun d ρ' v H' e1 po q' => ?_
  split at q'
  · rename_i b hb
    exact ⟨b, tru_of (.p po.rp) hb, q' H' po.t⟩
  · exact q'.elim
section
variable {X : Cx} {H0 : Hp} {Gp : GQ} {W : WX} {tb : Fn → Prop} {tg : String → D → Prop}
theorem paF_of (G : Good tb tg X false) (tk : TakesF X W) : ∀ {xs : List Fx} {es : List Expr}, (∀ x ∈ xs, SndF x) → calFL tb tg xs → ckFL X.N xs X.env.scope es = true → PA X es (tFA (cn X H0 Gp) W xs)
  | [], [], _, _, _ => pa_imp pa_nil fun σ H Q ⟨ρ, er, q⟩ => by
    unfold evxs at q
    exact q [] H ⟨er, .refl, fun _ e => e, rfl, .nil⟩
  | [], _ :: _, _, _, h => by unfold ckFL at h; cases h
  | _ :: _, [], _, _, h => by unfold ckFL at h; cases h
  | x :: xs, e :: es, hs, hc, h => by
    unfold ckFL at h
    rw [Bool.and_eq_true, Bool.and_eq_true] at h
    unfold calFL at hc
    refine pa_imp (pa_cons ((hs x List.mem_cons_self).pe (H0 := H0) (Gp := Gp) G tk hc.1 h.1.1) (paF_of G tk (fun y hy => hs y (List.mem_cons_of_mem _ hy)) hc.2 h.2) (star_of h.1.2 es X.env)) fun σ H Q q => ?_
    obtain ⟨ρ, er, q⟩ := q
    unfold evxs at q
    refine tFX_then er q fun d ρ1 v H1 e1 po q1 => ?_
    refine tFA_then po.er q1 fun ds ρ2 vs H2 e2 po2 q2 => ?_
    have t := po.t.trans po2.t
    exact q2 _ _ ⟨t.er, t.st, t.dom, t.xe, .cons (po.rp.stb po.er po2.st) po2.rp⟩
end
theorem sndF_p (x : Ex) : SndF (.p x) := by
  have pe : ∀ {X : Cx} {H0 : Hp} {Gp : GQ} {W : WX} {tb : Fn → Prop} {tg : String → D → Prop} {e : Expr}, Good tb tg X false → TakesF X W → calF tb tg (.p x) → ckF X.N (.p x) X.env.scope e = true → PE X e (tFX (cn X H0 Gp) W (.p x)) := by
    intro X H0 Gp W tb tg e G tk hc h
    unfold ckF at h
    rw [Bool.and_eq_true] at h
    unfold calF at hc
    refine pe_imp ((snd x).1.pe (H0 := H0) (Gp := Gp) G tk (fun z => by cases z) hc h.1) fun σ H Q q => ?_
    obtain ⟨ρ, er, q⟩ := q
    unfold evx at q
    refine ⟨ρ, er, ?_⟩
    cases e1 : ev ρ x with
    | ok d =>
      rw [e1] at q
      intro v H' po
      have t := PoT.of er po.same
      refine q v H' ⟨t.er, t.st, t.dom, t.xe, po.rp h.2, fun z ds hd => ?_⟩
      obtain ⟨a, xs, f1, f2, f3, f4⟩ := po.fr z ds hd
      exact ⟨a, xs, f1, f2, f3, er.wG po.same (.aw er t.dom f2 f3), f4⟩
    | exc k => rw [e1] at q; exact (show EX (cn X H0 Gp) W σ ρ H k from q).of er
    | bad => rw [e1] at q; exact q.elim
  refine ⟨pe, fun {X H0 Gp W tb tg e} G tk hc h => ?_⟩
  unfold ckF at h
  rw [Bool.and_eq_true] at h
  unfold calF at hc
  refine pt_imp ((snd x).1.pt (H0 := H0) (Gp := Gp) G tk (fun z => by cases z) hc h.1) fun σ H Q q => ?_
  obtain ⟨ρ, er, q⟩ := q
  unfold tsx evx at q
  refine ⟨ρ, er, ?_⟩
  unfold tst
  cases e1 : ev ρ x with
  | ok d =>
    rw [e1] at q
    have q' : (match truD d with | some b => R.ok (b, ρ) | none => .bad).all (fun p => ∀ H', PoT (cn X H0 Gp) σ ρ p.2 H H' → Q p.1 H') (EX (cn X H0 Gp) W σ ρ H) := q
    show (match truD d with | some b => R.ok b | none => .bad).all _ _
    revert q'
    cases truD d with
    | some b => exact fun q' H' s => q' H' (.of er s)
    | none => exact fun q' => q'.elim
  | exc k => rw [e1] at q; exact (show EX (cn X H0 Gp) W σ ρ H k from q).of er
  | bad => rw [e1] at q; exact q.elim
end OL
namespace OL
open PySem PySem.Spec PyProof.Rows L2
theorem Nw.rp {K : PySem.W.Frag} {mg : Str → Option Value} {H H' : Hp} {Z : Addr → Prop} {d : D} {v : V} (hz : ∀ p, H p = none → Z p) (n : Nw K mg H Z d v H') : Rp K mg H' Z d v ∧ Same H H' := by
  cases n with
  | sc e => exact ⟨rp_scal e, Same.refl _⟩
  | nl hp r => exact ⟨.lst upd_same (hz _ hp) (r.same (same_upd hp)), same_upd hp⟩
  | nt hp r => exact ⟨.tup (SqT.of upd_same) (r.same (same_upd hp)), same_upd hp⟩
theorem Nw.pox {c : Cn} {σ : Sg} {ρ ρ' : En} {x : Fx} {H H1 H' : Hp} {d : D} {v : V} (t : PoT c σ ρ ρ' H H1) (n : Nw c.K c.mg H1 (Zf c σ ρ') d v H') (f : frf x = false) : PoX c σ ρ x H H' (d, ρ') v :=
  let ⟨r, s⟩ := n.rp fun p hp => t.er.newZ hp
  .mk0 (t.trans (.of t.er s)) r f
/-- a new list made of values at hand -/
theorem pox_list {c : Cn} {σ : Sg} {ρ ρ' : En} {x : Fx} {H H1 : Hp} {ds : List D} {xs : List V} {p : Addr} (t : PoT c σ ρ ρ' H H1) (r : RpA c.K c.mg H1 (Zf c σ ρ') ds xs) (hp : H1 p = none) : PoX c σ ρ x H (upd H1 p (.lst xs)) (.lst ds, ρ') (.ref p) := by
  have s := same_upd (o := .lst xs) hp
  have t2 := t.trans (.of t.er s)
  have z : Zf c σ ρ' p := t.er.newZ hp
  refine ⟨t2.er, t2.st, t2.dom, t2.xe, .lst upd_same z (r.same s), fun _ es e => ?_⟩
  cases e
  exact ⟨p, xs, rfl, t.dom p hp, upd_same, t.er.wG s (.aw t.er (fun q e => s.free e) hp upd_same), r.mono (Z' := fun b => Zf c σ ρ' b ∧ b ≠ p) (.of_same s) fun a o e q => ⟨q, ne_of_none e hp⟩⟩
theorem sndF_tup {xs : List Fx} (hs : ∀ x ∈ xs, SndF x) : SndF (.tup xs) := by
  have pe : ∀ {X : Cx} {H0 : Hp} {Gp : GQ} {W : WX} {tb : Fn → Prop} {tg : String → D → Prop} {e : Expr}, Good tb tg X false → TakesF X W → calF tb tg (.tup xs) → ckF X.N (.tup xs) X.env.scope e = true → PE X e (tFX (cn X H0 Gp) W (.tup xs)) := by
    intro X H0 Gp W tb tg e G tk hc h
    cases e <;> (try (unfold ckF at h; cases h; done))
    unfold ckF at h
    unfold calF at hc
    refine pe_imp (pe_tup (paF_of (H0 := H0) (Gp := Gp) G tk hs hc h)) fun σ H Q q => ?_
    obtain ⟨ρ, er, q⟩ := q
    unfold evx at q
    refine tFA_then er q fun ds ρ' vs H1 e1 po q1 => ?_
    split at q1
    · rename_i hl
      refine ⟨by rw [line_eq, ← po.rp.length]; exact hl, fun p hp => q1 _ _ (Nw.pox po.t (.nt hp po.rp) rfl)⟩
    · exact q1.elim
  refine ⟨pe, fun G tk hc h => ?_⟩
  rename_i e
  cases e <;> (try (unfold ckF at h; cases h; done))
  exact ptF_gen (pe G tk hc h) fun _ => rfl
theorem sndF_lst {xs : List Fx} (hs : ∀ x ∈ xs, SndF x) : SndF (.lst xs) := by
  have pe : ∀ {X : Cx} {H0 : Hp} {Gp : GQ} {W : WX} {tb : Fn → Prop} {tg : String → D → Prop} {e : Expr}, Good tb tg X false → TakesF X W → calF tb tg (.lst xs) → ckF X.N (.lst xs) X.env.scope e = true → PE X e (tFX (cn X H0 Gp) W (.lst xs)) := by
    intro X H0 Gp W tb tg e G tk hc h
    cases e <;> (try (unfold ckF at h; cases h; done))
    unfold ckF at h
    unfold calF at hc
    refine pe_imp (pe_lst (paF_of (H0 := H0) (Gp := Gp) G tk hs hc h)) fun σ H Q q => ?_
    obtain ⟨ρ, er, q⟩ := q
    unfold evx at q
    refine tFA_then er q fun ds ρ' vs H1 e1 po q1 => ?_
    split at q1
    · rename_i hl
      refine ⟨by rw [line_eq, ← po.rp.length]; exact hl, fun p hp => q1 _ _ (pox_list po.t po.rp hp)⟩
    · exact q1.elim
  refine ⟨pe, fun G tk hc h => ?_⟩
  rename_i e
  cases e <;> (try (unfold ckF at h; cases h; done))
  exact ptF_gen (pe G tk hc h) fun _ => rfl
theorem sndF_bin {op : Op} {x y : Fx} (hx : SndF x) (hy : SndF y) : SndF (.bin op x y) := by
  have pe : ∀ {X : Cx} {H0 : Hp} {Gp : GQ} {W : WX} {tb : Fn → Prop} {tg : String → D → Prop} {e : Expr}, Good tb tg X false → TakesF X W → calF tb tg (.bin op x y) → ckF X.N (.bin op x y) X.env.scope e = true → PE X e (tFX (cn X H0 Gp) W (.bin op x y)) := by
    intro X H0 Gp W tb tg e G tk hc h
    cases e <;> (try (unfold ckF at h; cases h; done))
    unfold ckF at h
    simp only [Bool.and_eq_true, decide_eq_true_eq] at h
    obtain ⟨⟨rfl, h1⟩, h2⟩ := h
    unfold calF at hc
    refine pe_imp (pe_op (op_bin op) (hx.pe (H0 := H0) (Gp := Gp) G tk hc.1 h1) (hy.pe (H0 := H0) (Gp := Gp) G tk hc.2 h2)) fun σ H Q q => ?_
    obtain ⟨ρ, er, q⟩ := q
    unfold evx at q
    refine tFX_then er q fun d ρ1 v H1 e1 po q1 => ?_
    refine tFX_then po.er q1 fun d2 ρ2 v2 H2 e2 po2 q2 => ?_
    refine ⟨_, fun _ => True, d, d2, .p (po.rp.stb po.er po2.st), .p po2.rp, ?_⟩
    have q3 : ((binD op d d2).bind fun w => R.ok (w, ρ2)).all (fun p => ∀ v H', PoX (cn X H0 Gp) σ ρ (.bin op x y) H H' p v → Q v H') (EX (cn X H0 Gp) W σ ρ2 H2) := q2
    cases e3 : binD op d d2 with
    | ok w => rw [e3] at q3; exact fun u H' nw => q3 u H' (nw.pox (po.t.trans po2.t) rfl)
    | exc k => exact trivial
    | bad => rw [e3] at q3; exact q3.elim
  refine ⟨pe, fun G tk hc h => ?_⟩
  rename_i e
  cases e <;> (try (unfold ckF at h; cases h; done))
  exact ptF_gen (pe G tk hc h) fun _ => rfl
theorem sndF_neg {x : Fx} (hx : SndF x) : SndF (.neg x) := by
  have pe : ∀ {X : Cx} {H0 : Hp} {Gp : GQ} {W : WX} {tb : Fn → Prop} {tg : String → D → Prop} {e : Expr}, Good tb tg X false → TakesF X W → calF tb tg (.neg x) → ckF X.N (.neg x) X.env.scope e = true → PE X e (tFX (cn X H0 Gp) W (.neg x)) := by
    intro X H0 Gp W tb tg e G tk hc h
    cases e <;> (try (unfold ckF at h; cases h; done))
    unfold ckF at h
    simp only [Bool.and_eq_true, decide_eq_true_eq] at h
    obtain ⟨rfl, h1⟩ := h
    unfold calF at hc
    refine pe_imp (pe_un un_neg (hx.pe (H0 := H0) (Gp := Gp) G tk hc h1)) fun σ H Q q => ?_
    obtain ⟨ρ, er, q⟩ := q
    unfold evx at q
    refine tFX_then er q fun d ρ1 v H1 e1 po q1 => ?_
    cases d <;> (try (exact False.elim q1))
    cases (Rb.p po.rp).int
    exact ⟨_, rfl, q1 _ _ (.mk0 po.t (.int _) rfl)⟩
  refine ⟨pe, fun G tk hc h => ?_⟩
  rename_i e
  cases e <;> (try (unfold ckF at h; cases h; done))
  have h' := h
  unfold ckF at h'
  simp only [Bool.and_eq_true, decide_eq_true_eq] at h'
  obtain ⟨rfl, _⟩ := h'
  exact ptF_gen (pe G tk hc h) fun _ => rfl
theorem sndF_cmp {op : Cp} {x y : Fx} (hx : SndF x) (hy : SndF y) : SndF (.cmp op x y) := by
  have key : ∀ {sc : Scope} {N : List Str} {e : Expr}, ckF N (.cmp op x y) sc e = true → ∃ a b p, e = .Compare a [cpOf op] [b] p ∧ behindInMarks (cpOf op) b = false ∧ ckF N x sc a = true ∧ ckF N y sc b = true := by
    intro sc N e h
    unfold ckF at h
    split at h <;> (try (cases h; done)) <;> (rename_i heq; cases heq)
    simp only [Bool.and_eq_true, decide_eq_true_eq, Bool.not_eq_true'] at h
    obtain ⟨⟨⟨rfl, h1⟩, h2⟩, h3⟩ := h
    exact ⟨_, _, _, rfl, h1, h2, h3⟩
  refine ⟨fun {X H0 Gp W tb tg e} G tk hc h => ?_, fun {X H0 Gp W tb tg e} G tk hc h => ?_⟩
  all_goals
    obtain ⟨a, b, p, rfl, hm, h1, h2⟩ := key h
    unfold calF at hc
    have px := hx.pe (H0 := H0) (Gp := Gp) G tk hc.1 h1
    have py := hy.pe (H0 := H0) (Gp := Gp) G tk hc.2 h2
  · refine pe_imp (pe_cmpR (op_cmp G.un op) px py hm) fun σ H Q q => ?_
    obtain ⟨ρ, er, q⟩ := q
    unfold evx at q
    refine tFX_then er q fun d ρ1 v H1 e1 po q1 => ?_
    refine tFX_then po.er q1 fun d2 ρ2 v2 H2 e2 po2 q2 => ?_
    refine ⟨_, fun _ => True, d, d2, .p (po.rp.stb po.er po2.st), .p po2.rp, ?_⟩
    have q3 : ((cpD op d d2).bind fun w => R.ok (w, ρ2)).all (fun p => ∀ v H', PoX (cn X H0 Gp) σ ρ (.cmp op x y) H H' p v → Q v H') (EX (cn X H0 Gp) W σ ρ2 H2) := q2
    cases e3 : cpD op d d2 with
    | ok w => rw [e3] at q3; exact fun u H' nw => q3 u H' (nw.pox (po.t.trans po2.t) rfl)
    | exc k => exact trivial
    | bad => rw [e3] at q3; exact q3.elim
  · refine pt_imp (pt_cmpR (op_cmp G.un op) px py hm) fun σ H Q q => ?_
    obtain ⟨ρ, er, q⟩ := q
    unfold tsx evx at q
    have q0 : ((evx ρ x).bind fun a => (evx a.2 y).bind fun b => (cpD op a.1 b.1).bind fun d => match truD d with | some t => R.ok (t, b.2) | none => .bad).all (fun p => ∀ H', PoT (cn X H0 Gp) σ ρ p.2 H H' → Q p.1 H') (EX (cn X H0 Gp) W σ ρ H) := by
      revert q
      cases evx ρ x with
      | ok a =>
        show ((R.bind ((evx a.2 y).bind fun b => (cpD op a.1 b.1).bind fun d => R.ok (d, b.2)) _).all _ _ → ((evx a.2 y).bind _).all _ _)
        cases evx a.2 y with
        | ok b =>
          show ((R.bind ((cpD op a.1 b.1).bind fun d => R.ok (d, b.2)) _).all _ _ → ((cpD op a.1 b.1).bind _).all _ _)
          cases cpD op a.1 b.1 <;> exact fun q => q
        | exc k => exact fun q => q
        | bad => exact fun q => q
      | exc k => exact fun q => q
      | bad => exact fun q => q
    refine tFX_then er q0 fun d ρ1 v H1 e1 po q1 => ?_
    refine tFX_then po.er q1 fun d2 ρ2 v2 H2 e2 po2 q2 => ?_
    refine ⟨_, fun _ => True, d, d2, .p (po.rp.stb po.er po2.st), .p po2.rp, ?_⟩
    have q3 : ((cpD op d d2).bind fun d => match truD d with | some t => R.ok (t, ρ2) | none => .bad).all (fun p => ∀ H', PoT (cn X H0 Gp) σ ρ p.2 H H' → Q p.1 H') (EX (cn X H0 Gp) W σ ρ2 H2) := q2
    cases e3 : cpD op d d2 with
    | ok w =>
      rw [e3] at q3
      intro u H' nw
      obtain ⟨b, rfl⟩ := cp_bool e3
      obtain ⟨r, s⟩ := nw.rp fun p hp => po2.er.newZ hp
      cases r
      exact ⟨b, rfl, q3 H' ((po.t.trans po2.t).trans (.of po2.er s))⟩
    | exc k => exact trivial
    | bad => rw [e3] at q3; exact q3.elim
theorem sndF_not {x : Fx} (hx : SndF x) : SndF (.not x) := by
  refine ⟨fun {X H0 Gp W tb tg e} G tk hc h => ?_, fun {X H0 Gp W tb tg e} G tk hc h => ?_⟩
  all_goals
    cases e <;> (try (unfold ckF at h; cases h; done))
    unfold ckF at h
    simp only [Bool.and_eq_true, decide_eq_true_eq] at h
    obtain ⟨rfl, h1⟩ := h
    unfold calF at hc
  · refine pe_imp (pe_notT (hx.pe (H0 := H0) (Gp := Gp) G tk hc h1)) fun σ H Q q => ?_
    obtain ⟨ρ, er, q⟩ := q
    unfold evx at q
    refine tFX_then er q fun d ρ1 v H1 e1 po q1 => ?_
    split at q1
    · rename_i b hb
      exact ⟨b, tru_of (.p po.rp) hb, q1 _ _ (.mk0 po.t (.bl _) rfl)⟩
    · exact q1.elim
  · refine pt_imp (pt_not (hx.pt (H0 := H0) (Gp := Gp) G tk hc h1)) fun σ H Q q => ?_
    obtain ⟨ρ, er, q⟩ := q
    refine ⟨ρ, er, ?_⟩
    unfold tsx evx at q
    unfold tsx
    revert q
    cases evx ρ x with
    | ok a =>
      show (R.bind (match truD a.1 with | some b => R.ok (D.bl (!b), a.2) | none => .bad) _).all _ _ → (match truD a.1 with | some b => R.ok (b, a.2) | none => .bad).all _ _
      cases truD a.1 with
      | some b => exact fun q => q
      | none => exact fun q => q
    | exc k => exact fun q => q
    | bad => exact fun q => q
theorem sndF_ix {x i : Fx} (hx : SndF x) (hi : SndF i) : SndF (.ix x i) := by
  have pe : ∀ {X : Cx} {H0 : Hp} {Gp : GQ} {W : WX} {tb : Fn → Prop} {tg : String → D → Prop} {e : Expr}, Good tb tg X false → TakesF X W → calF tb tg (.ix x i) → ckF X.N (.ix x i) X.env.scope e = true → PE X e (tFX (cn X H0 Gp) W (.ix x i)) := by
    intro X H0 Gp W tb tg e G tk hc h
    cases e <;> (try (unfold ckF at h; cases h; done))
    unfold ckF at h
    simp only [Bool.and_eq_true] at h
    obtain ⟨⟨h0, h1⟩, h2⟩ := h
    unfold calF at hc
    refine pe_imp (pe_ix ix_all (hx.pe (H0 := H0) (Gp := Gp) G tk hc.1 h1) (hi.pe (H0 := H0) (Gp := Gp) G tk hc.2 h2) (plainIx_of h0)) fun σ H Q q => ?_
    obtain ⟨ρ, er, q⟩ := q
    unfold evx at q
    refine tFX_then er q fun d ρ1 v H1 e1 po q1 => ?_
    refine tFX_then po.er q1 fun d2 ρ2 v2 H2 e2 po2 q2 => ?_
    refine ⟨_, fun _ => True, d, d2, .p (po.rp.stb po.er po2.st), .p po2.rp, ?_⟩
    have q3 : ((ixD d d2).bind fun w => R.ok (w, ρ2)).all (fun p => ∀ v H', PoX (cn X H0 Gp) σ ρ (.ix x i) H H' p v → Q v H') (EX (cn X H0 Gp) W σ ρ2 H2) := q2
    cases e3 : ixD d d2 with
    | ok w => rw [e3] at q3; exact fun u r => q3 u _ (.mk0 (po.t.trans po2.t) r rfl)
    | exc k => exact trivial
    | bad => rw [e3] at q3; exact q3.elim
  refine ⟨pe, fun G tk hc h => ?_⟩
  rename_i e
  cases e <;> (try (unfold ckF at h; cases h; done))
  exact ptF_gen (pe G tk hc h) fun _ => rfl
end OL
namespace OL
open PySem PySem.Spec PyProof.Rows L2
theorem emp_ne {α : Type} {xs : List α} (h : (!xs.isEmpty) = true) : xs ≠ [] := fun z => by subst z; cases h
theorem sndF_blt {b : Blt} {xs : List Fx} (hs : ∀ x ∈ xs, SndF x) : SndF (.blt b xs) := by
  have key : ∀ {N : List Str} {sc : Scope} {e : Expr}, ckF N (.blt b xs) sc e = true → ∃ q es p, e = .Call (.Name (bltName b) q) es [] p ∧ glB sc (bltName b) = true ∧ ckFL N xs sc es = true ∧ (!xs.isEmpty) = true := by
    intro N sc e h
    unfold ckF at h
    split at h <;> (try (cases h; done)) <;> (rename_i heq; cases heq)
    simp only [Bool.and_eq_true, beq_iff_eq] at h
    obtain ⟨⟨⟨rfl, h1⟩, h3⟩, h4⟩ := h
    exact ⟨_, _, _, rfl, h1, h3, h4⟩
  have pe : ∀ {X : Cx} {H0 : Hp} {Gp : GQ} {W : WX} {tb : Fn → Prop} {tg : String → D → Prop} {e : Expr}, Good tb tg X false → TakesF X W → calF tb tg (.blt b xs) → ckF X.N (.blt b xs) X.env.scope e = true → PE X e (tFX (cn X H0 Gp) W (.blt b xs)) := by
    intro X H0 Gp W tb tg e G tk hc h
    obtain ⟨q0, es, p, rfl, h1, h3, h4⟩ := key h
    unfold calF at hc
    cases es with
    | nil =>
      cases xs with
      | nil => cases h4
      | cons _ _ => unfold ckFL at h3; cases h3
    | cons e1 es1 =>
      cases xs with
      | nil => cases h4
      | cons x1 xs1 =>
        have h3' := h3
        unfold ckFL at h3'
        rw [Bool.and_eq_true, Bool.and_eq_true] at h3'
        refine pe_imp (pe_blt G.xk.dg (fun _ => G.calm rfl) (gl_of h1) (G.blt b) (paF_of (H0 := H0) (Gp := Gp) G tk hs hc h3) (star_of h3'.1.2 es1 X.env) (star_ofF h3'.2 X.env _)) fun σ H Q q => ?_
        obtain ⟨ρ, er, q⟩ := q
        unfold evx at q
        refine tFA_then er q fun ds ρ' vs H1 ee po q1 => ?_
        refine ⟨_, fun _ => True, ds, RbA.of po.rp, ?_⟩
        have q3 : ((bltD b ds).bind fun w => R.ok (w, ρ')).all (fun p => ∀ v H', PoX (cn X H0 Gp) σ ρ (.blt b (x1 :: xs1)) H H' p v → Q v H') (EX (cn X H0 Gp) W σ ρ' H1) := q1
        cases e3 : bltD b ds with
        | ok w => rw [e3] at q3; exact fun u H' nw => q3 u H' (nw.pox po.t rfl)
        | exc k => exact trivial
        | bad => rw [e3] at q3; exact q3.elim
  refine ⟨pe, fun {X H0 Gp W tb tg e} G tk hc h => ?_⟩
  obtain ⟨q0, es, p, rfl, _⟩ := key h
  exact ptF_gen (pe G tk hc h) fun _ => rfl
section
variable {X : Cx} {H0 : Hp} {Gp : GQ} {W : WX} {tb : Fn → Prop} {tg : String → D → Prop}
theorem peF_andL (G : Good tb tg X false) (tk : TakesF X W) {p : Pos} : ∀ {xs : List Fx} {es : List Expr}, xs ≠ [] → (∀ x ∈ xs, SndF x) → calFL tb tg xs → ckFL X.N xs X.env.scope es = true → PE X (.BoolOp .And es p) (tFX (cn X H0 Gp) W (.and xs))
  | [], _, h, _, _, _ => absurd rfl h
  | x :: xs, [], _, _, _, h => by unfold ckFL at h; cases h
  | [x], [e], _, hs, hc, h => by
    unfold ckFL at h
    rw [Bool.and_eq_true, Bool.and_eq_true] at h
    unfold calFL at hc
    refine pe_imp (pe_one ((hs x List.mem_cons_self).pe (H0 := H0) (Gp := Gp) G tk hc.1 h.1.1)) fun σ H Q q => ?_
    obtain ⟨ρ, er, q⟩ := q
    unfold evx evxAnd at q
    refine ⟨ρ, er, ?_⟩
    cases e1 : evx ρ x with
    | ok d => rw [e1] at q; exact fun v H' po => q v H' (.mk0 po.t po.rp rfl)
    | exc k => rw [e1] at q; exact q
    | bad => rw [e1] at q; exact q
  | [x], _ :: _ :: _, _, _, _, h => by unfold ckFL at h; rw [Bool.and_eq_true] at h; have := h.2; unfold ckFL at this; cases this
  | x :: y :: xs, [e], _, _, _, h => by unfold ckFL at h; rw [Bool.and_eq_true] at h; have := h.2; unfold ckFL at this; cases this
  | x :: y :: xs, e :: f :: es, _, hs, hc, h => by
    unfold ckFL at h
    rw [Bool.and_eq_true, Bool.and_eq_true] at h
    unfold calFL at hc
    refine pe_imp (pe_and ((hs x List.mem_cons_self).pe (H0 := H0) (Gp := Gp) G tk hc.1 h.1.1) (peF_andL G tk (by simp) (fun z hz => hs z (List.mem_cons_of_mem _ hz)) hc.2 h.2)) fun σ H Q q => ?_
    obtain ⟨ρ, er, q⟩ := q
    unfold evx evxAnd at q
    refine tFX_then er q fun d ρ1 v H1 e1 po q1 => ?_
    cases d <;> (try (exact False.elim q1))
    rename_i b
    cases (Rb.p po.rp).bl
    cases b with
    | true =>
      refine ⟨true, rfl, iteT ⟨ρ1, po.er, ?_⟩⟩
      unfold evx
      have q2 : (evxAnd ρ1 (y :: xs)).all (fun p => ∀ v H', PoX (cn X H0 Gp) σ ρ (.and (x :: y :: xs)) H H' p v → Q v H') (EX (cn X H0 Gp) W σ ρ1 H1) := q1
      cases e2 : evxAnd ρ1 (y :: xs) with
      | ok d => rw [e2] at q2; exact fun v H' po2 => q2 v H' (.mk0 (po.t.trans po2.t) po2.rp rfl)
      | exc k => rw [e2] at q2; exact q2
      | bad => rw [e2] at q2; exact q2
    | false => exact ⟨false, rfl, iteF (q1 _ _ (.mk0 po.t (.bl _) rfl))⟩
theorem peF_orL (G : Good tb tg X false) (tk : TakesF X W) {p : Pos} : ∀ {xs : List Fx} {es : List Expr}, xs ≠ [] → (∀ x ∈ xs, SndF x) → calFL tb tg xs → ckFL X.N xs X.env.scope es = true → PE X (.BoolOp .Or es p) (tFX (cn X H0 Gp) W (.or xs))
  | [], _, h, _, _, _ => absurd rfl h
  | x :: xs, [], _, _, _, h => by unfold ckFL at h; cases h
  | [x], [e], _, hs, hc, h => by
    unfold ckFL at h
    rw [Bool.and_eq_true, Bool.and_eq_true] at h
    unfold calFL at hc
    refine pe_imp (pe_one ((hs x List.mem_cons_self).pe (H0 := H0) (Gp := Gp) G tk hc.1 h.1.1)) fun σ H Q q => ?_
    obtain ⟨ρ, er, q⟩ := q
    unfold evx evxOr at q
    refine ⟨ρ, er, ?_⟩
    cases e1 : evx ρ x with
    | ok d => rw [e1] at q; exact fun v H' po => q v H' (.mk0 po.t po.rp rfl)
    | exc k => rw [e1] at q; exact q
    | bad => rw [e1] at q; exact q
  | [x], _ :: _ :: _, _, _, _, h => by unfold ckFL at h; rw [Bool.and_eq_true] at h; have := h.2; unfold ckFL at this; cases this
  | x :: y :: xs, [e], _, _, _, h => by unfold ckFL at h; rw [Bool.and_eq_true] at h; have := h.2; unfold ckFL at this; cases this
  | x :: y :: xs, e :: f :: es, _, hs, hc, h => by
    unfold ckFL at h
    rw [Bool.and_eq_true, Bool.and_eq_true] at h
    unfold calFL at hc
    refine pe_imp (pe_or ((hs x List.mem_cons_self).pe (H0 := H0) (Gp := Gp) G tk hc.1 h.1.1) (peF_orL G tk (by simp) (fun z hz => hs z (List.mem_cons_of_mem _ hz)) hc.2 h.2)) fun σ H Q q => ?_
    obtain ⟨ρ, er, q⟩ := q
    unfold evx evxOr at q
    refine tFX_then er q fun d ρ1 v H1 e1 po q1 => ?_
    cases d <;> (try (exact False.elim q1))
    rename_i b
    cases (Rb.p po.rp).bl
    cases b with
    | false =>
      refine ⟨false, rfl, iteF ⟨ρ1, po.er, ?_⟩⟩
      unfold evx
      have q2 : (evxOr ρ1 (y :: xs)).all (fun p => ∀ v H', PoX (cn X H0 Gp) σ ρ (.or (x :: y :: xs)) H H' p v → Q v H') (EX (cn X H0 Gp) W σ ρ1 H1) := q1
      cases e2 : evxOr ρ1 (y :: xs) with
      | ok d => rw [e2] at q2; exact fun v H' po2 => q2 v H' (.mk0 (po.t.trans po2.t) po2.rp rfl)
      | exc k => rw [e2] at q2; exact q2
      | bad => rw [e2] at q2; exact q2
    | true => exact ⟨true, rfl, iteT (q1 _ _ (.mk0 po.t (.bl _) rfl))⟩
theorem tsx_and {ρ : En} {x y : Fx} {xs : List Fx} : tsx ρ (.and (x :: y :: xs)) = (evx ρ x).bind fun a => match a.1 with
    | .bl true => tsx a.2 (.and (y :: xs))
    | .bl false => .ok (false, a.2)
    | _ => .bad := by
  (conv => lhs; unfold tsx evx evxAnd)
  cases evx ρ x with
  | ok a =>
    obtain ⟨d, ρ1⟩ := a
    cases d <;> try rfl
    rename_i b
    cases b with
    | true => show (evxAnd ρ1 (y :: xs)).bind _ = tsx ρ1 (.and (y :: xs)); unfold tsx evx; rfl
    | false => rfl
  | exc k => rfl
  | bad => rfl
theorem tsx_or {ρ : En} {x y : Fx} {xs : List Fx} : tsx ρ (.or (x :: y :: xs)) = (evx ρ x).bind fun a => match a.1 with
    | .bl true => .ok (true, a.2)
    | .bl false => tsx a.2 (.or (y :: xs))
    | _ => .bad := by
  (conv => lhs; unfold tsx evx evxOr)
  cases evx ρ x with
  | ok a =>
    obtain ⟨d, ρ1⟩ := a
    cases d <;> try rfl
    rename_i b
    cases b with
    | true => rfl
    | false => show (evxOr ρ1 (y :: xs)).bind _ = tsx ρ1 (.or (y :: xs)); unfold tsx evx; rfl
  | exc k => rfl
  | bad => rfl
theorem pwF_andL (G : Good tb tg X false) (tk : TakesF X W) {p : Pos} : ∀ {xs : List Fx} {es : List Expr}, xs ≠ [] → (∀ x ∈ xs, SndF x) → calFL tb tg xs → ckFL X.N xs X.env.scope es = true → PW X (.BoolOp .And es p) (tFT (cn X H0 Gp) W (.and xs))
  | [], _, h, _, _, _ => absurd rfl h
  | x :: xs, [], _, _, _, h => by unfold ckFL at h; cases h
  | [x], [e], _, hs, hc, h => by
    unfold ckFL at h
    rw [Bool.and_eq_true, Bool.and_eq_true] at h
    unfold calFL at hc
    have b := pw_and1 (pos := p) ((hs x List.mem_cons_self).pt (H0 := H0) (Gp := Gp) G tk hc.1 h.1.1)
    refine ⟨fun whole pins s σ H Q I q => b.run whole pins s σ H Q I ?_⟩
    obtain ⟨ρ, er, q⟩ := q
    unfold tsx evx evxAnd at q
    exact ⟨ρ, er, q⟩
  | [x], _ :: _ :: _, _, _, _, h => by unfold ckFL at h; rw [Bool.and_eq_true] at h; have := h.2; unfold ckFL at this; cases this
  | x :: y :: xs, [e], _, _, _, h => by unfold ckFL at h; rw [Bool.and_eq_true] at h; have := h.2; unfold ckFL at this; cases this
  | x :: y :: xs, e :: f :: es, _, hs, hc, h => by
    unfold ckFL at h
    rw [Bool.and_eq_true, Bool.and_eq_true] at h
    unfold calFL at hc
    have b := pw_and (pos := p) ((hs x List.mem_cons_self).pt (H0 := H0) (Gp := Gp) G tk hc.1 h.1.1) (pwF_andL G tk (by simp) (fun z hz => hs z (List.mem_cons_of_mem _ hz)) hc.2 h.2)
    refine ⟨fun whole pins s σ H Q I q => b.run whole pins s σ H Q I ?_⟩
    obtain ⟨ρ, er, q⟩ := q
    rw [tsx_and] at q
    refine ⟨ρ, er, ?_⟩
    unfold tsx
    cases e1 : evx ρ x with
    | ok a =>
      obtain ⟨d, ρ1⟩ := a
      rw [e1] at q
      cases d <;> (try (exact False.elim q))
      rename_i b
      intro H1 t1
      cases b with
      | true =>
        refine iteT ⟨ρ1, t1.er, ?_⟩
        have q2 : (tsx ρ1 (.and (y :: xs))).all (fun p => ∀ H', PoT (cn X H0 Gp) σ ρ p.2 H H' → Q p.1 H') (EX (cn X H0 Gp) W σ ρ H) := q
        cases e2 : tsx ρ1 (.and (y :: xs)) with
        | ok b => rw [e2] at q2; exact fun H' t2 => q2 H' (t1.trans t2)
        | exc k => rw [e2] at q2; exact t1.ex q2
        | bad => rw [e2] at q2; exact q2
      | false => exact iteF (q H1 t1)
    | exc k => rw [e1] at q; exact q
    | bad => rw [e1] at q; exact q
theorem pwF_orL (G : Good tb tg X false) (tk : TakesF X W) {p : Pos} : ∀ {xs : List Fx} {es : List Expr}, xs ≠ [] → (∀ x ∈ xs, SndF x) → calFL tb tg xs → ckFL X.N xs X.env.scope es = true → PW X (.BoolOp .Or es p) (tFT (cn X H0 Gp) W (.or xs))
  | [], _, h, _, _, _ => absurd rfl h
  | x :: xs, [], _, _, _, h => by unfold ckFL at h; cases h
  | [x], [e], _, hs, hc, h => by
    unfold ckFL at h
    rw [Bool.and_eq_true, Bool.and_eq_true] at h
    unfold calFL at hc
    have b := pw_or1 (pos := p) ((hs x List.mem_cons_self).pt (H0 := H0) (Gp := Gp) G tk hc.1 h.1.1)
    refine ⟨fun whole pins s σ H Q I q => b.run whole pins s σ H Q I ?_⟩
    obtain ⟨ρ, er, q⟩ := q
    unfold tsx evx evxOr at q
    exact ⟨ρ, er, q⟩
  | [x], _ :: _ :: _, _, _, _, h => by unfold ckFL at h; rw [Bool.and_eq_true] at h; have := h.2; unfold ckFL at this; cases this
  | x :: y :: xs, [e], _, _, _, h => by unfold ckFL at h; rw [Bool.and_eq_true] at h; have := h.2; unfold ckFL at this; cases this
  | x :: y :: xs, e :: f :: es, _, hs, hc, h => by
    unfold ckFL at h
    rw [Bool.and_eq_true, Bool.and_eq_true] at h
    unfold calFL at hc
    have b := pw_or (pos := p) ((hs x List.mem_cons_self).pt (H0 := H0) (Gp := Gp) G tk hc.1 h.1.1) (pwF_orL G tk (by simp) (fun z hz => hs z (List.mem_cons_of_mem _ hz)) hc.2 h.2)
    refine ⟨fun whole pins s σ H Q I q => b.run whole pins s σ H Q I ?_⟩
    obtain ⟨ρ, er, q⟩ := q
    rw [tsx_or] at q
    refine ⟨ρ, er, ?_⟩
    unfold tsx
    cases e1 : evx ρ x with
    | ok a =>
      obtain ⟨d, ρ1⟩ := a
      rw [e1] at q
      cases d <;> (try (exact False.elim q))
      rename_i b
      intro H1 t1
      cases b with
      | false =>
        refine iteF ⟨ρ1, t1.er, ?_⟩
        have q2 : (tsx ρ1 (.or (y :: xs))).all (fun p => ∀ H', PoT (cn X H0 Gp) σ ρ p.2 H H' → Q p.1 H') (EX (cn X H0 Gp) W σ ρ H) := q
        cases e2 : tsx ρ1 (.or (y :: xs)) with
        | ok b => rw [e2] at q2; exact fun H' t2 => q2 H' (t1.trans t2)
        | exc k => rw [e2] at q2; exact t1.ex q2
        | bad => rw [e2] at q2; exact q2
      | true => exact iteT (q H1 t1)
    | exc k => rw [e1] at q; exact q
    | bad => rw [e1] at q; exact q
end
theorem sndF_and {xs : List Fx} (hs : ∀ x ∈ xs, SndF x) : SndF (.and xs) := by
  refine ⟨fun {X H0 Gp W tb tg e} G tk hc h => ?_, fun {X H0 Gp W tb tg e} G tk hc h => ?_⟩
  all_goals
    cases e <;> (try (unfold ckF at h; cases h; done))
    unfold ckF at h
    simp only [Bool.and_eq_true, decide_eq_true_eq] at h
    obtain ⟨⟨rfl, h1⟩, h2⟩ := h
    unfold calF at hc
  · exact peF_andL G tk (emp_ne h2) hs hc h1
  · exact (pwF_andL G tk (emp_ne h2) hs hc h1).pt
theorem sndF_or {xs : List Fx} (hs : ∀ x ∈ xs, SndF x) : SndF (.or xs) := by
  refine ⟨fun {X H0 Gp W tb tg e} G tk hc h => ?_, fun {X H0 Gp W tb tg e} G tk hc h => ?_⟩
  all_goals
    cases e <;> (try (unfold ckF at h; cases h; done))
    unfold ckF at h
    simp only [Bool.and_eq_true, decide_eq_true_eq] at h
    obtain ⟨⟨rfl, h1⟩, h2⟩ := h
    unfold calF at hc
  · exact peF_orL G tk (emp_ne h2) hs hc h1
  · exact (pwF_orL G tk (emp_ne h2) hs hc h1).pt
theorem sndF_call {f : Fn} {xs : List Fx} (hs : ∀ x ∈ xs, SndF x) : SndF (.call f xs) := by
  have key : ∀ {N : List Str} {sc : Scope} {e : Expr}, ckF N (.call f xs) sc e = true → ∃ q es p, e = .Call (.Name (Str.ofString f.name) q) es [] p ∧ glB sc (Str.ofString f.name) = true ∧ dbg (Str.ofString f.name) = true ∧ f.io = false ∧ xs ≠ [] ∧ ckFL N xs sc es = true := by
    intro N sc e h
    unfold ckF at h
    split at h <;> (try (cases h; done)) <;> (rename_i heq; cases heq)
    simp only [Bool.and_eq_true, beq_iff_eq] at h
    obtain ⟨⟨⟨⟨⟨rfl, h1⟩, h2⟩, h3⟩, h4⟩, h5⟩ := h
    exact ⟨_, _, _, rfl, h1, h2, by simpa using h3, emp_ne h4, h5⟩
  have pe : ∀ {X : Cx} {H0 : Hp} {Gp : GQ} {W : WX} {tb : Fn → Prop} {tg : String → D → Prop} {e : Expr}, Good tb tg X false → TakesF X W → calF tb tg (.call f xs) → ckF X.N (.call f xs) X.env.scope e = true → PE X e (tFX (cn X H0 Gp) W (.call f xs)) := by
    intro X H0 Gp W tb tg e G tk hc h
    obtain ⟨q0, es, p, rfl, h1, h2, h6, h4, h3⟩ := key h
    unfold calF at hc
    obtain ⟨⟨k, fa, fd, ps, vds, F, hr, hm, hk, hb, hv, hlen⟩, hdf⟩ := G.calls rfl f hc.1
    unfold spG at F
    rw [h6] at F
    replace F : FnOk X.prog X.w X.K X.mg X.base (L2.CX X.prog X.w) k fa fd ps (spF X.K X.mg f.run f.fr ps.length) := F
    cases es with
    | nil =>
      cases xs with
      | nil => exact absurd rfl h4
      | cons _ _ => unfold ckFL at h3; cases h3
    | cons e1 es1 =>
      cases xs with
      | nil => exact absurd rfl h4
      | cons x1 xs1 =>
        have h3' := h3
        unfold ckFL at h3'
        rw [Bool.and_eq_true, Bool.and_eq_true] at h3'
        refine pe_imp (pe_callD F hr hb hv (gl_of h1) hm hk (fun σ => passAt tk.1 σ) (paF_of (H0 := H0) (Gp := Gp) G tk hs hc.2 h3) (dbg_of h2).1 (star_of h3'.1.2 es1 X.env) (star_ofF h3'.2 X.env p)) fun σ H Q q => ?_
        obtain ⟨ρ, er, q⟩ := q
        unfold evx at q
        refine tFA_then er q fun ds ρ' vs H1 ee po q1 => ?_
        have q2 : ((f.run (ds ++ f.dfl)).bind fun d => R.ok (d, ρ')).all (fun p => ∀ v H', PoX (cn X H0 Gp) σ ρ (.call f (x1 :: xs1)) H H' p v → Q v H') (EX (cn X H0 Gp) W σ ρ' H1) := q1
        have hl : (ds ++ f.dfl).length = ps.length := hlen _ fun z => by rw [z] at q2; exact q2
        have ra : RpA X.K X.mg H1 (Zf (cn X H0 Gp) σ ρ') (ds ++ f.dfl) (vs ++ f.dfl.map valD) := po.rp.append (vals_rp hdf)
        refine ⟨by rw [← ra.length]; exact hl, _, _, ra, ?_⟩
        cases e3 : f.run (ds ++ f.dfl) with
        | ok w =>
          rw [e3] at q2
          intro v H' s' r' fr'
          have zz : ∀ a, (Zf (cn X H0 Gp) σ ρ' a ∨ H1 a = none) → Zf (cn X H0 Gp) σ ρ' a := fun a z => z.elim id fun e => po.er.newZ e
          have t2 := po.t.trans (.of po.er s')
          refine q2 v H' ⟨t2.er, t2.st, t2.dom, t2.xe, r'.weak fun a _ _ z => zz a z, fun g es z => ?_⟩
          obtain ⟨a, ys, e5, e6, e7, e8⟩ := fr' g es z
          exact ⟨a, ys, e5, po.dom a e6, e7, po.er.wG s' (.aw po.er (fun q e => s'.free e) e6 e7), e8.weak fun b _ _ z => ⟨zz b z.1, z.2⟩⟩
        | exc k =>
          rw [e3] at q2
          intro C H' ie m s'
          exact (show EX (cn X H0 Gp) W σ ρ' H1 k from q2).of po.er H' s' C ie m
        | bad => rw [e3] at q2; exact q2
  refine ⟨pe, fun {X H0 Gp W tb tg e} G tk hc h => ?_⟩
  obtain ⟨q0, es, p, rfl, _⟩ := key h
  exact ptF_gen (pe G tk hc h) fun _ => rfl
end OL
namespace OL
open PySem PySem.Spec PyProof.Rows L2
theorem unq_ok {r : D} {f : D → List D → R (D × En)} {p : D × En → Prop} {e : String → Prop} (h : (unq r f).all p e) : ∃ d out, r = .tup [d, .lst out] ∧ (f d out).all p e := by
  unfold unq at h
  split at h
  · exact ⟨_, _, rfl, h⟩
  · exact h.elim
theorem putk_ok {ρ ρ' : En} {i : Nat} {out : List D} (h : putk ρ i out = .ok ρ') : ∃ s ds, ρ[i]? = some s ∧ (s = .o ds ∨ s = .q ds) ∧ ρ' = ρ.set i (kpS s out) := by
  unfold putk at h
  split at h
  · rename_i e; cases h; exact ⟨_, _, e, .inl rfl, rfl⟩
  · rename_i e; cases h; exact ⟨_, _, e, .inr rfl, rfl⟩
  · cases h
theorem getb_ok {ρ : En} {i : Nat} {d : D} (h : getb ρ i = .ok d) : ∃ s ds, ρ[i]? = some s ∧ (s = .o ds ∨ s = .q ds) ∧ d = .lst ds := by
  unfold getb at h
  split at h
  · rename_i e; cases h; exact ⟨_, _, e, .inl rfl, rfl⟩
  · rename_i e; cases h; exact ⟨_, _, e, .inr rfl, rfl⟩
  · cases h
theorem getb_exc {ρ : En} {i : Nat} {k : String} : getb ρ i ≠ .exc k := fun h => by
  unfold getb at h
  split at h <;> cases h
theorem xen_kp {ρ : En} {i : Nat} {s : Sl} {ds es : List D} (q : ρ[i]? = some s) (hs : s = .o ds ∨ s = .q ds) : xen (ρ.set i (kpS s es)) = xen ρ := by
  unfold xen
  refine List.ext_getElem? fun j => ?_
  rw [List.getElem?_map, List.getElem?_map]
  by_cases e : j = i
  · subst e
    rw [List.getElem?_set_self (List.getElem?_eq_some_iff.mp q).1, q]
    rcases hs with rfl | rfl <;> rfl
  · rw [List.getElem?_set_ne (Ne.symm e)]
theorem own_noQ {c : Cn} {H : Hp} {σ : Sg} {ρ : En} (h : ER c H σ ρ) {i : Nat} {s : Sl} {ds : List D} {a : Addr} (q : ρ[i]? = some s) (hs : s = .o ds ∨ s = .q ds) (e : σ[i]? = some (some (V.ref a))) : own σ ρ a ∨ c.Qa = some a := by
  obtain ⟨a', xs, e1, _, e3, _⟩ := h.atS q hs
  rw [e] at e1; cases e1
  exact e3
theorem sndF_io {f : Fn} {i : Nat} {xs : List Fx} (hs : ∀ x ∈ xs, SndF x) : SndF (.io f i xs) := by
  have key : ∀ {N : List Str} {sc : Scope} {e : Expr}, ckF N (.io f i xs) sc e = true → ∃ q z q2 es p, e = .Call (.Name (Str.ofString f.name) q) (.Name z q2 :: es) [] p ∧ glB sc (Str.ofString f.name) = true ∧ dbg (Str.ofString f.name) = true ∧ N[i]? = some z ∧ visB sc z = true ∧ dbg z = true ∧ f.io = true ∧ ckFL N xs sc es = true := by
    intro N sc e h
    unfold ckF at h
    split at h <;> (try (cases h; done)) <;> (rename_i heq; cases heq)
    simp only [Bool.and_eq_true, beq_iff_eq, decide_eq_true_eq] at h
    obtain ⟨⟨⟨⟨⟨⟨⟨rfl, h1⟩, h2⟩, h3⟩, h4⟩, h5⟩, h6⟩, h7⟩ := h
    exact ⟨_, _, _, _, _, rfl, h1, h2, h3, h4, h5, h6, h7⟩
  have pe : ∀ {X : Cx} {H0 : Hp} {Gp : GQ} {W : WX} {tb : Fn → Prop} {tg : String → D → Prop} {e : Expr}, Good tb tg X false → TakesF X W → calF tb tg (.io f i xs) → ckF X.N (.io f i xs) X.env.scope e = true → PE X e (tFX (cn X H0 Gp) W (.io f i xs)) := by
    intro X H0 Gp W tb tg e G tk hc h
    obtain ⟨q0, z, q2, es, p, rfl, h1, h2, h3, h4, h5, h6, h7⟩ := key h
    unfold calF at hc
    obtain ⟨⟨k, fa, fd, ps, vds, F, hr, hm, hk, hb, hv, hlen⟩, hdf⟩ := G.calls rfl f hc.1
    unfold spG at F
    rw [h6] at F
    replace F : FnOk X.prog X.w X.K X.mg X.base (L2.CX X.prog X.w) k fa fd ps (spQ X.K X.mg f.run f.fr ps.length) := F
    obtain ⟨d1, d2, _⟩ := dbg_of h5
    refine pe_imp (pe_callD F hr hb hv (gl_of h1) hm hk (fun σ => passAt tk.1 σ) (pa_cons (pe_var h3 (vis_of h4) d1 d2) (paF_of (H0 := H0) (Gp := Gp) G tk hs hc.2 h7) (star_of (e := .Name z q2) rfl es X.env)) (dbg_of h2).1 (star_of (e := .Name z q2) rfl es X.env) (star_ofF h7 X.env p)) fun σ H Q q => ?_
    obtain ⟨ρ, er, q⟩ := q
    unfold evx at q
    cases e0 : getb ρ i with
    | bad => rw [e0] at q; exact q.elim
    | exc k' => exact absurd e0 getb_exc
    | ok l' =>
    rw [e0] at q
    obtain ⟨s', l1, hsl', hs0', _⟩ := getb_ok e0
    obtain ⟨a, xs', f1, f2, f3, _⟩ := er.atS hsl' hs0'
    refine ⟨_, f1, tFA_then er (show ((evxs ρ xs).bind fun p => (getb p.2 i).bind fun l => (f.run (l :: (p.1 ++ f.dfl))).bind fun r => unq r fun d out => (putk p.2 i out).bind fun ρ2 => R.ok (d, ρ2)).all (fun p => ∀ v H', PoX (cn X H0 Gp) σ ρ (.io f i xs) H H' p v → Q v H') (EX (cn X H0 Gp) W σ ρ H) from q) fun ds ρ1 vs H1 e1 po q1 => ?_⟩
    replace q1 : ((getb ρ1 i).bind fun l => (f.run (l :: (ds ++ f.dfl))).bind fun r => unq r fun d out => (putk ρ1 i out).bind fun ρ2 => R.ok (d, ρ2)).all (fun p => ∀ v H', PoX (cn X H0 Gp) σ ρ (.io f i xs) H H' p v → Q v H') (EX (cn X H0 Gp) W σ ρ1 H1) := q1
    cases e2 : getb ρ1 i with
    | bad => rw [e2] at q1; exact q1.elim
    | exc k' => exact absurd e2 getb_exc
    | ok l =>
    rw [e2] at q1
    obtain ⟨s, l0, hsl, hs0, rfl⟩ := getb_ok e2
    replace q1 : ((f.run (.lst l0 :: (ds ++ f.dfl))).bind fun r => unq r fun d out => (putk ρ1 i out).bind fun ρ2 => R.ok (d, ρ2)).all (fun p => ∀ v H', PoX (cn X H0 Gp) σ ρ (.io f i xs) H H' p v → Q v H') (EX (cn X H0 Gp) W σ ρ1 H1) := q1
    obtain ⟨a', ys, g1, g2, g3, g4⟩ := po.er.atS hsl hs0
    rw [f1] at g1; cases g1
    have hl : (D.lst l0 :: (ds ++ f.dfl)).length = ps.length := hlen _ fun z => by rw [z] at q1; exact q1
    have ra : RpA X.K X.mg H1 (Zf (cn X H0 Gp) σ ρ1) (ds ++ f.dfl) (vs ++ f.dfl.map valD) := po.rp.append (vals_rp hdf)
    have nz : ¬ Zf (cn X H0 Gp) σ ρ1 a := fun z => g3.elim z.2 fun w => (po.er.qg a w).1 z.1
    refine ⟨by rw [List.cons_append, List.length_cons, ← ra.length]; exact hl, _, a, vs ++ f.dfl.map valD, ys, l0, ds ++ f.dfl, rfl, g2, nz, g4, ra, ?_⟩
    cases e3 : f.run (.lst l0 :: (ds ++ f.dfl)) with
    | bad => rw [e3] at q1; exact q1
    | exc k' =>
      rw [e3] at q1
      intro C H' ie m st ⟨ys', ea⟩
      refine (show EX (cn X H0 Gp) W σ ρ1 H1 k' from q1) H' (po.er.xenG (P := fun b => b = a) (fun b z => by subst z; exact g3) st (fun b z => by subst z; exact ⟨ys', ea⟩)) (fun b o e n1 n2 => ⟨st b o e fun z => ?_, own_xen⟩) C ie m
      subst z
      exact g3.elim n1 n2
    | ok r =>
      rw [e3] at q1
      obtain ⟨d, out, rfl, q2⟩ := unq_ok (show (unq r fun d out => (putk ρ1 i out).bind fun ρ2 => R.ok (d, ρ2)).all (fun p => ∀ v H', PoX (cn X H0 Gp) σ ρ (.io f i xs) H H' p v → Q v H') (EX (cn X H0 Gp) W σ ρ1 H1) from q1)
      refine ⟨d, out, rfl, fun v H' zs st ea ro rv hf => ?_⟩
      cases e4 : putk ρ1 i out with
      | bad => rw [e4] at q2; exact q2.elim
      | exc k' => unfold putk at e4; split at e4 <;> cases e4
      | ok ρ2 =>
        rw [e4] at q2
        have hρ2 : ρ2 = ρ1.set i (kpS s out) := by
          obtain ⟨s2, l2, k1, k2, k3⟩ := putk_ok e4
          rw [hsl] at k1; cases k1; exact k3
        subst hρ2
        have eqo := fun b => (own_kp (σ := σ) (es := out) hsl hs0 b).mp
        have zz : ∀ b, (Zf (cn X H0 Gp) σ ρ1 b ∨ H1 b = none) → Zf (cn X H0 Gp) σ ρ1 b := fun b z => z.elim id fun e => po.er.newZ e
        have wk : ∀ b, Zf (cn X H0 Gp) σ ρ1 b → Zf (cn X H0 Gp) σ (ρ1.set i (kpS s out)) b := fun b z => ⟨z.1, fun w => z.2 (eqo b w)⟩
        have dom : ∀ b, H' b = none → H1 b = none := fun b hb => by
          cases e5 : H1 b with
          | none => rfl
          | some o =>
            by_cases z : b = a
            · subst z; rw [ea] at hb; cases hb
            · rw [st b o e5 z] at hb; cases hb
        have er2 : ER (cn X H0 Gp) H' σ (ρ1.set i (kpS s out)) := po.er.updG (G2 := (cn X H0 Gp).Gp) (.self po.er dom) hsl hs0 f1 st ea (ro.weak fun b _ _ z => zz b z)
        have st2 : Stb (cn X H0 Gp) σ ρ1 H1 σ (ρ1.set i (kpS s out)) H' := fun b o e n1 n2 => ⟨st b o e fun z => by subst z; exact g3.elim n1 n2, fun w => n1 (eqo b w)⟩
        have t2 : PoT (cn X H0 Gp) σ ρ (ρ1.set i (kpS s out)) H H' := po.t.trans ⟨er2, st2, dom, xen_kp hsl hs0⟩
        refine q2 v H' ⟨t2.er, t2.st, t2.dom, t2.xe, rv.weak fun b _ _ z => wk b (zz b z), fun g es z => ?_⟩
        obtain ⟨p', ws, k1, k2, k3, k4, k5⟩ := hf g es z
        refine ⟨p', ws, k1, po.dom p' k2, k3, po.er.updG (.aw po.er dom k2 k3) hsl hs0 f1 st ea (k5.weak fun b _ _ z => ⟨⟨(zz b z.1).1, z.2⟩, (zz b z.1).2⟩), k4.weak fun b _ _ z => ⟨wk b (zz b z.1), z.2⟩⟩
  refine ⟨pe, fun {X H0 Gp W tb tg e} G tk hc h => ?_⟩
  obtain ⟨q0, z, q2, es, p, rfl, _⟩ := key h
  exact ptF_gen (pe G tk hc h) fun _ => rfl
end OL
namespace OL
open PySem PySem.Spec PyProof.Rows L2
mutual
theorem setT_exc : ∀ {t : Tg} {d : D} {ρ : En} {k : String}, setT t d ρ ≠ .exc k
  | .nm i, d, ρ, k, h => by
    unfold setT at h
    split at h <;> cases h
  | .tp ts, d, ρ, k, h => by
    cases d <;> (unfold setT at h) <;> first | (cases h; done) | exact setTs_exc h
theorem setTs_exc : ∀ {ts : List Tg} {ds : List D} {ρ : En} {k : String}, setTs ts ds ρ ≠ .exc k
  | [], ds, ρ, k, h => by cases ds <;> (unfold setTs at h; cases h)
  | t :: ts, [], ρ, k, h => by unfold setTs at h; cases h
  | t :: ts, d :: ds, ρ, k, h => by
    unfold setTs at h
    cases e : setT t d ρ with
    | ok ρ' => rw [e] at h; exact setTs_exc h
    | exc k' => exact setT_exc e
    | bad => rw [e] at h; cases h
end
/-- the arguments behind one that is new: on whatever they stand -/
def tAx (X : Cx) (H0 : Hp) (W : WX) (xs : List Ex) : TA := fun σ H Q => ∃ G : GQ, tA (cn X H0 G) W xs σ H Q
theorem pa_ex {X : Cx} {H0 : Hp} {W : WX} {xs : List Ex} {es : List Expr} (h : ∀ G : GQ, PA X es (tA (cn X H0 G) W xs)) : PA X es (tAx X H0 W xs) := ⟨fun pos pins s σ H Q I ⟨G, q⟩ => (h G).run pos pins s σ H Q I q⟩
theorem sndF_iot (f : Fn) (x : Ex) (xs : List Ex) : SndF (.iot f x xs) := by
  have key : ∀ {N : List Str} {sc : Scope} {e : Expr}, ckF N (.iot f x xs) sc e = true → ∃ q e1 es p, e = .Call (.Name (Str.ofString f.name) q) (e1 :: es) [] p ∧ glB sc (Str.ofString f.name) = true ∧ dbg (Str.ofString f.name) = true ∧ ck N x sc e1 = true ∧ frx x = true ∧ nb x = true ∧ noStar e1 = true ∧ f.io = true ∧ ckL N xs sc es = true ∧ xs.all nb = true := by
    intro N sc e h
    unfold ckF at h
    split at h <;> (try (cases h; done)) <;> (rename_i heq; cases heq)
    simp only [Bool.and_eq_true, beq_iff_eq, decide_eq_true_eq] at h
    obtain ⟨⟨⟨⟨⟨⟨⟨⟨⟨rfl, h1⟩, h2⟩, h3⟩, h4⟩, h5⟩, h6⟩, h7⟩, h8⟩, h9⟩ := h
    exact ⟨_, _, _, _, rfl, h1, h2, h3, h4, h5, h6, h7, h8, h9⟩
  have pe : ∀ {X : Cx} {H0 : Hp} {Gp : GQ} {W : WX} {tb : Fn → Prop} {tg : String → D → Prop} {e : Expr}, Good tb tg X false → TakesF X W → calF tb tg (.iot f x xs) → ckF X.N (.iot f x xs) X.env.scope e = true → PE X e (tFX (cn X H0 Gp) W (.iot f x xs)) := by
    intro X H0 Gp W tb tg e G tk hc h
    obtain ⟨q0, e1, es, p, rfl, h1, h2, h3, h4, h5, h6, h7, h8, h9⟩ := key h
    unfold calF at hc
    obtain ⟨⟨k, fa, fd, ps, vds, F, hr, hm, hk, hb, hv, hlen⟩, hdf⟩ := G.calls rfl f hc.1
    unfold spG at F
    rw [h7] at F
    replace F : FnOk X.prog X.w X.K X.mg X.base (L2.CX X.prog X.w) k fa fd ps (spQ X.K X.mg f.run f.fr ps.length) := F
    have pt : PA X es (tAx X H0 W xs) := pa_ex fun G' => pa_of (H0 := H0) (Gp := G') G tk (sndL xs) (fun z => by cases z) hc.2.2 h8
    refine pe_imp (pe_callD F hr hb hv (gl_of h1) hm hk (fun σ => passAt tk.1 σ) (pa_cons ((snd x).1.pe (H0 := H0) (Gp := Gp) G tk (fun z => by cases z) hc.2.1 h3) pt (star_of h6 es X.env)) (dbg_of h2).1 (star_of h6 es X.env) (nostars h8 X.env p)) fun σ H Q q => ?_
    obtain ⟨ρ, er, q⟩ := q
    unfold evx at q
    refine ⟨ρ, er, ?_⟩
    cases e2 : ev ρ x with
    | bad => rw [e2] at q; exact q.elim
    | exc k' => rw [e2] at q; exact (show EX (cn X H0 Gp) W σ ρ H k' from q).of er
    | ok l =>
    rw [e2] at q
    cases l <;> (try (exact False.elim q))
    rename_i l0
    replace q : ((evs ρ xs).bind fun ds => (f.run (.lst l0 :: (ds ++ f.dfl))).bind fun r => unq r fun d _ => R.ok (d, ρ)).all (fun p => ∀ v H', PoX (cn X H0 Gp) σ ρ (.iot f x xs) H H' p v → Q v H') (EX (cn X H0 Gp) W σ ρ H) := q
    intro v H1 po
    obtain ⟨a, zs, rfl, f1, f2, f3⟩ := po.fr h4 l0 rfl
    have er1 : ER (aw (cn X H0 Gp) a) H1 σ ρ := er.wG po.same (.aw er (fun q e => po.same.free e) f1 f2)
    refine ⟨(aw (cn X H0 Gp) a).G, ρ, er1, ?_⟩
    cases e3 : evs ρ xs with
    | bad => rw [e3] at q; exact q.elim
    | exc k' =>
      rw [e3] at q
      exact fun H' s => (show EX (cn X H0 Gp) W σ ρ H k' from q).of er H' (po.same.trans s)
    | ok ds =>
    rw [e3] at q
    replace q : ((f.run (.lst l0 :: (ds ++ f.dfl))).bind fun r => unq r fun d _ => R.ok (d, ρ)).all (fun p => ∀ v H', PoX (cn X H0 Gp) σ ρ (.iot f x xs) H H' p v → Q v H') (EX (cn X H0 Gp) W σ ρ H) := q
    intro vs H2 po2
    have s2 := po.same.trans po2.same
    have er2 := er.same s2
    have ra : RpA X.K X.mg H2 (Zf (aw (cn X H0 Gp) a) σ ρ) (ds ++ f.dfl) (vs ++ f.dfl.map valD) := (po2.rp h9).append (vals_rp hdf)
    have hl : (D.lst l0 :: (ds ++ f.dfl)).length = ps.length := hlen _ fun z => by rw [z] at q; exact q
    refine ⟨by rw [List.cons_append, List.length_cons, ← ra.length]; exact hl, _, a, vs ++ f.dfl.map valD, zs, l0, ds ++ f.dfl, rfl, po2.same _ _ f2, fun z => z.1.2 rfl, (f3.same po2.same).weak fun b _ _ z => ⟨⟨z.1.1, z.2⟩, z.1.2⟩, ra, ?_⟩
    have sm : ∀ {H'}, (∀ b o, H2 b = some o → b ≠ a → H' b = some o) → Same H H' := fun st b o e => st b o (s2 _ _ e) (ne_of_none e f1)
    cases e4 : f.run (.lst l0 :: (ds ++ f.dfl)) with
    | bad => rw [e4] at q; exact q
    | exc k' =>
      rw [e4] at q
      intro C H' ie m st _
      exact (show EX (cn X H0 Gp) W σ ρ H k' from q).of er H' (sm st) C ie m
    | ok r =>
      rw [e4] at q
      obtain ⟨d, out, rfl, q2⟩ := unq_ok (show (unq r fun d _ => R.ok (d, ρ)).all (fun p => ∀ v H', PoX (cn X H0 Gp) σ ρ (.iot f x xs) H H' p v → Q v H') (EX (cn X H0 Gp) W σ ρ H) from q)
      refine ⟨d, out, rfl, fun v H' ys st ea ro rv hf => ?_⟩
      have zz : ∀ b, (Zf (aw (cn X H0 Gp) a) σ ρ b ∨ H2 b = none) → Zf (cn X H0 Gp) σ ρ b := fun b z => z.elim (fun z => ⟨z.1.1, z.2⟩) fun e => er2.newZ e
      have t := PoT.of er (sm st)
      refine q2 v H' ⟨t.er, t.st, t.dom, t.xe, rv.weak fun b _ _ z => zz b z, fun g es z => ?_⟩
      obtain ⟨p', ws, k1, k2, k3, k4, k5⟩ := hf g es z
      exact ⟨p', ws, k1, s2.free k2, k3, er.wG (sm st) (.aw er (fun q e => (sm st).free e) (s2.free k2) k3), k4.weak fun b _ _ z => ⟨zz b z.1, z.2⟩⟩
  refine ⟨pe, fun {X H0 Gp W tb tg e} G tk hc h => ?_⟩
  obtain ⟨q0, z, q2, es, rfl, _⟩ := key h
  exact ptF_gen (pe G tk hc h) fun _ => rfl
/-- a bound of a slice -/
def evo (ρ : En) (x : Fx) : R (Option Int × En) := if isNopF x then .ok (none, ρ) else (evx ρ x).bind fun b => (optI b.1).bind fun o => .ok (o, b.2)
def tFO (c : Cn) (W : WX) (x : Fx) : TO := fun σ H Q => ∃ ρ, ER c H σ ρ ∧ (evo ρ x).all (fun p => ∀ H', PoT c σ ρ p.2 H H' → Q p.1 H') (EX c W σ ρ H)
theorem poF_of {X : Cx} {H0 : Hp} {Gp : GQ} {W : WX} {tb : Fn → Prop} {tg : String → D → Prop} {x : Fx} {o : Option Expr} (hx : SndF x) (G : Good tb tg X false) (tk : TakesF X W) (hc : calF tb tg x) (h : optC (isNopF x) o (fun e => ckF X.N x X.env.scope e) = true) : PO X o (tFO (cn X H0 Gp) W x) := by
  by_cases hn : isNopF x = true
  · cases o with
    | some _ => rw [hn] at h; simp [optC] at h
    | none =>
      refine ⟨fun pins s σ H Q I q => po_none.run pins s σ H Q I ?_⟩
      obtain ⟨ρ, er, q⟩ := q
      unfold evo at q
      rw [if_pos hn] at q
      exact q H (.of er (Same.refl _))
  · have hn' : isNopF x = false := by simpa using hn
    cases o with
    | none => rw [hn'] at h; simp [optC] at h
    | some e =>
      have h1 : ckF X.N x X.env.scope e = true := by rw [hn'] at h; simpa [optC] using h
      have b := po_some (hx.pe (H0 := H0) (Gp := Gp) G tk hc h1)
      refine ⟨fun pins s σ H Q I q => b.run pins s σ H Q I ?_⟩
      obtain ⟨ρ, er, q⟩ := q
      unfold evo at q
      rw [if_neg hn] at q
      refine tFX_then er q fun d ρ1 v H1 e1 po q1 => ?_
      cases d <;> (try (exact False.elim q1))
      cases (Rb.p po.rp).int
      exact ⟨_, rfl, q1 _ po.t⟩
theorem ckF_sl {x lo hi : Fx} {N : List Str} {sc : Scope} {e : Expr} (h : ckF N (.sl x lo hi) sc e = true) : ∃ a l u p p2, e = .Subscript a (.Slice l u none p2) p ∧ ckF N x sc a = true ∧ optC (isNopF lo) l (fun e => ckF N lo sc e) = true ∧ optC (isNopF hi) u (fun e => ckF N hi sc e) = true := by
  unfold ckF at h
  split at h <;> (try (cases h; done)) <;> (rename_i heq; cases heq)
  rw [Bool.and_eq_true, Bool.and_eq_true] at h
  exact ⟨_, _, _, _, _, rfl, h.1.1, h.1.2, h.2⟩
theorem sndF_sl {x lo hi : Fx} (hx : SndF x) (hl : SndF lo) (hh : SndF hi) : SndF (.sl x lo hi) := by
  have pe : ∀ {X : Cx} {H0 : Hp} {Gp : GQ} {W : WX} {tb : Fn → Prop} {tg : String → D → Prop} {e : Expr}, Good tb tg X false → TakesF X W → calF tb tg (.sl x lo hi) → ckF X.N (.sl x lo hi) X.env.scope e = true → PE X e (tFX (cn X H0 Gp) W (.sl x lo hi)) := by
    intro X H0 Gp W tb tg e G tk hc h
    obtain ⟨a, l, u, p, p2, rfl, h1, h2, h3⟩ := ckF_sl h
    unfold calF at hc
    refine pe_imp (pe_slice sl_all (hx.pe (H0 := H0) (Gp := Gp) G tk hc.1 h1) (poF_of (H0 := H0) (Gp := Gp) hl G tk hc.2.1 h2) (poF_of (H0 := H0) (Gp := Gp) hh G tk hc.2.2 h3)) fun σ H Q q => ?_
    obtain ⟨ρ, er, q⟩ := q
    unfold evx at q
    refine tFX_then er (f := fun a => (evo a.2 lo).bind fun l => (evo l.2 hi).bind fun h => (slD a.1 l.1 h.1).bind fun d => R.ok (d, h.2)) q fun d ρ1 v H1 e1 po q1 => ?_
    refine ⟨ρ1, po.er, ?_⟩
    replace q1 : ((evo ρ1 lo).bind fun l => (evo l.2 hi).bind fun h => (slD d l.1 h.1).bind fun d => R.ok (d, h.2)).all (fun p => ∀ v H', PoX (cn X H0 Gp) σ ρ (.sl x lo hi) H H' p v → Q v H') (EX (cn X H0 Gp) W σ ρ1 H1) := q1
    cases e2 : evo ρ1 lo with
    | exc k => rw [e2] at q1; exact q1
    | bad => rw [e2] at q1; exact q1.elim
    | ok l' =>
    rw [e2] at q1
    intro H2 t2
    refine ⟨l'.2, t2.er, ?_⟩
    replace q1 : ((evo l'.2 hi).bind fun h => (slD d l'.1 h.1).bind fun d => R.ok (d, h.2)).all (fun p => ∀ v H', PoX (cn X H0 Gp) σ ρ (.sl x lo hi) H H' p v → Q v H') (EX (cn X H0 Gp) W σ ρ1 H1) := q1
    cases e3 : evo l'.2 hi with
    | exc k => rw [e3] at q1; exact t2.ex q1
    | bad => rw [e3] at q1; exact q1.elim
    | ok u' =>
    rw [e3] at q1
    intro H3 t3
    refine ⟨_, fun _ => True, d, .p ((po.rp.stb po.er t2.st).stb t2.er t3.st), ?_⟩
    replace q1 : ((slD d l'.1 u'.1).bind fun d => R.ok (d, u'.2)).all (fun p => ∀ v H', PoX (cn X H0 Gp) σ ρ (.sl x lo hi) H H' p v → Q v H') (EX (cn X H0 Gp) W σ ρ1 H1) := q1
    cases e4 : slD d l'.1 u'.1 with
    | ok w => rw [e4] at q1; exact fun u H' nw => q1 u H' (nw.pox ((po.t.trans t2).trans t3) rfl)
    | exc k => exact trivial
    | bad => rw [e4] at q1; exact q1.elim
  refine ⟨pe, fun {X H0 Gp W tb tg e} G tk hc h => ?_⟩
  obtain ⟨a, l, u, p, p2, rfl, _⟩ := ckF_sl h
  exact ptF_gen (pe G tk hc h) fun _ => rfl
/-! ### what is walked -/
def itx (ρ : En) (it : Fx) : R (List D × En) := (evx ρ it).bind fun p => (itemsOf p.1).bind fun ds => .ok (ds, p.2)
def tFI (c : Cn) (W : WX) (it : Fx) : TI := fun σ H T => ∃ ρ, ER c H σ ρ ∧ (itx ρ it).all (fun p => ∀ J H', PoT c σ ρ p.2 H H' → Wk c.K c.mg H' (Zf c σ p.2) J p.1 → T J H') (EX c W σ ρ H)
theorem ckR_of {N : List Str} {xs : List Fx} {sc : Scope} {e : Expr} (h : ckR N xs sc e = true) : (∃ x q a p, xs = [x] ∧ e = .Call (.Name ("range" : Str) q) [a] [] p ∧ glB sc ("range" : Str) = true ∧ noStar a = true ∧ ckF N x sc a = true) ∨
    ∃ x y q a b p, xs = [x, y] ∧ e = .Call (.Name ("range" : Str) q) [a, b] [] p ∧ glB sc ("range" : Str) = true ∧ noStar a = true ∧ noStar b = true ∧ ckF N x sc a = true ∧ ckF N y sc b = true := by
  match xs, h with
  | [x], h =>
    cases e <;> (try (simp [ckR] at h; done))
    rename_i fn es ks p _
    cases fn <;> (try (simp [ckR] at h; done))
    revert h
    match es, ks with
    | [a], [] =>
      intro h
      first | simp [ckR] at h | simp at h
      obtain ⟨⟨⟨rfl, h1⟩, h2⟩, h3⟩ := h
      exact .inl ⟨x, _, a, _, rfl, rfl, h1, h2, h3⟩
    | [], _ => intro h; first | (simp [ckR] at h; done) | (simp at h; done)
    | _ :: _ :: _, _ => intro h; first | (simp [ckR] at h; done) | (simp at h; done)
    | [_], _ :: _ => intro h; first | (simp [ckR] at h; done) | (simp at h; done)
  | [x, y], h =>
    cases e <;> (try (simp [ckR] at h; done))
    rename_i fn es ks p _
    cases fn <;> (try (simp [ckR] at h; done))
    revert h
    match es, ks with
    | [a, b], [] =>
      intro h
      first | simp [ckR] at h | simp at h
      obtain ⟨⟨⟨⟨⟨rfl, h1⟩, h2⟩, h4⟩, h3⟩, h5⟩ := h
      exact .inr ⟨x, y, _, a, b, _, rfl, rfl, h1, h2, h4, h3, h5⟩
    | [], _ => intro h; first | (simp [ckR] at h; done) | (simp at h; done)
    | [_], _ => intro h; first | (simp [ckR] at h; done) | (simp at h; done)
    | _ :: _ :: _ :: _, _ => intro h; first | (simp [ckR] at h; done) | (simp at h; done)
    | [_, _], _ :: _ => intro h; first | (simp [ckR] at h; done) | (simp at h; done)
  | [], h => cases e <;> (simp [ckR] at h; done)
  | _ :: _ :: _ :: _, h => cases e <;> (simp [ckR] at h; done)
theorem piF_of {it : Fx} (hs : ∀ xs, it = .rng xs → ∀ x ∈ xs, SndF x) {X : Cx} {H0 : Hp} {Gp : GQ} {W : WX} {tb : Fn → Prop} {tg : String → D → Prop} {t i : Expr} (G : Good tb tg X false) (tk : TakesF X W) (hc : calF tb tg it) (h : ckFI X.N it X.env.scope i (isTup t) = true) : PI X t i (tFI (cn X H0 Gp) W it) := by
  cases it <;> (try (unfold ckFI at h; cases h; done))
  · rename_i x
    unfold ckFI at h
    unfold calF at hc
    refine pi_imp ((snd x).2 (H0 := H0) (Gp := Gp) G tk hc h) fun σ H T q => ?_
    obtain ⟨ρ, er, q⟩ := q
    refine ⟨ρ, er, ?_⟩
    unfold itx evx at q
    revert q
    cases ev ρ x with
    | exc k => exact fun q => (show EX (cn X H0 Gp) W σ ρ H k from q).of er
    | bad => exact fun q => q
    | ok d =>
      show ((itemsOf d).bind _).all _ _ → (itemsOf d).all _ _
      cases itemsOf d with
      | ok ds => exact fun q J H' s wk => q J H' (.of er s) wk
      | exc k => exact fun q => (show EX (cn X H0 Gp) W σ ρ H k from q).of er
      | bad => exact fun q => q
  · rename_i xs
    unfold ckFI at h
    have hs := hs xs rfl
    unfold calF at hc
    rcases ckR_of h with ⟨x, q0, a, p0, rfl, rfl, h1, h2, h3⟩ | ⟨x, y, q0, a, b, p0, rfl, rfl, h1, h2, h4, h3, h5⟩
    ·
      have pa := paF_of (H0 := H0) (Gp := Gp) (W := W) G tk hs hc (es := [a]) (by unfold ckFL; rw [h2, h3]; unfold ckFL; rfl)
      refine pi_imp (pi_range1 (gl_of h1) (G.oth _ (by decide)) pa (star_of h2 [] X.env)) fun σ H T q => ?_
      obtain ⟨ρ, er, q⟩ := q
      unfold itx evx at q
      have q' : ((evxs ρ [x]).bind fun p => (rngD p.1).bind fun d => (itemsOf d).bind fun ds => R.ok (ds, p.2)).all (fun p => ∀ J H', PoT (cn X H0 Gp) σ ρ p.2 H H' → Wk X.K X.mg H' (Zf (cn X H0 Gp) σ p.2) J p.1 → T J H') (EX (cn X H0 Gp) W σ ρ H) := by
        revert q
        cases evxs ρ [x] with
        | ok p =>
          show (R.bind ((rngD p.1).bind fun d => R.ok (d, p.2)) _).all _ _ → ((rngD p.1).bind _).all _ _
          cases rngD p.1 <;> exact fun q => q
        | exc k => exact fun q => q
        | bad => exact fun q => q
      refine tFA_then er q' fun ds ρ' vs H1 ee po q1 => ?_
      replace q1 : ((rngD ds).bind fun d => (itemsOf d).bind fun ds => R.ok (ds, ρ')).all (fun p => ∀ J H', PoT (cn X H0 Gp) σ ρ p.2 H H' → Wk X.K X.mg H' (Zf (cn X H0 Gp) σ p.2) J p.1 → T J H') (EX (cn X H0 Gp) W σ ρ' H1) := q1
      unfold rngD at q1
      split at q1
      · rename_i j
        split at q1
        · rename_i hj
          obtain ⟨v, rfl, rv⟩ := (RbA.of po.rp).one
          cases rv.int
          exact ⟨j, rfl, hj.1, hj.2, q1 _ _ po.t (by rw [rng_map0]; exact wk_rng 0 _)⟩
        · exact q1.elim
      · exfalso
        unfold evxs at ee
        cases e1 : evx ρ x with
        | ok d => rw [e1] at ee; unfold evxs at ee; cases (congrArg (fun z : List D × En => z.1.length) (R.ok.inj ee))
        | exc _ => rw [e1] at ee; cases ee
        | bad => rw [e1] at ee; cases ee
      · exact q1.elim
    ·
      have pa := paF_of (H0 := H0) (Gp := Gp) (W := W) G tk hs hc (es := [a, b]) (by unfold ckFL ckFL; rw [h2, h3, h4, h5]; unfold ckFL; rfl)
      refine pi_imp (pi_range2 (gl_of h1) (G.oth _ (by decide)) pa (by rw [star_of h2, star_of h4]; rfl) (star_of h4 [] X.env)) fun σ H T q => ?_
      obtain ⟨ρ, er, q⟩ := q
      unfold itx evx at q
      have q' : ((evxs ρ [x, y]).bind fun p => (rngD p.1).bind fun d => (itemsOf d).bind fun ds => R.ok (ds, p.2)).all (fun p => ∀ J H', PoT (cn X H0 Gp) σ ρ p.2 H H' → Wk X.K X.mg H' (Zf (cn X H0 Gp) σ p.2) J p.1 → T J H') (EX (cn X H0 Gp) W σ ρ H) := by
        revert q
        cases evxs ρ [x, y] with
        | ok p =>
          show (R.bind ((rngD p.1).bind fun d => R.ok (d, p.2)) _).all _ _ → ((rngD p.1).bind _).all _ _
          cases rngD p.1 <;> exact fun q => q
        | exc k => exact fun q => q
        | bad => exact fun q => q
      refine tFA_then er q' fun ds ρ' vs H1 ee po q1 => ?_
      replace q1 : ((rngD ds).bind fun d => (itemsOf d).bind fun ds => R.ok (ds, ρ')).all (fun p => ∀ J H', PoT (cn X H0 Gp) σ ρ p.2 H H' → Wk X.K X.mg H' (Zf (cn X H0 Gp) σ p.2) J p.1 → T J H') (EX (cn X H0 Gp) W σ ρ' H1) := q1
      unfold rngD at q1
      split at q1
      · exfalso
        unfold evxs at ee
        cases e1 : evx ρ x with
        | ok d =>
          rw [e1] at ee
          replace ee : ((evxs d.2 [y]).bind fun p => R.ok (d.1 :: p.1, p.2)) = _ := ee
          unfold evxs at ee
          cases e2 : evx d.2 y with
          | ok d => rw [e2] at ee; unfold evxs at ee; cases (congrArg (fun z : List D × En => z.1.length) (R.ok.inj ee))
          | exc _ => rw [e2] at ee; cases ee
          | bad => rw [e2] at ee; cases ee
        | exc _ => rw [e1] at ee; cases ee
        | bad => rw [e1] at ee; cases ee
      · rename_i i j
        split at q1
        · rename_i hj
          obtain ⟨v, w, rfl, rv, rw'⟩ := (RbA.of po.rp).two
          cases rv.int; cases rw'.int
          exact ⟨i, j, rfl, hj, q1 _ _ po.t (wk_rng i _)⟩
        · exact q1.elim
      · exact q1.elim
end OL
namespace OL
open PySem PySem.Spec PyProof.Rows L2
mutual
theorem setT_v : ∀ {t : Tg} {d : D} {ρ ρ' : En}, setT t d ρ = .ok ρ' → (∀ j, j ∈ slotsT t → ∃ e, ρ'[j]? = some (.v e)) ∧ ∀ (j : Nat) (e : D), ρ[j]? = some (.v e) → ∃ e', ρ'[j]? = some (.v e')
  | .nm i, d, ρ, ρ', h => by
    unfold setT at h
    split at h
    · rename_i s hs
      cases h
      have hi := (List.getElem?_eq_some_iff.mp hs).1
      unfold slotsT
      refine ⟨fun j hj => ?_, fun j e hj => ?_⟩
      · rw [List.mem_singleton.mp hj]; exact ⟨d, List.getElem?_set_self hi⟩
      · by_cases z : i = j
        · subst z; exact ⟨d, List.getElem?_set_self hi⟩
        · exact ⟨e, by rw [List.getElem?_set_ne z]; exact hj⟩
    · cases h
  | .tp ts, d, ρ, ρ', h => by
    unfold slotsT
    cases d <;> (unfold setT at h) <;> first | (cases h; done) | exact setTs_v h
theorem setTs_v : ∀ {ts : List Tg} {ds : List D} {ρ ρ' : En}, setTs ts ds ρ = .ok ρ' → (∀ j, j ∈ slotsTs ts → ∃ e, ρ'[j]? = some (.v e)) ∧ ∀ (j : Nat) (e : D), ρ[j]? = some (.v e) → ∃ e', ρ'[j]? = some (.v e')
  | [], ds, ρ, ρ', h => by
    cases ds <;> (unfold setTs at h) <;> cases h
    unfold slotsTs
    exact ⟨fun _ z => (by cases z), fun _ e z => ⟨e, z⟩⟩
  | t :: ts, [], ρ, ρ', h => by unfold setTs at h; cases h
  | t :: ts, d :: ds, ρ, ρ', h => by
    unfold setTs at h
    unfold slotsTs
    cases e1 : setT t d ρ with
    | ok ρ1 =>
      rw [e1] at h
      obtain ⟨a1, a2⟩ := setT_v e1
      obtain ⟨b1, b2⟩ := setTs_v (show setTs ts ds ρ1 = .ok ρ' from h)
      refine ⟨fun j hj => ?_, fun j e hj => ?_⟩
      · rcases List.mem_append.mp hj with z | z
        · obtain ⟨e, he⟩ := a1 j z
          exact b2 j e he
        · exact b1 j z
      · obtain ⟨e', he⟩ := a2 j e hj
        exact b2 j e' he
    | exc _ => rw [e1] at h; cases h
    | bad => rw [e1] at h; cases h
end
theorem xen_v {ρ ρ' : En} {j : Nat} {e : D} (h : xen ρ' = xen ρ) (q : ρ[j]? = some (.v e)) : ρ'[j]? = some (.v e) := by
  refine (xen_at (i := j) (s := .v e) ?_).2.2 e rfl
  rw [h]
  unfold xen
  rw [List.getElem?_map, q]
  rfl
theorem notOwn_v' {ρ : En} {j : Nat} {e : D} (q : ρ[j]? = some (.v e)) : notOwn ρ j = true := by
  unfold notOwn
  rw [q]
theorem notOwn_q {ρ : En} {i : Nat} (h : notOwn ρ i = true) (ds : List D) : ρ[i]? ≠ some (.q ds) := fun e => by
  unfold notOwn at h
  rw [e] at h
  cases h
theorem bk_length (ρ ρ' : En) : ∀ vs : List Nat, (bk ρ ρ' vs).length = ρ'.length
  | [] => rfl
  | v :: vs => by unfold bk; rw [List.length_set, bk_length ρ ρ' vs]
theorem bk_at {ρ ρ' : En} {j : Nat} {s : Sl} : ∀ {vs : List Nat}, (bk ρ ρ' vs)[j]? = some s → (j ∈ vs ∧ s = (ρ[j]?).getD .n) ∨ (j ∉ vs ∧ ρ'[j]? = some s)
  | [], h => .inr ⟨by simp, h⟩
  | v :: vs, h => by
    unfold bk at h
    rcases get_set_cases h with ⟨rfl, q, _⟩ | ⟨ne, q⟩
    · exact .inl ⟨by simp, q⟩
    · rcases bk_at q with ⟨m, e⟩ | ⟨m, e⟩
      · exact .inl ⟨List.mem_cons_of_mem _ m, e⟩
      · exact .inr ⟨by simp [ne, m], e⟩
theorem bk_out {ρ ρ' : En} {j : Nat} : ∀ {vs : List Nat}, j ∉ vs → (bk ρ ρ' vs)[j]? = ρ'[j]?
  | [], _ => rfl
  | v :: vs, h => by
    unfold bk
    rw [List.getElem?_set_ne (by intro z; exact h (by simp [z]))]
    exact bk_out fun z => h (List.mem_cons_of_mem _ z)
theorem getD_some {ρ : En} {j : Nat} {s : Sl} (h : s = (ρ[j]?).getD .n) (hs : s ≠ .n) : ρ[j]? = some s := by
  cases e : ρ[j]? with
  | none => rw [e] at h; exact absurd h hs
  | some s' => rw [e] at h; rw [h]; rfl
theorem own_bk {σ : Sg} {ρ ρ' : En} {vs : List Nat} (hn : vs.all (notOwn ρ) = true) (a : Addr) : own σ (bk ρ ρ' vs) a ↔ own (wipe σ vs) (wipeN ρ' vs) a := by
  constructor
  · rintro ⟨j, ds, e1, e2⟩
    rcases bk_at e1 with ⟨m, z⟩ | ⟨m, z⟩
    · exact absurd (getD_some z (by intro w; cases w)) (notOwn_of (List.all_eq_true.mp hn j m) ds)
    · exact ⟨j, ds, by rw [wipeN_out m]; exact z, by rw [wipe_out m]; exact e2⟩
  · rintro ⟨j, ds, e1, e2⟩
    rcases wipe_at e1 with ⟨_, z⟩ | ⟨m, z⟩
    · cases z
    · exact ⟨j, ds, by rw [bk_out m]; exact z, by rw [wipe_out m] at e2; exact e2⟩
/-- the slots of a block's target as they were -/
theorem ER.unwipe {c c2 : Cn} {H H' : Hp} {σ : Sg} {ρ0 ρe : En} {vs : List Nat} (h : ER c H σ ρ0) (hw : ER c2 H' (L2.wipe σ vs) (wipeN ρe vs)) (hn : vs.all (notOwn ρ0) = true)
    (hv : ∀ d v, Rp c.K c.mg H (Zf c σ ρ0) d v → Rp c2.K c2.mg H' (Zf c2 (L2.wipe σ vs) (wipeN ρe vs)) d v) : ER c2 H' σ (bk ρ0 ρe vs) := by
  have wk : ∀ a o, H' a = some o → Zf c2 (L2.wipe σ vs) (wipeN ρe vs) a → Zf c2 σ (bk ρ0 ρe vs) a := fun a o _ z => ⟨z.1, fun w => z.2 ((own_bk hn a).mp w)⟩
  have no : ∀ {j : Nat} {ds : List D}, (bk ρ0 ρe vs)[j]? = some (.o ds) → j ∉ vs ∧ (wipeN ρe vs)[j]? = some (.o ds) := fun {j ds} q => by
    rcases bk_at q with ⟨m, z⟩ | ⟨m, z⟩
    · exact absurd (getD_some z (by intro w; cases w)) (notOwn_of (List.all_eq_true.mp hn j m) ds)
    · exact ⟨m, by rw [wipeN_out m]; exact z⟩
  refine ⟨?_, hw.sm, hw.nw, hw.dm, hw.qg, fun j ds q => ?_, fun j d q => ?_, fun j ds q => ?_, fun j k a ds es q1 q2 e1 e2 => ?_⟩
  · have := hw.len
    rw [wipe_length, wipeN_length] at this
    rw [bk_length]
    exact this
  · rcases bk_at q with ⟨m, z⟩ | ⟨m, z⟩
    · exact absurd (getD_some z (by intro w; cases w)) (notOwn_q (List.all_eq_true.mp hn j m) ds)
    · obtain ⟨z0, a, xs, e1, e2, e3, r⟩ := hw.lsq j ds (by rw [wipeN_out m]; exact z)
      rw [wipe_out m] at e1
      exact ⟨z0, a, xs, e1, e2, e3, r.weak wk⟩
  · rcases bk_at q with ⟨m, z⟩ | ⟨m, z⟩
    · obtain ⟨v, e1, r⟩ := h.val j d (getD_some z (by intro w; cases w))
      exact ⟨v, e1, (hv d v r).weak wk⟩
    · obtain ⟨v, e1, r⟩ := hw.val j d (by rw [wipeN_out m]; exact z)
      rw [wipe_out m] at e1
      exact ⟨v, e1, r.weak wk⟩
  · obtain ⟨m, z⟩ := no q
    obtain ⟨a, xs, e1, e2, e3, r⟩ := hw.lst j ds z
    rw [wipe_out m] at e1
    exact ⟨a, xs, e1, e2, e3, r.weak wk⟩
  · obtain ⟨m1, z1⟩ := no q1
    obtain ⟨m2, z2⟩ := no q2
    exact hw.uniq j k a ds es z1 z2 (by rw [wipe_out m1]; exact e1) (by rw [wipe_out m2]; exact e2)
/-- the list that is made is changed -/
theorem ER.updD {c : Cn} {H : Hp} {σ : Sg} {ρ : En} {p : Addr} {acc : List V} {o : HO} (h : ER (aw c p) H σ ρ) (h0 : c.H0 p = none) (hD : H p = some (.lst acc)) : ER (aw c p) (L2.upd H p o) σ ρ := by
  have st : Stay H (Zf (aw c p) σ ρ) (L2.upd H p o) := fun a u e z => by
    by_cases w : a = p
    · subst w
      rw [hD] at e; cases e
      exact absurd rfl (z rfl).1.2
    · rw [upd_ne w]; exact e
  have dom : ∀ b, L2.upd H p o b = none → H b = none := fun b hb => by
    by_cases w : b = p
    · subst w; rw [upd_same] at hb; cases hb
    · rw [upd_ne w] at hb; exact hb
  have ne0 : ∀ {a : Addr} {u : HO}, c.H0 a = some u → a ≠ p := fun e w => by subst w; rw [h0] at e; cases e
  refine ⟨h.len, fun a u e n => by rw [upd_ne (ne0 e)]; exact h.sm a u e n, fun b hb => h.nw b (dom b hb), fun b hb => h.dm b (dom b hb), fun a e => ?_, fun j ds e => ?_, fun j d e => ?_, fun j ds e => ?_, h.uniq⟩
  · obtain ⟨g1, ⟨u, g2⟩, xs, g3⟩ := h.qg a e
    exact ⟨g1, ⟨u, g2⟩, xs, by rw [upd_ne (ne0 g2)]; exact g3⟩
  · obtain ⟨z0, a, xs, e1, e2, e3, r⟩ := h.lsq j ds e
    obtain ⟨_, ⟨u, g2⟩, _⟩ := h.qg a e2
    exact ⟨z0, a, xs, e1, e2, by rw [upd_ne (ne0 g2)]; exact e3, r.mono st fun _ _ _ z => z⟩
  · obtain ⟨v, e1, r⟩ := h.val j d e
    exact ⟨v, e1, r.mono st fun _ _ _ z => z⟩
  · obtain ⟨a, xs, e1, e2, e3, r⟩ := h.lst j ds e
    exact ⟨a, xs, e1, by rw [upd_ne e3.2.2]; exact e2, e3, r.mono st fun _ _ _ z => z⟩
theorem ER.unaw {c : Cn} {H : Hp} {σ : Sg} {ρ : En} {p : Addr} (h : ER (aw c p) H σ ρ) (hg : ∀ q, H q = none → c.Gp q) (h0 : c.H0 p = none) : ER c H σ ρ := by
  have wk : ∀ a o, H a = some o → Zf (aw c p) σ ρ a → Zf c σ ρ a := fun a o _ z => ⟨z.1.1, z.2⟩
  refine ⟨h.len, h.sm, hg, h.dm, fun a e1 => ?_, fun j ds e => ?_, fun j d e => ?_, fun j ds e => ?_, h.uniq⟩
  · obtain ⟨g1, ⟨o, g2⟩, g3⟩ := h.qg a e1
    refine ⟨fun g => g1 ⟨g, fun z => ?_⟩, ⟨o, g2⟩, g3⟩
    subst z
    have g2' : c.H0 a = some o := g2
    rw [h0] at g2'; cases g2'
  · obtain ⟨z0, a, xs, e1, e2, e3, r⟩ := h.lsq j ds e
    exact ⟨z0, a, xs, e1, e2, e3, r.weak wk⟩
  · obtain ⟨v, e1, r⟩ := h.val j d e
    exact ⟨v, e1, r.weak wk⟩
  · obtain ⟨a, xs, e1, e2, e3, r⟩ := h.lst j ds e
    exact ⟨a, xs, e1, e2, ⟨e3.1, e3.2.1⟩, r.weak wk⟩
theorem lcX_cons {tg : Tg} {ρ0 : En} {g : En → R (D × En)} {d : D} {ds : List D} {ρ ρe : En} {rs : List D} (h : lcX tg ρ0 g (d :: ds) ρ = .ok (rs, ρe)) :
    ∃ ρ1 p rs', setT tg d (wipeN ρ (slotsT tg)) = .ok ρ1 ∧ g ρ1 = .ok p ∧ lcX tg ρ0 g ds p.2 = .ok (rs', ρe) ∧ rs = p.1 :: rs' := by
  unfold lcX at h
  cases e1 : setT tg d (wipeN ρ (slotsT tg)) with
  | exc k => rw [e1] at h; cases h
  | bad => rw [e1] at h; cases h
  | ok ρ1 =>
    rw [e1] at h
    replace h : ((noE (g ρ1)).bind fun p => (lcX tg ρ0 g ds p.2).bind fun q => R.ok (p.1 :: q.1, q.2)) = .ok (rs, ρe) := h
    cases e2 : g ρ1 with
    | exc k => rw [e2] at h; cases h
    | bad => rw [e2] at h; cases h
    | ok p =>
      rw [e2] at h
      replace h : ((lcX tg ρ0 g ds p.2).bind fun q => R.ok (p.1 :: q.1, q.2)) = .ok (rs, ρe) := h
      cases e3 : lcX tg ρ0 g ds p.2 with
      | exc k => rw [e3] at h; cases h
      | bad => rw [e3] at h; cases h
      | ok q =>
        rw [e3] at h
        have h' := R.ok.inj h
        obtain ⟨q1, q2⟩ := q
        cases h'
        exact ⟨ρ1, p, q1, rfl, e2, e3, rfl⟩
theorem lcX_exc {tg : Tg} {ρ0 : En} {g : En → R (D × En)} : ∀ {ds : List D} {ρ : En} {k : String}, lcX tg ρ0 g ds ρ ≠ .exc k
  | [], _, _, h => by cases h
  | d :: ds, ρ, k, h => by
    unfold lcX at h
    cases e1 : setT tg d (wipeN ρ (slotsT tg)) with
    | exc k => exact setT_exc e1
    | bad => rw [e1] at h; cases h
    | ok ρ1 =>
      rw [e1] at h
      replace h : ((noE (g ρ1)).bind fun p => (lcX tg ρ0 g ds p.2).bind fun q => R.ok (p.1 :: q.1, q.2)) = .exc k := h
      cases e2 : g ρ1 with
      | exc k => rw [e2] at h; cases h
      | bad => rw [e2] at h; cases h
      | ok p =>
        rw [e2] at h
        replace h : ((lcX tg ρ0 g ds p.2).bind fun q => R.ok (p.1 :: q.1, q.2)) = .exc k := h
        cases e3 : lcX tg ρ0 g ds p.2 with
        | exc k => exact lcX_exc e3
        | bad => rw [e3] at h; cases h
        | ok q => rw [e3] at h; cases h
def tEF (K : PySem.W.Frag) (mg : Str → Option Value) (x : Fx) : TE := fun σ H Q => ∃ (H0 : Hp) (Gp : GQ), tFX ⟨K, mg, H0, Gp⟩ no x σ H Q
theorem lcF_all {elt it : Fx} {tg : Tg} (he : SndF elt) (hi : ∀ xs, it = .rng xs → ∀ x ∈ xs, SndF x) {X : Cx} {H0 : Hp} {Gp : GQ} {W : WX} {tb : Fn → Prop} {tgl : String → D → Prop} {a t i : Expr} {scope : Scope} {p : Pos}
    (G : Good tb tgl X false) (tk : TakesF X W) (hc : calF tb tgl elt ∧ calF tb tgl it) (h1 : blkC X.N X.env.scope scope (ownT tg t) = true) (h2 : ckG X.N false (relS scope X.env.scope) tg t = true) (h3 : ckF X.N elt (relS scope X.env.scope) a = true)
    (h6 : (ownT tg t).map (·.2) = slotsT tg) (h7 : ckFI X.N it X.env.scope i (isTup t) = true) (h8 : ∀ es k q, i ≠ .Set es k q) :
    PI X t i (tFI (cn X H0 Gp) W it) ∧ BlkOk X.N X.env.scope scope (ownT tg t) ∧ (∀ (s : Shared) (H : Hp) (C : Addr) (cl : List (Str × Addr)) (fp : List Addr), PG (X.blk s H scope (compEnvC scope cl C X.env) fp) t (gOf X.K tg)) ∧
    (∀ (s : Shared) (H : Hp) (C : Addr) (cl : List (Str × Addr)) (fp : List Addr), PTs (X.blk s H scope (compEnvC scope cl C X.env) fp) [] tYes) ∧
    (∀ (s : Shared) (H : Hp) (C : Addr) (cl : List (Str × Addr)) (fp : List Addr), PE (X.blk s H scope (compEnvC scope cl C X.env) fp) a (tEF X.K X.mg elt)) ∧ (∀ x, foldedSetIterable i X.env x = pure x) ∧
    ∀ σ H Q, tFX (cn X H0 Gp) W (.lc elt tg it) σ H Q → tLc (tFI (cn X H0 Gp) W it) (gOf X.K tg) tYes (tEF X.K X.mg elt) ((ownT tg t).map (·.2)) σ H Q := by
  have pi := piF_of (H0 := H0) (Gp := Gp) hi G tk hc.2 h7
  refine ⟨pi, blkOk_by h1, fun s H C cl fp => pg_of (X := X.blk s H scope (compEnvC scope cl C X.env) fp) (cel := false) G.nd (G.calm rfl) (fun z => by cases z) h2, fun s H C cl fp => pts_nil, fun s H C cl fp => ⟨fun pins s' σ H' Q I q => by
      obtain ⟨H1, G1, q⟩ := q
      exact (he.pe (X := X.blk s H scope (compEnvC scope cl C X.env) fp) (H0 := H1) (Gp := G1) (W := no) (G.blk s H scope _ fp) takesF0 hc.1 h3).run pins s' σ H' Q I q⟩,
    fun x => by (cases i <;> first | rfl | exact absurd rfl (h8 _ _ _)), fun σ H Q q => ?_⟩
  obtain ⟨ρ, er, q⟩ := q
  rw [h6]
  refine ⟨ρ, er, ?_⟩
  unfold evx at q
  unfold itx
  cases e1 : evx ρ it with
  | exc k => rw [e1] at q; exact q
  | bad => rw [e1] at q; exact q
  | ok pr =>
  obtain ⟨d0, ρ0⟩ := pr
  rw [e1] at q
  replace q : ((itemsOf d0).bind fun ds => if !(slotsT tg).all (notOwn ρ0) then R.bad else (lcX tg ρ0 (fun ρ => evx ρ elt) ds ρ0).bind fun q => if q.1.length ≤ 16777216 then R.ok (.lst q.1, bk ρ0 q.2 (slotsT tg)) else .bad).all (fun p => ∀ v H', PoX (cn X H0 Gp) σ ρ (.lc elt tg it) H H' p v → Q v H') (EX (cn X H0 Gp) W σ ρ H) := q
  show ((itemsOf d0).bind fun ds => R.ok (ds, ρ0)).all _ _
  cases e0 : itemsOf d0 with
  | exc k => rw [e0] at q; exact q
  | bad => rw [e0] at q; exact q
  | ok ds =>
  rw [e0] at q
  intro J H1 t1 wk D hD
  by_cases hn : (slotsT tg).all (notOwn ρ0) = true
  case neg =>
    have q' : (if (!(slotsT tg).all (notOwn ρ0)) = true then R.bad else _).all _ _ := q
    rw [if_pos (by simp only [Bool.not_eq_true] at hn; rw [hn]; rfl)] at q'
    exact q'.elim
  have q' : (if (!(slotsT tg).all (notOwn ρ0)) = true then R.bad else _).all _ _ := q
  rw [if_neg (by rw [hn]; decide)] at q'
  clear q
  generalize hg : (fun ρ => evx ρ elt) = g at q'
  cases e2 : lcX tg ρ0 g ds ρ0 with
  | exc k => exact absurd e2 lcX_exc
  | bad => rw [e2] at q'; exact q'.elim
  | ok pe =>
  obtain ⟨ys, ρe⟩ := pe
  rw [e2] at q'
  have q2 : (if ys.length ≤ 16777216 then (R.ok (OL.D.lst ys, bk ρ0 ρe (slotsT tg)) : R (OL.D × En)) else .bad).all (fun p => ∀ v H', PoX (cn X H0 Gp) σ ρ (.lc elt tg it) H H' p v → Q v H') (EX (cn X H0 Gp) W σ ρ H) := q'
  split at q2
  case isFalse => exact q2.elim
  rename_i hlen
  have er1 : ER (cn X H0 Gp) H1 σ ρ0 := t1.er
  have h0D : H0 D = none := er1.dm D hD
  have zD : Zf (cn X H0 Gp) σ ρ0 D := er1.newZ hD
  have stays : ∀ b o, H1 b = some o → b ≠ D := fun b o e => ne_of_none e hD
  have erw := er1.wipe hn
  generalize hvs : slotsT tg = vs at hn erw q2
  refine ⟨fun i m Hc => m = ds.length - i ∧ i ≤ ds.length ∧ ∃ dn rs acc ρi, lcX tg ρ0 g (ds.drop i) ρi = .ok (rs, ρe) ∧ ys = dn ++ rs ∧ Hc D = some (.lst acc) ∧ RpA X.K X.mg Hc (Zf (aw (cn X H0 Gp) D) (wipe σ vs) (wipeN ρi vs)) dn acc ∧ ER (aw (cn X H0 Gp) D) Hc (wipe σ vs) (wipeN ρi vs) ∧
      vs.all (notOwn ρi) = true ∧ Stb (cn X H0 Gp) σ ρ0 H1 (wipe σ vs) (wipeN ρi vs) Hc ∧ xen (wipeN ρi vs) = xen (wipeN ρ0 vs) ∧ ∀ a, Hc a = none → H1 a = none,
    ⟨ds.length, by simp, Nat.zero_le _, [], ys, [], ρ0, by simpa using e2, rfl, upd_same, .nil, erw.wG (same_upd hD) (.aw erw (fun q e => (same_upd hD).free e) hD upd_same), hn, fun a o e n _ => ⟨same_upd hD _ _ e, fun w => n ((own_wipe hn a).mp w)⟩, rfl, fun a e => (same_upd hD).free e⟩, ?_⟩
  rintro i m Hc ⟨rfl, hile, dn, rs, acc, ρi, er2, hys, hacc, ra, erc, hni, stc, xec, domc⟩
  by_cases hlt : i < ds.length
  · have hst : Stay H1 (Zf (cn X H0 Gp) σ ρ0) Hc := stc.stay er1
    refine .inr ⟨wk.go Hc i hst hlt, fun H' => (i + 1) ≤ ds.length ∧ ∃ dn rs acc ρi, lcX tg ρ0 g (ds.drop (i + 1)) ρi = .ok (rs, ρe) ∧ ys = dn ++ rs ∧ H' D = some (.lst acc) ∧ RpA X.K X.mg H' (Zf (aw (cn X H0 Gp) D) (wipe σ vs) (wipeN ρi vs)) dn acc ∧ ER (aw (cn X H0 Gp) D) H' (wipe σ vs) (wipeN ρi vs) ∧
      vs.all (notOwn ρi) = true ∧ Stb (cn X H0 Gp) σ ρ0 H1 (wipe σ vs) (wipeN ρi vs) H' ∧ xen (wipeN ρi vs) = xen (wipeN ρ0 vs) ∧ ∀ a, H' a = none → H1 a = none,
      fun H' nx => ⟨ds.length - (i + 1), by omega, rfl, nx⟩, fun x H2 y => ?_⟩
    have hdi : ds[i]? = some ds[i] := List.getElem?_eq_getElem hlt
    obtain ⟨s2, rx⟩ := wk.yld Hc i x H2 hst y _ hdi
    have hdrop : ds.drop i = ds[i] :: ds.drop (i + 1) := List.drop_eq_getElem_cons hlt
    rw [hdrop] at er2
    obtain ⟨ρ2, pr, rs', hset, hgp, hrest, hrs⟩ := lcX_cons er2
    rw [hvs] at hset
    have er3 := erc.same s2
    have D2 : H2 D = some (.lst acc) := s2 _ _ hacc
    have rx' : Rp X.K X.mg H2 (Zf (aw (cn X H0 Gp) D) (wipe σ vs) (wipeN ρi vs)) ds[i] x := rx.weak fun b o e z => by
      rcases z with ⟨z, o', e'⟩ | z
      · exact ⟨⟨z.1, stays b o' e'⟩, (stc b o' e' z.2 fun w => (er1.qg b w).1 z.1).2⟩
      · exact erc.newZ z
    refine gOf_ok (c := aw (cn X H0 Gp) D) er3 rx' hset fun σ2 er4 ow sl ln => ⟨?_, ?_⟩
    · have w := wipe_same (σ := wipe σ vs) (σ' := σ2) (vs := vs) ln fun j hj => (sl j (by rw [hvs]; exact hj)).1
      first | exact w.trans (wipe_wipe σ vs) | (rw [hvs]; exact w.trans (wipe_wipe σ vs))
    · unfold tYes
      dsimp only
      rw [if_pos rfl]
      refine ⟨H0, (aw (cn X H0 Gp) D).G, ρ2, er4, ?_⟩
      have ge : evx ρ2 elt = .ok pr := by rw [← hgp, ← hg]
      rw [ge]
      intro v H4 po
      have wσ : wipe σ2 vs = wipe σ vs := by
        exact (wipe_same (σ := wipe σ vs) (σ' := σ2) (vs := vs) ln fun j hj => (sl j (by rw [hvs]; exact hj)).1).trans (wipe_wipe σ vs)
      have hv2 : ∀ j, j ∈ vs → ∃ e, ρ2[j]? = some (.v e) := fun j hj => (setT_v hset).1 j (by rw [hvs]; exact hj)
      have hn2 : vs.all (notOwn pr.2) = true := List.all_eq_true.mpr fun j hj => let ⟨e, he⟩ := hv2 j hj; notOwn_v' (xen_v po.xe he)
      have ern : ER (aw (cn X H0 Gp) D) H4 (wipe σ vs) (wipeN pr.2 vs) := by
        have := po.er.wipe hn2
        rw [wσ] at this
        exact this
      have owi : ∀ b, own (wipe σ vs) (wipeN pr.2 vs) b ↔ own σ2 pr.2 b := fun b => by
        have := own_wipe (σ := σ2) hn2 b
        rw [wσ] at this
        exact this
      -- from the turn's begin to its end
      have stt : Stb (aw (cn X H0 Gp) D) (wipe σ vs) (wipeN ρi vs) Hc (wipe σ vs) (wipeN pr.2 vs) H4 := fun b o e n1 n2 => by
        obtain ⟨z1, z2⟩ := po.st b o (s2 _ _ e) (fun w => n1 (ow b w)) n2
        exact ⟨z1, fun w => z2 ((owi b).mp w)⟩
      have D4 : H4 D = some (.lst acc) := by
        refine (stt D _ hacc (fun ⟨j, es, f1, f2⟩ => ?_) fun w => ?_).1
        · obtain ⟨b, zs, g1, _, g3, _⟩ := erc.lst j es f1
          rw [f2] at g1; cases g1
          exact g3.2.2 rfl
        · obtain ⟨_, ⟨o, g2⟩, _⟩ := erc.qg D w
          have g2' : H0 D = some o := g2
          rw [h0D] at g2'; cases g2'
      have hl : acc.length < 16777216 := by
        have := ra.length
        rw [hys, hrs] at hlen
        rw [List.length_append, List.length_cons] at hlen
        omega
      have sty : Stay H4 (Zf (aw (cn X H0 Gp) D) (wipe σ vs) (wipeN pr.2 vs)) (upd H4 D (.lst (acc ++ [v]))) := fun b o e z => by
        by_cases hb : b = D
        · subst hb
          rw [D4] at e; cases e
          exact absurd rfl (z rfl).1.2
        · rw [upd_ne hb]; exact e
      have xe2 : xen (wipeN pr.2 vs) = xen (wipeN ρ0 vs) := by
        rw [← xec]
        refine List.ext_getElem? fun j => ?_
        by_cases hj : j ∈ vs
        · have l1 : (wipeN pr.2 vs).length = (wipeN ρi vs).length := ern.len.symm.trans erc.len
          have at_n : ∀ {τ : En}, j < (wipeN τ vs).length → (xen (wipeN τ vs))[j]? = some .n := fun {τ} hb => by
            unfold xen
            rw [List.getElem?_map]
            cases e : (wipeN τ vs)[j]? with
            | none => rw [List.getElem?_eq_none_iff] at e; omega
            | some s =>
              rcases wipe_at e with ⟨_, z⟩ | ⟨z, _⟩
              · rw [z]; rfl
              · exact absurd hj z
          by_cases hb : j < (wipeN pr.2 vs).length
          · rw [at_n hb, at_n (by rw [← l1]; exact hb)]
          · have len1 : ∀ τ : En, (xen τ).length = τ.length := fun τ => by unfold xen; rw [List.length_map]
            rw [List.getElem?_eq_none (by rw [len1]; omega), List.getElem?_eq_none (by rw [len1]; omega)]
        · have out : ∀ {τ : En}, (xen (wipeN τ vs))[j]? = (xen τ)[j]? := fun {τ} => by
            unfold xen
            rw [List.getElem?_map, List.getElem?_map, wipeN_out hj]
          rw [out, po.xe]
          unfold xen
          rw [List.getElem?_map, List.getElem?_map, (sl j (by rw [hvs]; exact hj)).2]
      refine ⟨acc, D4, by rw [line_eq]; exact hl, hlt, dn ++ [pr.1], rs', _, pr.2, hrest, by rw [hys, hrs, List.append_assoc]; rfl, upd_same, ?_, ern.updD h0D D4, hn2, fun b o e n1 n2 => ?_, xe2, fun b e => ?_⟩
      · refine RpA.append ((ra.stb erc stt).mono sty fun _ _ _ z => z) (.cons ((po.rp.weak fun b _ _ z => ⟨z.1, fun w => z.2 ((owi b).mp w)⟩).mono sty fun _ _ _ z => z) .nil)
      · obtain ⟨z1, z2⟩ := stc b o e n1 n2
        obtain ⟨z3, z4⟩ := stt b o z1 z2 n2
        exact ⟨by rw [upd_ne (stays b o e)]; exact z3, z4⟩
      · by_cases hb : b = D
        · subst hb; rw [upd_same] at e; cases e
        · rw [upd_ne hb] at e
          exact domc b (s2.free (po.dom b e))
  · have e : i = ds.length := by omega
    subst e
    refine .inl ⟨wk.stop Hc _ (stc.stay er1) (Nat.le_refl _), ?_⟩
    rw [List.drop_length] at er2
    have er2' : (R.ok ([], ρi) : R (List OL.D × En)) = .ok (rs, ρe) := er2
    obtain ⟨e8, e9⟩ := Prod.mk.inj (R.ok.inj er2')
    subst e9 e8
    rw [List.append_nil] at hys
    subst hys
    have hv : ∀ d v, Rp X.K X.mg H1 (Zf (cn X H0 Gp) σ ρ0) d v → Rp X.K X.mg Hc (Zf (aw (cn X H0 Gp) D) (wipe σ vs) (wipeN ρi vs)) d v := fun d v r => r.mono (stc.stay er1) fun b o e z => ⟨⟨z.1, stays b o e⟩, (stc b o e z.2 fun w => (er1.qg b w).1 z.1).2⟩
    have erE : ER (aw (cn X H0 Gp) D) Hc σ (bk ρ0 ρi vs) := er1.unwipe erc hn hv
    have nwF : ∀ q, Hc q = none → (cn X H0 Gp).Gp q := fun q e => er1.nw q (domc q e)
    have erF : ER (cn X H0 Gp) Hc σ (bk ρ0 ρi vs) := erE.unaw nwF h0D
    have stF : Stb (cn X H0 Gp) σ ρ0 H1 σ (bk ρ0 ρi vs) Hc := fun b o e n1 n2 => let ⟨z1, z2⟩ := stc b o e n1 n2; ⟨z1, fun w => z2 ((own_bk hn b).mp w)⟩
    have xeF : xen (bk ρ0 ρi vs) = xen ρ0 := by
      refine List.ext_getElem? fun j => ?_
      have l1 : ρi.length = ρ0.length := by
        have a := erE.len
        rw [bk_length] at a
        exact a.symm.trans er1.len
      by_cases hj : j ∈ vs
      · unfold xen
        rw [List.getElem?_map, List.getElem?_map]
        cases e : (bk ρ0 ρi vs)[j]? with
        | none =>
          rw [List.getElem?_eq_none_iff, bk_length] at e
          rw [List.getElem?_eq_none (by omega)]
        | some s =>
          rcases bk_at e with ⟨_, z⟩ | ⟨z, _⟩
          · have hb : j < ρ0.length := by
              have := (List.getElem?_eq_some_iff.mp e).1
              rw [bk_length] at this
              omega
            rw [List.getElem?_eq_getElem hb] at z ⊢
            rw [z]; rfl
          · exact absurd hj z
      · have := congrArg (fun z : En => z[j]?) xec
        have out : ∀ {τ : En}, (xen (wipeN τ vs))[j]? = (xen τ)[j]? := fun {τ} => by
          unfold xen
          rw [List.getElem?_map, List.getElem?_map, wipeN_out hj]
        have this' : (xen (wipeN ρi vs))[j]? = (xen (wipeN ρ0 vs))[j]? := this
        rw [out, out] at this'
        rw [← this']
        unfold xen
        rw [List.getElem?_map, List.getElem?_map, bk_out hj]
    have tF : PoT (cn X H0 Gp) σ ρ (bk ρ0 ρi vs) H Hc := t1.trans ⟨erF, stF, domc, xeF⟩
    have ra2 : RpA X.K X.mg Hc (fun b => Zf (cn X H0 Gp) σ (bk ρ0 ρi vs) b ∧ b ≠ D) ys acc := ra.weak fun b _ _ z => ⟨⟨z.1.1, fun w => z.2 ((own_bk hn b).mp w)⟩, z.1.2⟩
    have zD2 : Zf (cn X H0 Gp) σ (bk ρ0 ρi vs) D := ⟨zD.1, fun w => by
      obtain ⟨j, es, f1, f2⟩ := w
      obtain ⟨b, zs, g1, _, g3, _⟩ := erE.lst j es f1
      rw [f2] at g1; cases g1
      exact g3.2.2 rfl⟩
    refine q2 _ _ ⟨tF.er, tF.st, tF.dom, tF.xe, .lst hacc zD2 (ra2.weak fun _ _ _ z => z.1), fun _ es z => ?_⟩
    cases z
    exact ⟨D, acc, rfl, t1.dom D hD, hacc, erE, ra2⟩
theorem ckF_lc {elt it : Fx} {tg : Tg} {N : List Str} {sc : Scope} {e : Expr} (h : ckF N (.lc elt tg it) sc e = true) : ∃ a t i scope p, e = .ListComp a [⟨t, i, [], 0⟩] scope p ∧ blkC N sc scope (ownT tg t) = true ∧ ckG N false (relS scope sc) tg t = true ∧ ckF N elt (relS scope sc) a = true ∧ (ownT tg t).map (·.2) = slotsT tg ∧ ckFI N it sc i (isTup t) = true ∧ (∀ es k q, i ≠ .Set es k q) := by
  unfold ckF at h
  split at h <;> (try (cases h; done)) <;> (rename_i heq; cases heq)
  simp only [Bool.and_eq_true, decide_eq_true_eq, Bool.not_eq_true', List.isEmpty_iff] at h
  obtain ⟨⟨⟨⟨⟨⟨⟨rfl, rfl⟩, h1⟩, h2⟩, h3⟩, h4⟩, h5⟩, h6⟩ := h
  refine ⟨_, _, _, _, _, rfl, h1, h2, h3, h4, ?_, fun es k q z => ?_⟩
  · cases it <;> exact h5
  · rw [z] at h6; cases h6
theorem sndF_lc {elt it : Fx} {tg : Tg} (he : SndF elt) (hi : ∀ xs, it = .rng xs → ∀ x ∈ xs, SndF x) : SndF (.lc elt tg it) := by
  have pe : ∀ {X : Cx} {H0 : Hp} {Gp : GQ} {W : WX} {tb : Fn → Prop} {tgl : String → D → Prop} {e : Expr}, Good tb tgl X false → TakesF X W → calF tb tgl (.lc elt tg it) → ckF X.N (.lc elt tg it) X.env.scope e = true → PE X e (tFX (cn X H0 Gp) W (.lc elt tg it)) := by
    intro X H0 Gp W tb tgl e G tk hc h
    obtain ⟨a, t, i, scope, p, rfl, h1, h2, h3, h6, h7, h8⟩ := ckF_lc h
    unfold calF at hc
    obtain ⟨pi, bk, pg, pt, pl, fs, imp⟩ := lcF_all (H0 := H0) (Gp := Gp) (p := p) he hi G tk hc h1 h2 h3 h6 h7 h8
    exact pe_imp (pe_lc (G.calm rfl) G.nd pi bk pg pt pl fs) imp
  refine ⟨pe, fun {X H0 Gp W tb tg e} G tk hc h => ?_⟩
  obtain ⟨a, t, i, scope, p, rfl, _⟩ := ckF_lc h
  exact ptF_gen (pe G tk hc h) fun _ => rfl
theorem sndF_no {x : Fx} (h : ∀ N sc e, ckF N x sc e = false) : SndF x := ⟨fun _ _ _ z => by (rw [h] at z; cases z), fun _ _ _ z => by (rw [h] at z; cases z)⟩
mutual
theorem sndF : ∀ x : Fx, SndF x
  | .p x => sndF_p x
  | .io f i xs => sndF_io (sndFL xs)
  | .iot f x xs => sndF_iot f x xs
  | .call f xs => sndF_call (sndFL xs)
  | .tup xs => sndF_tup (sndFL xs)
  | .lst xs => sndF_lst (sndFL xs)
  | .bin op x y => sndF_bin (sndF x) (sndF y)
  | .cmp op x y => sndF_cmp (sndF x) (sndF y)
  | .neg x => sndF_neg (sndF x)
  | .not x => sndF_not (sndF x)
  | .and xs => sndF_and (sndFL xs)
  | .or xs => sndF_or (sndFL xs)
  | .ix x i => sndF_ix (sndF x) (sndF i)
  | .blt b xs => sndF_blt (sndFL xs)
  | .lc elt tg it => sndF_lc (sndF elt) (sndFR it)
  | .sl x lo hi => sndF_sl (sndF x) (sndF lo) (sndF hi)
  | .rng xs => sndF_no fun N sc e => by cases e <;> (unfold ckF; rfl)
theorem sndFL : ∀ xs : List Fx, ∀ x ∈ xs, SndF x
  | [], _, h => by cases h
  | x :: xs, y, h => by
    rcases List.mem_cons.mp h with e | e
    · rw [e]; exact sndF x
    · exact sndFL xs y e
theorem sndFR : ∀ it : Fx, ∀ xs, it = .rng xs → ∀ x ∈ xs, SndF x
  | .rng xs, ys, e => by cases e; exact sndFL xs
  | .p _, _, e => by cases e
  | .io .., _, e => by cases e
  | .iot .., _, e => by cases e
  | .call .., _, e => by cases e
  | .tup _, _, e => by cases e
  | .lst _, _, e => by cases e
  | .bin .., _, e => by cases e
  | .cmp .., _, e => by cases e
  | .neg _, _, e => by cases e
  | .not _, _, e => by cases e
  | .and _, _, e => by cases e
  | .or _, _, e => by cases e
  | .ix .., _, e => by cases e
  | .blt .., _, e => by cases e
  | .lc .., _, e => by cases e
  | .sl .., _, e => by cases e
end
end OL
namespace OL
open PySem PySem.Spec PyProof.Rows L2
def isBor : Ex → Bool
  | .bor _ => true
  | _ => false
def isLoc (sc : Scope) (x : Str) : Bool := match sc.names.lookup x with
  | some .local => true
  | _ => false
def locB (sc : Scope) (x : Str) : Bool := match sc.names.lookup x with
  | some .local => true
  | some .cell => true
  | _ => false
/-- a comprehension that is stored at a name: how -/
def lcSt (sc : Scope) (y : Str) (py : Pos) : Expr → Bool
  | .ListComp _ _ scope vp => match sc.names.lookup y with
    | some .local => (py.line == vp.line) && !(scope.names.any fun (n, k) => n == y && (k == .local || k == .cell))
    | some .cell => true
    | _ => false
  | e => noComp e
def noSet : Expr → Bool
  | .Set .. => false
  | _ => true
/-! shapes of statements -/
def asAsg : Stmt → Option (Str × Pos × Expr)
  | .Assign [.Name y py] v _ => some (y, py, v)
  | _ => none
theorem asAsg_eq {s : Stmt} {y : Str} {py : Pos} {v : Expr} (h : asAsg s = some (y, py, v)) : ∃ p, s = .Assign [.Name y py] v p := by
  unfold asAsg at h; split at h <;> cases h; exact ⟨_, rfl⟩
def asUnp : Stmt → Option (List Expr × Expr)
  | .Assign [.Tuple es _ _] v _ => some (es, v)
  | _ => none
theorem asUnp_eq {s : Stmt} {es : List Expr} {v : Expr} (h : asUnp s = some (es, v)) : ∃ k q p, s = .Assign [.Tuple es k q] v p := by
  unfold asUnp at h; split at h <;> cases h; exact ⟨_, _, _, rfl⟩
def asPar : Stmt → Option ((Str × Pos) × (Str × Pos) × Expr × Expr)
  | .Assign [.Tuple [.Name a pa, .Name b pb] _ _] (.Tuple [e, f] _ _) _ => some ((a, pa), (b, pb), e, f)
  | _ => none
theorem asPar_eq {s : Stmt} {a b : Str} {pa pb : Pos} {e f : Expr} (h : asPar s = some ((a, pa), (b, pb), e, f)) : ∃ k q k2 q2 p, s = .Assign [.Tuple [.Name a pa, .Name b pb] k q] (.Tuple [e, f] k2 q2) p := by
  unfold asPar at h; split at h <;> cases h; exact ⟨_, _, _, _, _, rfl⟩
def asAug : Stmt → Option (Str × Operator × Expr)
  | .AugAssign (.Name a _) o v _ => some (a, o, v)
  | _ => none
theorem asAug_eq {s : Stmt} {a : Str} {o : Operator} {v : Expr} (h : asAug s = some (a, o, v)) : ∃ q p, s = .AugAssign (.Name a q) o v p := by
  unfold asAug at h; split at h <;> cases h; exact ⟨_, _, rfl⟩
def asRet : Stmt → Option (Option Expr)
  | .Return v _ => some v
  | _ => none
theorem asRet_eq {s : Stmt} {v : Option Expr} (h : asRet s = some v) : ∃ p, s = .Return v p := by
  unfold asRet at h; split at h <;> cases h; exact ⟨_, rfl⟩
def asExp : Stmt → Option Expr
  | .Expr v _ => some v
  | _ => none
theorem asExp_eq {s : Stmt} {v : Expr} (h : asExp s = some v) : ∃ p, s = .Expr v p := by
  unfold asExp at h; split at h <;> cases h; exact ⟨_, rfl⟩
def asMeth : Stmt → Option (Str × Str × Pos × List Expr × Pos)
  | .Expr (.Call (.Attribute (.Name y _) a ap) es [] cp) _ => some (y, a, ap, es, cp)
  | _ => none
theorem asMeth_eq {s : Stmt} {y a : Str} {ap cp : Pos} {es : List Expr} (h : asMeth s = some (y, a, ap, es, cp)) : ∃ q p, s = .Expr (.Call (.Attribute (.Name y q) a ap) es [] cp) p := by
  unfold asMeth at h; split at h <;> cases h; exact ⟨_, _, rfl⟩
def asSti : Stmt → Option (Str × Expr × Expr)
  | .Assign [.Subscript (.Name y _) ix _] v _ => some (y, ix, v)
  | _ => none
theorem asSti_eq {s : Stmt} {y : Str} {ix v : Expr} (h : asSti s = some (y, ix, v)) : ∃ q q2 p, s = .Assign [.Subscript (.Name y q) ix q2] v p := by
  unfold asSti at h; split at h <;> cases h; exact ⟨_, _, _, rfl⟩
def asIf : Stmt → Option (Expr × List Stmt × List Stmt)
  | .If e p q _ => some (e, p, q)
  | _ => none
theorem asIf_eq {s : Stmt} {e : Expr} {p q : List Stmt} (h : asIf s = some (e, p, q)) : ∃ pos, s = .If e p q pos := by
  unfold asIf at h; split at h <;> cases h; exact ⟨_, rfl⟩
def asWhl : Stmt → Option (Expr × List Stmt)
  | .While e p [] _ => some (e, p)
  | _ => none
theorem asWhl_eq {s : Stmt} {e : Expr} {p : List Stmt} (h : asWhl s = some (e, p)) : ∃ pos, s = .While e p [] pos := by
  unfold asWhl at h; split at h <;> cases h; exact ⟨_, rfl⟩
def asFor : Stmt → Option (Expr × Expr × List Stmt)
  | .For t i p [] _ => some (t, i, p)
  | _ => none
theorem asFor_eq {s : Stmt} {t i : Expr} {p : List Stmt} (h : asFor s = some (t, i, p)) : ∃ pos, s = .For t i p [] pos := by
  unfold asFor at h; split at h <;> cases h; exact ⟨_, rfl⟩
def asRai : Stmt → Option Str
  | .Raise (some (.Call (.Name x _) [] [] _)) none _ => some x
  | _ => none
theorem asRai_eq {s : Stmt} {x : Str} (h : asRai s = some x) : ∃ p q r, s = .Raise (some (.Call (.Name x p) [] [] q)) none r := by
  unfold asRai at h; split at h <;> cases h; exact ⟨_, _, _, rfl⟩
def asTry : Stmt → Option (List Stmt × Str × List Stmt)
  | .Try p [.ExceptHandler (some (.Name x _)) none q _] [] [] _ => some (p, x, q)
  | _ => none
theorem asTry_eq {s : Stmt} {p q : List Stmt} {x : Str} (h : asTry s = some (p, x, q)) : ∃ a b c, s = .Try p [.ExceptHandler (some (.Name x a)) none q b] [] [] c := by
  unfold asTry at h; split at h <;> cases h; exact ⟨_, _, _, rfl⟩
def asTryAs : Stmt → Option (List Stmt × Str × Str × List Stmt)
  | .Try p [.ExceptHandler (some (.Name x _)) (some n) q _] [] [] _ => some (p, x, n, q)
  | _ => none
theorem asTryAs_eq {s : Stmt} {p q : List Stmt} {x n : Str} (h : asTryAs s = some (p, x, n, q)) : ∃ a b c, s = .Try p [.ExceptHandler (some (.Name x a)) (some n) q b] [] [] c := by
  unfold asTryAs at h; split at h <;> cases h; exact ⟨_, _, _, rfl⟩
def asPar3 : Stmt → Option ((Str × Pos) × (Str × Pos) × (Str × Pos) × Expr × Expr × Expr)
  | .Assign [.Tuple [.Name a pa, .Name b pb, .Name c pc] _ _] (.Tuple [e, f, g] _ _) _ => some ((a, pa), (b, pb), (c, pc), e, f, g)
  | _ => none
theorem asPar3_eq {s : Stmt} {a b c : Str} {pa pb pc : Pos} {e f g : Expr} (h : asPar3 s = some ((a, pa), (b, pb), (c, pc), e, f, g)) : ∃ k q k2 q2 p, s = .Assign [.Tuple [.Name a pa, .Name b pb, .Name c pc] k q] (.Tuple [e, f, g] k2 q2) p := by
  unfold asPar3 at h; split at h <;> cases h; exact ⟨_, _, _, _, _, rfl⟩
def asBrk : Stmt → Bool
  | .Break _ => true
  | _ => false
def asCnt : Stmt → Bool
  | .Continue _ => true
  | _ => false
def asPas : Stmt → Bool
  | .Pass _ => true
  | _ => false
/-- statements of an except suite -/
def ckH (N : List Str) (sc : Scope) (fr : Bool) : List St → List Stmt → Bool
  | [], es => es.isEmpty
  | .ret x :: ss, e :: es => (match asRet e with
    | some (some v) => ck N x sc v && hotOk x && (!fr || isBor x || frx x)
    | _ => false) && ckH N sc fr ss es
  | .retN :: ss, e :: es => (match asRet e with
    | some none => true
    | _ => false) && ckH N sc fr ss es
  | .pas :: ss, e :: es => asPas e && ckH N sc fr ss es
  | .asg i own x :: ss, e :: es => (match asAsg e with
    | some (y, py, v) => !own && decide (N[i]? = some y) && locB sc y && ck N x sc v && nb x && hotOk x && noComp v
    | none => false) && ckH N sc fr ss es
  | _, _ => false
def isPF : Fx → Bool
  | .p _ => true
  | _ => false
/-- a list of one's own, by its slot -/
def borF : Fx → Option Nat
  | .p (.bor j) => some j
  | _ => none
mutual
def ckS (N : List Str) (sc : Scope) (fr : Bool) : St → Stmt → Bool
  | .asg i own x, s => match asAsg s with
    | some (y, py, v) => decide (N[i]? = some y) && locB sc y && ck N x sc v && nb x && (!own || frx x) && lcSt sc y py v
    | none => false
  | .unp ts x, s => match asUnp s with
    | some (es, v) => ckGs N true sc ts es && ck N x sc v && nb x && noSwap v
    | none => false
  | .par i j x y, s => match asPar s with
    | some ((a, pa), (b, pb), e, f) => decide (N[i]? = some a) && decide (N[j]? = some b) && decide (i ≠ j) && isLoc sc a && isLoc sc b && (pb.line == pa.line) && !(a == b) && noStar e && noStar f &&
      !([e, f].all (foldedForSure 8)) && !([e, f].all (constantsAlone 8)) && ck N x sc e && ck N y sc f && nb x && nb y
    | none => false
  | .aug i op x, s => match asAug s with
    | some (a, o, v) => (match op with | .add => decide (o = .Add) | .sub => decide (o = .Sub) | _ => false) && decide (N[i]? = some a) && locB sc a && ck N x sc v
    | none => false
  | .ret x, s => match asRet s with
    | some (some v) => ck N x sc v && (!fr || isBor x || frx x)
    | _ => false
  | .retN, s => match asRet s with
    | some none => true
    | _ => false
  | .exp x, s => match asExp s with
    | some v => ck N x sc v && noComp v
    | none => false
  | .app i x, s => match asMeth s with
    | some (y, a, ap, [v], cp) => decide (N[i]? = some y) && visB sc y && dbg y && a == ("append" : Str) && (ap.endLine == cp.line) && noStar v && ck N x sc v && nb x
    | _ => false
  | .rev i, s => match asMeth s with
    | some (y, a, ap, [], cp) => decide (N[i]? = some y) && visB sc y && dbg y && a == ("reverse" : Str) && (ap.endLine == cp.line)
    | _ => false
  | .clr i, s => match asMeth s with
    | some (y, a, ap, [], cp) => decide (N[i]? = some y) && visB sc y && dbg y && a == ("clear" : Str) && (ap.endLine == cp.line)
    | _ => false
  | .sti i k x, s => match asSti s with
    | some (y, ix, v) => decide (N[i]? = some y) && visB sc y && dbg y && ck N k sc ix && ck N x sc v && nb x && noComp v && noSlice ix
    | none => false
  | .sls i lo hi x, s => match asSti s with
    | some (y, .Slice (some l) (some u) none _, v) => decide (N[i]? = some y) && visB sc y && dbg y && ck N lo sc l && ck N hi sc u && ck N x sc v && nb x && frx x && noComp v && !isNop lo && !isNop hi
    | _ => false
  | .ife t a b, s => match asIf s with
    | some (e, p, q) => ck N t sc e && ckSs N sc fr a p && ckSs N sc fr b q
    | none => false
  | .whl t b, s => match asWhl s with
    | some (e, p) => ck N t sc e && ckSs N sc fr b p
    | none => false
  | .for tg it b, s => match asFor s with
    | some (t, i, p) => ckG N true sc tg t && ckI N it sc i (isTup t) && noSet i && ckSs N sc fr b p
    | none => false
  | .rai c, s => match asRai s with
    | some x => x == Str.ofString c && glB sc x && dbg x && isExc c
    | none => false
  | .tri b c h, s => match asTry s with
    | some (p, x, q) => x == Str.ofString c && glB sc x && dbg x && isExc c && ckSs N sc fr b p && ckH N sc fr h q && !q.isEmpty
    | none => false
  | .tas b c i h, s => match asTryAs s with
    | some (p, x, n, q) => x == Str.ofString c && glB sc x && dbg x && isExc c && decide (N[i]? = some n) && isLoc sc n && ckSs N sc fr b p && ckH N sc fr h q && !q.isEmpty
    | none => false
  | .par3 i j l x y z, s => match asPar3 s with
    | some ((a, pa), (b, pb), (c, pc), e, f, g) => decide (N[i]? = some a) && decide (N[j]? = some b) && decide (N[l]? = some c) && decide (i ≠ j) && decide (i ≠ l) && decide (j ≠ l) && isLoc sc a && isLoc sc b && isLoc sc c && (pb.line == pa.line) && (pc.line == pa.line) && !(a == b) && !(a == c) && !(b == c) && noStar e && noStar f && noStar g &&
      !([e, f, g].all (foldedForSure 8)) && !([e, f, g].all (constantsAlone 8)) && ck N x sc e && ck N y sc f && ck N z sc g && nb x && nb y && nb z
    | none => false
  | .brk, s => asBrk s
  | .cnt, s => asCnt s
  | .pas, s => asPas s
  | .asgF i own x, s => match asAsg s with
    | some (y, py, v) => decide (N[i]? = some y) && locB sc y && ckF N x sc v && (!own || frf x) && lcSt sc y py v && !isPF x
    | none => false
  | .appF i x, s => match asMeth s with
    | some (y, a, ap, [v], cp) => decide (N[i]? = some y) && visB sc y && dbg y && a == ("append" : Str) && (ap.endLine == cp.line) && noStar v && ckF N x sc v
    | _ => false
  | .insF i k x, s => match asMeth s with
    | some (y, a, ap, [u, v], cp) => decide (N[i]? = some y) && visB sc y && dbg y && a == ("insert" : Str) && (ap.endLine == cp.line) && noStar u && noStar v && ckF N k sc u && ckF N x sc v
    | _ => false
  | .popF i k, s => match asMeth s with
    | some (y, a, ap, [v], cp) => decide (N[i]? = some y) && visB sc y && dbg y && a == ("pop" : Str) && (ap.endLine == cp.line) && noStar v && ckF N k sc v
    | _ => false
  | .extF i x, s => match asMeth s with
    | some (y, a, ap, [v], cp) => decide (N[i]? = some y) && visB sc y && dbg y && a == ("extend" : Str) && (ap.endLine == cp.line) && noStar v && ckF N x sc v
    | _ => false
  | .expF x, s => match asExp s with
    | some v => ckF N x sc v && noComp v
    | none => false
  | .ifeF t a b, s => match asIf s with
    | some (e, p, q) => ckF N t sc e && ckSs N sc fr a p && ckSs N sc fr b q
    | none => false
  | .forF tg it b, s => match asFor s with
    | some (t, i, p) => ckG N true sc tg t && ckFI N it sc i (isTup t) && noSet i && ckSs N sc fr b p
    | none => false
  | .retF x, s => match asRet s with
    | some (some v) => ckF N x sc v && (!fr || frf x)
    | _ => false
  | .unpF ts x, s => match asUnp s with
    | some (es, v) => ckGs N true sc ts es && ckF N x sc v && noSwap v
    | none => false
  | .stiF i k x, s => match asSti s with
    | some (y, ix, v) => decide (N[i]? = some y) && visB sc y && dbg y && ck N k sc ix && ckF N x sc v && noComp v && noSlice ix
    | none => false
  | .retQ x, s => match asRet s with
    | some (some v) => (match borF x with | some j => ck N (.bor j) sc v && decide (j ≠ 0) | none => ckF N x sc v && (!fr || frf x))
    | _ => false
  | .retQN, s => match asRet s with
    | some none => true
    | _ => false
  | .stq k x, s => match asSti s with
    | some (y, ix, v) => decide (N[(0 : Nat)]? = some y) && visB sc y && dbg y && ck N k sc ix && ck N x sc v && nb x && noComp v && noSlice ix
    | none => false
  | _, _ => false
def ckSs (N : List Str) (sc : Scope) (fr : Bool) : List St → List Stmt → Bool
  | [], es => es.isEmpty
  | s :: ss, es => match s with
    | .frz _ => ckSs N sc fr ss es
    | s => match es with
      | e :: es => ckS N sc fr s e && ckSs N sc fr ss es
      | [] => false
end
mutual
def calS (tb : Fn → Prop) (tg : String → D → Prop) (tx : String → Prop) : St → Prop
  | .asg _ _ x => cal tb tg x
  | .unp _ x => cal tb tg x
  | .par _ _ x y => cal tb tg x ∧ cal tb tg y
  | .aug _ _ x => cal tb tg x
  | .ret x => cal tb tg x
  | .exp x => cal tb tg x
  | .app _ x => cal tb tg x
  | .ins _ k x => cal tb tg k ∧ cal tb tg x
  | .popE _ k => cal tb tg k
  | .sti _ k x => cal tb tg k ∧ cal tb tg x
  | .sls _ lo hi x => cal tb tg lo ∧ cal tb tg hi ∧ cal tb tg x
  | .ife t a b => cal tb tg t ∧ calSs tb tg tx a ∧ calSs tb tg tx b
  | .whl t b => cal tb tg t ∧ calSs tb tg tx b
  | .for _ it b => cal tb tg it ∧ calSs tb tg tx b
  | .rai c => tx c
  | .tri b c h => tx c ∧ calSs tb tg tx b ∧ calSs tb tg tx h
  | .tas b c _ h => tx c ∧ calSs tb tg tx b ∧ calSs tb tg tx h
  | .par3 _ _ _ x y z => cal tb tg x ∧ cal tb tg y ∧ cal tb tg z
  | .asgF _ _ x => calF tb tg x
  | .appF _ x => calF tb tg x
  | .insF _ k x => calF tb tg k ∧ calF tb tg x
  | .popF _ k => calF tb tg k
  | .extF _ x => calF tb tg x
  | .expF x => calF tb tg x
  | .ifeF t a b => calF tb tg t ∧ calSs tb tg tx a ∧ calSs tb tg tx b
  | .forF _ it b => calF tb tg it ∧ calSs tb tg tx b
  | .retF x => calF tb tg x
  | .unpF _ x => calF tb tg x
  | .stiF _ k x => cal tb tg k ∧ calF tb tg x
  | .retQ x => calF tb tg x
  | .stq k x => cal tb tg k ∧ cal tb tg x
  | _ => True
def calSs (tb : Fn → Prop) (tg : String → D → Prop) (tx : String → Prop) : List St → Prop
  | [] => True
  | s :: ss => calS tb tg tx s ∧ calSs tb tg tx ss
end
end OL
/-! What a statement of the program does, it does by the small language's words. -/
namespace OL
open PySem PySem.Spec PyProof.Rows L2
def veMro : List Value := [.type "ValueError", .type "Exception", .type "BaseException", .type "object"]
structure ExcOk (X : Cx) (C : Addr) : Prop where
  xin : PySem.W.excIn X.K C veMro "ValueError.__new__" = true
  kin : PySem.W.keepIn X.K (.ref C) = true
  sub : PySem.W.subIn X.K (.ref C) (.type "BaseException") = some true
  ty : PySem.W.typeIn X.K (.ref C) = some (.type "type")
structure GoodS (tb : Fn → Prop) (tg : String → D → Prop) (tx : String → Prop) (X : Cx) (W : WX) : Prop where
  g : Good tb tg X false
  tk : Takes X W
  ps : PassesOwn (model X.prog X.w) X.A X.env X.xe
  st : X.stack = X.env :: X.outer
  fr : X.env.frame = some X.env.locals
  fn : ∀ x, X.fn x = true
  kd : X.env.scope.kind = .function
  exc : ∀ k, tx k → ∃ C, X.mg (Str.ofString k) = some (.ref C) ∧ ExcOk X C
  exm : ∀ k k' C C', isExc k = true → isExc k' = true → X.mg (Str.ofString k) = some (.ref C) → X.mg (Str.ofString k') = some (.ref C') → PySem.W.exmOne X.K (.ref C) (.ref C') = some (subX k k')
theorem GoodS.tkf {tb : Fn → Prop} {tg : String → D → Prop} {tx : String → Prop} {X : Cx} {W : WX} (G : GoodS tb tg tx X W) : TakesF X W := takesF_top G.tk G.st G.fr
/-- as of_ok, what is wanted told of the heap ahead of the expression -/
theorem of_ok0 {c : Cn} {W : WX} {fr : Bool} {σ : Sg} {ρ : En} {H : Hp} {Dn : Ends} {x : Ex} {f : D → O} {Q : VK} (er : ER c H σ ρ) (q : oA c W fr σ ρ H Dn (.of ρ (ev ρ x) f))
    (k : ∀ d v H', ev ρ x = .ok d → Po c σ ρ x H H' d v → ER c H' σ ρ → oA c W fr σ ρ H Dn (f d) → Q v H') : tX c W x σ H Q := by
  refine ⟨ρ, er, ?_⟩
  cases e : ev ρ x with
  | ok d =>
    rw [e] at q
    exact fun v H' po => k d v H' e po (er.same po.same) q
  | exc k => rw [e] at q; exact fun H' s => q σ H' (er.same s) (.same s)
  | bad => rw [e] at q; exact q.elim
theorem loc_of {sc : Scope} {x : Str} (h : locB sc x = true) : Loc sc x := by
  unfold locB at h
  split at h
  · exact .inl (by assumption)
  · exact .inr (by assumption)
  · cases h
theorem isLoc_of {sc : Scope} {x : Str} (h : isLoc sc x = true) : sc.names.lookup x = some .local := by
  unfold isLoc at h
  split at h
  · assumption
  · cases h
section
variable {X : Cx} {H0 : Hp} {Gp : GQ} {W : WX} {tb : Fn → Prop} {tg : String → D → Prop} {tx : String → Prop} {hot : Bool} {fr : Bool}
theorem GoodS.tr {W' : WX} {pn : List (Addr × Obj)} {xe : Value → Shared → Prop} (G : GoodS tb tg tx X W) (tk : Takes (X.tr pn xe) W') (hp : PassesOwn (model X.prog X.w) X.A X.env xe) : GoodS tb tg tx (X.tr pn xe) W' :=
  ⟨⟨G.g.nd, G.g.un, G.g.calm, fun h f hf => let c := G.g.calls h f hf; ⟨c.ex, c.dfl⟩, G.g.blt, G.g.oth, G.g.xk, G.g.gle, G.g.glb⟩, tk, hp, G.st, G.fr, G.fn, G.kd, fun k hk => let ⟨C, m, e⟩ := G.exc k hk; ⟨C, m, ⟨e.xin, e.kin, e.sub, e.ty⟩⟩, G.exm⟩
theorem Good.suite (G : Good tb tg X false) (a : Addr) (pn : List (Addr × Obj)) : Good tb tg (X.suite a pn) true :=
  ⟨G.nd, G.un, fun h => by (cases h), fun h => by (cases h), G.blt, G.oth, G.xk, G.gle, G.glb⟩
/-- a value that is handed back -/
theorem ret_of {c : Cn} {σ : Sg} {ρ : En} {x : Ex} {H H' : Hp} {d : D} {v : V} (er : ER c H σ ρ) (po : Po c σ ρ x H H' d v) (hb : isBor x = false) (hx : (!fr || isBor x || frx x) = true) : Ret c fr H' d v := by
  have er' := er.same po.same
  have hn : nb x = true := by cases x <;> first | rfl | cases hb
  intro hq
  refine ⟨fun a o e => er'.sm a o e (by rw [hq]; exact fun z => by cases z), (po.rp hn).weak fun _ _ _ z => z.1, fun hf es e => ?_⟩
  have f : frx x = true := by
    rw [hf, hb] at hx
    simpa using hx
  obtain ⟨a, xs, e1, e2, e3, r⟩ := po.fr f es e
  exact ⟨a, xs, e1, er.dm _ e2, e3, r.weak fun _ _ _ z => ⟨z.1.1, z.2⟩⟩
theorem ret_bor {c : Cn} {σ : Sg} {ρ : En} {H : Hp} {i : Nat} {ds : List D} {s : Sl} (er : ER c H σ ρ) (e : ρ[i]? = some s) (hs : s = .o ds ∨ s = .q ds) : ∃ v, σ[i]? = some (some v) ∧ Ret c fr H (.lst ds) v := by
  rcases hs with rfl | rfl
  · obtain ⟨a, xs, e1, e2, e3, r⟩ := er.lst i ds e
    have ow : ∀ b, Zf c σ ρ b → c.Gp b ∧ b ≠ a := fun b z => ⟨z.1, fun w => by subst w; exact z.2 ⟨i, ds, e, e1⟩⟩
    refine ⟨_, e1, fun hq => ⟨fun a o e => er.sm a o e (by rw [hq]; exact fun z => by cases z), .lst e2 e3.2 (r.weak fun b _ _ z => (ow b z).1), fun _ es z => ?_⟩⟩
    cases z
    exact ⟨a, xs, rfl, e3.1, e2, r.weak fun b _ _ z => ow b z⟩
  · obtain ⟨_, a, xs, e1, e2, _⟩ := er.lsq i ds e
    exact ⟨_, e1, fun hq => by rw [hq] at e2; cases e2⟩
theorem ps_of_ret (G : Good tb tg X hot) (tk : TakesF X W) {x : Ex} {v : Expr} {p : Pos} (hh : hot = true → hotOk x = true) (hc : cal tb tg x) (h : ck X.N x X.env.scope v = true) (hx : (!fr || isBor x || frx x) = true) : PS X (.Return (some v) p) (tS1 (cn X H0 Gp) W fr (.ret x)) := by
  by_cases hb : isBor x = true
  · cases x <;> (try (cases hb; done))
    rename_i i
    obtain ⟨n, q, rfl, h1, h2, h3⟩ := ck_bor h
    obtain ⟨d1, d2, _⟩ := dbg_of h3
    refine ps_imp (ps_ret (pe_var h1 (vis_of h2) d1 d2)) fun Dn σ H q => ?_
    obtain ⟨ρ, er, q⟩ := q
    unfold exe ev getb at q
    split at q
    · rename_i ds hd
      obtain ⟨v, e1, r⟩ := ret_bor (fr := fr) er hd (.inl rfl)
      exact ⟨v, e1, q v H r⟩
    · rename_i ds hd
      obtain ⟨v, e1, r⟩ := ret_bor (fr := fr) er hd (.inr rfl)
      exact ⟨v, e1, q v H r⟩
    · exact q.elim
  · refine ps_imp (ps_ret ((snd x).1.pe (H0 := H0) (Gp := Gp) G tk hh hc h)) fun Dn σ H q => ?_
    obtain ⟨ρ, er, q⟩ := q
    unfold exe at q
    exact of_ok er q fun d v H' e po er' q' => q' v H' (ret_of er po (by simpa using hb) hx)
theorem ps_of_asg0 (G : Good tb tg X hot) (tk : TakesF X W) (hf : ∀ x, X.fn x = true) {i : Nat} {x : Ex} {v : Expr} {n : Str} {py p : Pos} (hh : hot = true → hotOk x = true) (hc : cal tb tg x) (hi : X.N[i]? = some n) (hl : locB X.env.scope n = true) (h : ck X.N x X.env.scope v = true) (hn : nb x = true)
    (hs : swapsWith v (some (.Name n py)) p.line X.env = pure false) : PS X (.Assign [.Name n py] v p) (tS1 (cn X H0 Gp) W fr (.asg i false x)) := by
  refine ps_imp (ps_set G.nd hi (loc_of hl) ((snd x).1.pe (H0 := H0) (Gp := Gp) G tk hh hc h) hs (.inl (hf n))) fun Dn σ H q => ?_
  obtain ⟨ρ, er, q⟩ := q
  unfold exe at q
  refine of_ok er q fun d v H' e po er' q' => ?_
  have q2 : oA (cn X H0 Gp) W fr σ ρ H' Dn (setS ρ i (.v d)) := q'
  unfold setS at q2
  split at q2
  · rename_i hlt
    exact q2 _ _ (er'.set (po.rp hn) hlt) fun a o e n _ => ⟨e, fun w => n (own_set w)⟩
  · exact q2.elim
theorem asg_read {c : Cn} {i : Nat} {own : Bool} {x : Ex} (hn : nb x = true) (hfr : own = true → frx x = true) {Dn : Ends} {σ : Sg} {H : Hp} (q : tS1 c W fr (.asg i own x) Dn σ H) : tX c W x σ H fun v H' => gName i v σ H' Dn.nx := by
  obtain ⟨ρ, er, q⟩ := q
  unfold exe at q
  refine of_ok0 er q fun d v H' e po er' q' => ?_
  cases own with
  | false =>
    have q2 : oA c W fr σ ρ H Dn (setS ρ i (.v d)) := q'
    unfold setS at q2
    split at q2
    · rename_i hlt
      exact q2 _ _ (er'.set (po.rp hn) hlt) fun a o e n _ => ⟨po.same _ _ e, fun w => n (own_set w)⟩
    · exact q2.elim
  | true =>
    cases d with
    | lst ds =>
      have q2 : oA c W fr σ ρ H Dn (setS ρ i (.o ds)) := q'
      unfold setS at q2
      split at q2
      · rename_i hlt
        obtain ⟨a, xs, rfl, f1, f2, r⟩ := po.fr (hfr rfl) _ rfl
        refine q2 _ _ (er.setO po.same f1 f2 r hlt) fun b o e n _ => ⟨po.same _ _ e, fun w => ?_⟩
        rcases own_setO w with z | z
        · subst z; rw [f1] at e; cases e
        · exact n z
      · exact q2.elim
    | _ => exact False.elim q'
end
end OL
namespace OL
open PySem PySem.Spec PyProof.Rows L2
theorem whileO_run {t : En → R Bool} {b : En → O} {ρ : En} (h : whileO t b ρ ≠ .bad) : ∃ n, wrun t b n ρ = some (whileO t b ρ) := by
  unfold whileO at h ⊢
  split
  · rename_i hx
    exact ⟨_, (Classical.choose_spec hx).choose_spec⟩
  · rename_i hx
    rw [dif_neg hx] at h
    exact absurd rfl h
section
variable {X : Cx} {H0 : Hp} {Gp : GQ} {W : WX} {tb : Fn → Prop} {tg : String → D → Prop} {tx : String → Prop} {fr : Bool}
theorem ps_of_asg (G : GoodS tb tg tx X W) {i : Nat} {own : Bool} {x : Ex} {s : Stmt} (hc : cal tb tg x) (h : ckS X.N X.env.scope fr (.asg i own x) s = true) : PS X s (tS1 (cn X H0 Gp) W fr (.asg i own x)) := by
  unfold ckS at h
  split at h <;> (try (cases h; done))
  rename_i y py v he
  obtain ⟨p, rfl⟩ := asAsg_eq he
  simp only [Bool.and_eq_true, decide_eq_true_eq, Bool.or_eq_true, Bool.not_eq_true'] at h
  obtain ⟨⟨⟨⟨⟨h1, h2⟩, h3⟩, h4⟩, h5⟩, h6⟩ := h
  have hfr : own = true → frx x = true := fun z => h5.resolve_left (by rw [z]; decide)
  have px := (snd x).1.pe (H0 := H0) (Gp := Gp) G.g G.tkf (fun z => by cases z) hc h3
  have main : PS X (.Assign [.Name y py] v p) (tAsg (tX (cn X H0 Gp) W x) (gName i)) := by
    by_cases hn : noComp v = true
    · exact ps_set G.g.nd h1 (loc_of h2) px (sw_none hn _ _ _) (.inl (G.fn y))
    · cases v <;> (try (exact absurd rfl hn)) <;> (try (unfold lcSt noComp at h6; cases h6; done))
      rename_i a gs scope vp
      replace h6 : (match X.env.scope.names.lookup y with
        | some .local => (py.line == vp.line) && !(scope.names.any fun (n, k) => n == y && (k == .local || k == .cell))
        | some .cell => true
        | _ => false) = true := h6
      split at h6
      · rename_i hloc
        rw [Bool.and_eq_true, Bool.not_eq_true'] at h6
        cases x with
        | mth m x xs =>
          cases m
          obtain ⟨_, o, ap, p3, e, _⟩ := ck_bitlen h3
          cases e
        | lc elt tgt it cond =>
          obtain ⟨a', t, ii, ifs, scope', p', e, k1, k2, k3, k4, k5, k6, k7, k8⟩ := ck_lc h3
          cases e
          unfold cal at hc
          obtain ⟨pi, bk, pg, pt, pl, fs, imp⟩ := lc_all (H0 := H0) (Gp := Gp) (p := p) (snd elt).1 (snd it).2 (snd cond).1 G.g G.tkf hc k1 k2 k3 k4 k5 k6 k7 k8
          exact ps_imp (ps_setLcX G.tkf (G.g.calm rfl) G.g.nd h1 hloc (sw_true G.kd hloc h6.1 h6.2) pi bk pg pt pl fs) fun Dn σ H q => imp σ H _ q
        | _ => unfold ck at h3; cases h3
      · rename_i hcell
        exact ps_set G.g.nd h1 (loc_of h2) px (sw_cell hcell) (.inl (G.fn y))
      · cases h6
  exact ps_imp main fun Dn σ H q => asg_read h4 hfr q
theorem ps_of_unp (G : GoodS tb tg tx X W) {ts : List Tg} {x : Ex} {s : Stmt} (hc : cal tb tg x) (h : ckS X.N X.env.scope fr (.unp ts x) s = true) : PS X s (tS1 (cn X H0 Gp) W fr (.unp ts x)) := by
  unfold ckS at h
  split at h <;> (try (cases h; done))
  rename_i es v he
  obtain ⟨k, q0, p, rfl⟩ := asUnp_eq he
  simp only [Bool.and_eq_true] at h
  obtain ⟨⟨⟨h1, h2⟩, h3⟩, h4⟩ := h
  have px := (snd x).1.pe (H0 := H0) (Gp := Gp) G.g G.tkf (fun z => by cases z) hc h2
  have pg := pg_of (t := .tp ts) (e := .Tuple es k q0) G.g.nd (G.g.calm rfl) (cel := true) (fun _ => G.fn) (by unfold ckG; exact h1)
  refine ps_imp (ps_asg px pg (sw_tupT _ _) (sw_some h4)) fun Dn σ H q => ?_
  obtain ⟨ρ, er, q⟩ := q
  unfold exe at q
  refine of_ok er q fun d v H' e po er' q' => ?_
  cases e2 : setT (.tp ts) d ρ with
  | ok ρ' =>
    rw [e2] at q'
    exact gOf_ok (c := cn X H0 Gp) er' (po.rp h3) e2 fun σ' er2 ow sl ln => q' σ' H' er2 fun a o e n _ => ⟨e, fun w => n (ow a w)⟩
  | exc k => exact absurd e2 setT_exc
  | bad => rw [e2] at q'; exact q'.elim
theorem ps_of_par (G : GoodS tb tg tx X W) {i j : Nat} {x y : Ex} {s : Stmt} (hc : cal tb tg x ∧ cal tb tg y) (h : ckS X.N X.env.scope fr (.par i j x y) s = true) : PS X s (tS1 (cn X H0 Gp) W fr (.par i j x y)) := by
  unfold ckS at h
  split at h <;> (try (cases h; done))
  rename_i a pa b pb e f he
  obtain ⟨k, q0, k2, q2, p, rfl⟩ := asPar_eq he
  simp only [Bool.and_eq_true, decide_eq_true_eq, Bool.not_eq_true'] at h
  obtain ⟨⟨⟨⟨⟨⟨⟨⟨⟨⟨⟨⟨⟨⟨h1, h2⟩, h3⟩, h4⟩, h5⟩, h6⟩, h7⟩, h8⟩, h9⟩, h10⟩, h11⟩, h12⟩, h13⟩, h14⟩, h15⟩ := h
  have px := (snd x).1.pe (H0 := H0) (Gp := Gp) G.g G.tkf (fun z => by cases z) hc.1 h12
  have py := (snd y).1.pe (H0 := H0) (Gp := Gp) G.g G.tkf (fun z => by cases z) hc.2 h13
  refine ps_imp (ps_par (G.g.calm rfl) G.g.nd h1 h2 h3 (isLoc_of h4) (isLoc_of h5) (pa_cons px (pa_cons py pa_nil (star_of h9 [] X.env)) (star_of h8 _ X.env)) (sw_par G.kd (isLoc_of h4) (isLoc_of h5) h6 h7 h8 h9 h10 h11) (sw_tupT _ _)) fun Dn σ H q => ?_
  obtain ⟨ρ, er, q⟩ := q
  unfold exe at q
  refine of_ok er q fun d v H1 e po er1 q1 => ?_
  refine of_ok er1 q1 fun d2 v2 H2 e2 po2 er2 q2 => ?_
  have q3 : oA (cn X H0 Gp) W fr σ ρ H2 Dn (if i < ρ.length ∧ j < ρ.length then .nx ((ρ.set i (.v d)).set j (.v d2)) else .bad) := q2
  split at q3
  · rename_i hlt
    have s1 := er2.set (i := i) ((po.rp h14).same po2.same) hlt.1
    have wk : ∀ a, Zf (cn X H0 Gp) σ ρ a → Zf (cn X H0 Gp) (σ.set i (some v)) (ρ.set i (.v d)) a := fun a z => ⟨z.1, fun w => z.2 (own_set w)⟩
    have s2 := s1.set (i := j) ((po2.rp h15).weak fun a _ _ z => wk a z) (by rw [List.length_set]; exact hlt.2)
    exact ⟨v, v2, rfl, q3 _ _ s2 fun a o e n _ => ⟨e, fun w => n (own_set (own_set w))⟩⟩
  · exact q3.elim
theorem ps_of_aug (G : GoodS tb tg tx X W) {i : Nat} {op : Op} {x : Ex} {s : Stmt} (hc : cal tb tg x) (h : ckS X.N X.env.scope fr (.aug i op x) s = true) : PS X s (tS1 (cn X H0 Gp) W fr (.aug i op x)) := by
  unfold ckS at h
  split at h <;> (try (cases h; done))
  rename_i a o v he
  obtain ⟨q0, p, rfl⟩ := asAug_eq he
  simp only [Bool.and_eq_true, decide_eq_true_eq] at h
  obtain ⟨⟨⟨h1, h2⟩, h3⟩, h4⟩ := h
  have px := (snd x).1.pe (H0 := H0) (Gp := Gp) G.g G.tkf (fun z => by cases z) hc h4
  cases op <;> (try (cases h1; done))
  · have := of_decide_eq_true h1
    subst this
    have read : ∀ Dn σ H, tS1 (cn X H0 Gp) W fr (.aug i .add x) Dn σ H → tAug i (tX (cn X H0 Gp) W x) (ipI fun i j => i + j) Dn σ H := by
      intro Dn σ H q
      obtain ⟨ρ, er, q⟩ := q
      unfold exe at q
      cases e1 : getv ρ i with
      | exc k => unfold getv at e1; split at e1 <;> cases e1
      | bad => rw [e1] at q; exact q.elim
      | ok a =>
        rw [e1] at q
        have e1' := e1
        unfold getv at e1'
        split at e1' <;> cases e1'
        rename_i hd
        obtain ⟨va, f1, ra⟩ := er.val i a hd
        refine ⟨va, f1, of_ok er (f := fun b => .of ρ (augD .add a b) fun d => setS ρ i (.v d)) q fun b vb H' e po er' q' => ?_⟩
        cases a <;> (try (exact False.elim q')) <;> cases b <;> (try (exact False.elim q'))
        rename_i m n
        cases ra
        cases po.rb.int
        have q3 : oA (cn X H0 Gp) W fr σ ρ H' Dn (setS ρ i (.v (.int (m + n)))) := q'
        unfold setS at q3
        split at q3
        · rename_i hlt
          exact ⟨m, n, rfl, rfl, q3 _ _ (er'.set (.int _) hlt) fun a o e n _ => ⟨e, fun w => n (own_set w)⟩⟩
        · exact q3.elim
    exact ps_imp (ps_aug G.g.nd h2 (loc_of h3) px ip_add (.inl (G.fn a))) read
  · have := of_decide_eq_true h1
    subst this
    have read : ∀ Dn σ H, tS1 (cn X H0 Gp) W fr (.aug i .sub x) Dn σ H → tAug i (tX (cn X H0 Gp) W x) (ipI fun i j => i - j) Dn σ H := by
      intro Dn σ H q
      obtain ⟨ρ, er, q⟩ := q
      unfold exe at q
      cases e1 : getv ρ i with
      | exc k => unfold getv at e1; split at e1 <;> cases e1
      | bad => rw [e1] at q; exact q.elim
      | ok a =>
        rw [e1] at q
        have e1' := e1
        unfold getv at e1'
        split at e1' <;> cases e1'
        rename_i hd
        obtain ⟨va, f1, ra⟩ := er.val i a hd
        refine ⟨va, f1, of_ok er (f := fun b => .of ρ (augD .sub a b) fun d => setS ρ i (.v d)) q fun b vb H' e po er' q' => ?_⟩
        cases a <;> (try (exact False.elim q')) <;> cases b <;> (try (exact False.elim q'))
        rename_i m n
        cases ra
        cases po.rb.int
        have q3 : oA (cn X H0 Gp) W fr σ ρ H' Dn (setS ρ i (.v (.int (m - n)))) := q'
        unfold setS at q3
        split at q3
        · rename_i hlt
          exact ⟨m, n, rfl, rfl, q3 _ _ (er'.set (.int _) hlt) fun a o e n _ => ⟨e, fun w => n (own_set w)⟩⟩
        · exact q3.elim
    exact ps_imp (ps_aug G.g.nd h2 (loc_of h3) px ip_sub (.inl (G.fn a))) read
end
end OL
namespace OL
open PySem PySem.Spec PyProof.Rows L2
theorem own_upd_eq {σ : Sg} {ρ : En} {i : Nat} {ds es : List D} (q : ρ[i]? = some (.o ds)) (a : Addr) : own σ (ρ.set i (.o es)) a → own σ ρ a := fun ⟨j, fs, e1, e2⟩ => by
  rcases get_set_cases e1 with ⟨rfl, _, _⟩ | ⟨_, q1⟩
  · exact ⟨j, ds, q, e2⟩
  · exact ⟨j, fs, q1, e2⟩
theorem own_frz_eq {σ : Sg} {ρ : En} {i : Nat} {d : D} (a : Addr) : own σ (ρ.set i (.v d)) a → own σ ρ a := fun ⟨j, fs, e1, e2⟩ => by
  rcases get_set_cases e1 with ⟨_, z, _⟩ | ⟨_, q1⟩
  · cases z
  · exact ⟨j, fs, q1, e2⟩
/-- one's own list is changed: what stood else stands -/
theorem stb_upd {c : Cn} {σ : Sg} {ρ : En} {H : Hp} {i : Nat} {ds es : List D} {p : Addr} {o : HO} (q : ρ[i]? = some (.o ds)) (e : σ[i]? = some (some (V.ref p))) : Stb c σ ρ H σ (ρ.set i (.o es)) (upd H p o) := fun a u h n _ =>
  ⟨by rw [upd_ne (fun z => n (by subst z; exact ⟨i, ds, q, e⟩))]; exact h, fun w => n (own_upd_eq q a w)⟩
theorem ownL_some {ρ : En} {i : Nat} {f : List D → O} {c : Cn} {W : WX} {fr : Bool} {σ : Sg} {H : Hp} {Dn : Ends} (q : oA c W fr σ ρ H Dn (ownL ρ i f)) : ∃ ds, ρ[i]? = some (.o ds) ∧ oA c W fr σ ρ H Dn (f ds) := by
  unfold ownL at q
  split at q
  · exact ⟨_, by assumption, q⟩
  · exact q.elim
section
variable {X : Cx} {H0 : Hp} {Gp : GQ} {W : WX} {tb : Fn → Prop} {tg : String → D → Prop} {tx : String → Prop} {fr : Bool}
theorem ps_of_app (G : GoodS tb tg tx X W) {i : Nat} {x : Ex} {s : Stmt} (hc : cal tb tg x) (h : ckS X.N X.env.scope fr (.app i x) s = true) : PS X s (tS1 (cn X H0 Gp) W fr (.app i x)) := by
  unfold ckS at h
  split at h <;> (try (cases h; done))
  rename_i y a ap v cp he
  obtain ⟨q0, p, rfl⟩ := asMeth_eq he
  simp only [Bool.and_eq_true, decide_eq_true_eq, beq_iff_eq] at h
  obtain ⟨⟨⟨⟨⟨⟨⟨h1, h2⟩, h3⟩, rfl⟩, h5⟩, h6⟩, h7⟩, h8⟩ := h
  have px := (snd x).1.pe (H0 := H0) (Gp := Gp) G.g G.tkf (fun z => by cases z) hc h7
  obtain ⟨d1, d2, _⟩ := dbg_of h3
  have hst : starEach [v] X.env = (false, eval v X.env) :: starEach [] X.env := star_of h6 [] X.env
  refine ps_imp (ps_expr (pe_bm PySem.F.plainAttrs_list PySem.F.slot_list_append PySem.F.type_list_append mt_append (pe_var h1 (vis_of h2) d1 d2) (pa_cons px pa_nil hst) rfl (by rw [hst]; rfl) (by rw [beq_iff_eq]; exact h5) hst rfl) rfl) fun Dn σ H q => ?_
  obtain ⟨ρ, er, q⟩ := q
  unfold exe at q
  obtain ⟨ds, hd, q⟩ := ownL_some q
  obtain ⟨p0, xs, f1, f2, f3, r⟩ := er.lst i ds hd
  refine ⟨_, f1, .inl ⟨rfl, _, SqL.of f2⟩, of_ok er q fun d v H' e po er' q' => ?_⟩
  have q2 : oA (cn X H0 Gp) W fr σ ρ H' Dn (if ds.length < 16777216 then .nx (ρ.set i (.o (ds ++ [d]))) else .bad) := q'
  split at q2
  · rename_i hl
    have r' := r.same po.same
    refine ⟨p0, xs, v, rfl, rfl, po.same _ _ f2, by rw [line_eq, ← r.length]; exact hl, q2 _ _ (er'.upd hd f1 (po.same _ _ f2) (r'.append (.cons (po.rp h8) .nil))) (stb_upd hd f1)⟩
  · exact q2.elim
theorem ps_of_rev (G : GoodS tb tg tx X W) {i : Nat} {s : Stmt} (h : ckS X.N X.env.scope fr (.rev i) s = true) : PS X s (tS1 (cn X H0 Gp) W fr (.rev i)) := by
  unfold ckS at h
  split at h <;> (try (cases h; done))
  rename_i y a ap cp he
  obtain ⟨q0, p, rfl⟩ := asMeth_eq he
  simp only [Bool.and_eq_true, decide_eq_true_eq, beq_iff_eq] at h
  obtain ⟨⟨⟨⟨h1, h2⟩, h3⟩, rfl⟩, h5⟩ := h
  obtain ⟨d1, d2, _⟩ := dbg_of h3
  refine ps_imp (ps_expr (pe_bm0 PySem.F.plainAttrs_list PySem.F.slot_list_reverse PySem.F.type_list_reverse mt_reverse (pe_var h1 (vis_of h2) d1 d2) rfl (by rw [beq_iff_eq]; exact h5)) rfl) fun Dn σ H q => ?_
  obtain ⟨ρ, er, q⟩ := q
  unfold exe at q
  obtain ⟨ds, hd, q⟩ := ownL_some q
  obtain ⟨p0, xs, f1, f2, f3, r⟩ := er.lst i ds hd
  exact ⟨_, f1, .inl ⟨rfl, _, SqL.of f2⟩, p0, xs, rfl, rfl, f2, q _ _ (er.upd hd f1 f2 r.reverse) (stb_upd hd f1)⟩
theorem ps_of_clr (G : GoodS tb tg tx X W) {i : Nat} {s : Stmt} (h : ckS X.N X.env.scope fr (.clr i) s = true) : PS X s (tS1 (cn X H0 Gp) W fr (.clr i)) := by
  unfold ckS at h
  split at h <;> (try (cases h; done))
  rename_i y a ap cp he
  obtain ⟨q0, p, rfl⟩ := asMeth_eq he
  simp only [Bool.and_eq_true, decide_eq_true_eq, beq_iff_eq] at h
  obtain ⟨⟨⟨⟨h1, h2⟩, h3⟩, rfl⟩, h5⟩ := h
  obtain ⟨d1, d2, _⟩ := dbg_of h3
  refine ps_imp (ps_expr (pe_bm0 PySem.F.plainAttrs_list PySem.F.slot_list_clear PySem.F.type_list_clear mt_clear (pe_var h1 (vis_of h2) d1 d2) rfl (by rw [beq_iff_eq]; exact h5)) rfl) fun Dn σ H q => ?_
  obtain ⟨ρ, er, q⟩ := q
  unfold exe at q
  obtain ⟨ds, hd, q⟩ := ownL_some q
  obtain ⟨p0, xs, f1, f2, f3, r⟩ := er.lst i ds hd
  exact ⟨_, f1, .inl ⟨rfl, _, SqL.of f2⟩, p0, xs, rfl, rfl, f2, q _ _ (er.upd hd f1 f2 .nil) (stb_upd hd f1)⟩
theorem ps_of_sti (G : GoodS tb tg tx X W) {i : Nat} {k x : Ex} {s : Stmt} (hc : cal tb tg k ∧ cal tb tg x) (h : ckS X.N X.env.scope fr (.sti i k x) s = true) : PS X s (tS1 (cn X H0 Gp) W fr (.sti i k x)) := by
  unfold ckS at h
  split at h <;> (try (cases h; done))
  rename_i y ix v he
  obtain ⟨q0, q1, p, rfl⟩ := asSti_eq he
  simp only [Bool.and_eq_true, decide_eq_true_eq] at h
  obtain ⟨⟨⟨⟨⟨⟨⟨h1, h2⟩, h3⟩, h4⟩, h5⟩, h6⟩, h7⟩, h8⟩ := h
  obtain ⟨d1, d2, _⟩ := dbg_of h3
  have px := (snd x).1.pe (H0 := H0) (Gp := Gp) G.g G.tkf (fun z => by cases z) hc.2 h5
  have pk := (snd k).1.pe (H0 := H0) (Gp := Gp) G.g G.tkf (fun z => by cases z) hc.1 h4
  refine ps_imp (ps_asg px (pg_sub (pe_var h1 (vis_of h2) d1 d2) pk set_list (by intro v; cases ix <;> first | rfl | cases h8)) (by cases v <;> first | rfl | cases h7) (by cases v <;> rfl)) fun Dn σ H q => ?_
  obtain ⟨ρ, er, q⟩ := q
  unfold exe at q
  refine of_ok er q fun d v H1 e po er1 q1 => ?_
  obtain ⟨ds, hd, q1⟩ := ownL_some q1
  obtain ⟨p0, xs, f1, f2, f3, r⟩ := er1.lst i ds hd
  refine ⟨_, f1, of_ok er1 q1 fun kd kv H2 e2 po2 er2 q2 => ?_⟩
  cases kd <;> (try (exact False.elim q2))
  rename_i k
  cases po2.rb.int
  have q3 : oA (cn X H0 Gp) W fr σ ρ H2 Dn (match ixN ds.length k with | some j => .nx (ρ.set i (.o (ds.set j d))) | none => .bad) := q2
  split at q3
  · rename_i j hj
    have r2 := (r.same po2.same).set ((po.rp h6).same po2.same) j
    exact ⟨p0, xs, k, j, rfl, rfl, po2.same _ _ f2, by rw [← r.length]; exact hj, q3 _ _ (er2.upd hd f1 (po2.same _ _ f2) r2) (stb_upd hd f1)⟩
  · exact q3.elim
theorem of_opt {Q : Option Int → Hp → Prop} {σ : Sg} {ρ : En} {H : Hp} {Dn : Ends} {z : Ex} {f : Option Int → O} (nz : isNop z = false) (er : ER (cn X H0 Gp) H σ ρ) (q : oA (cn X H0 Gp) W fr σ ρ H Dn (.of ρ ((ev ρ z).bind optI) f))
    (k : ∀ o H', Same H H' → ER (cn X H0 Gp) H' σ ρ → oA (cn X H0 Gp) W fr σ ρ H' Dn (f o) → Q o H') : tO (cn X H0 Gp) W z σ H Q := by
  refine ⟨ρ, er, ?_⟩
  rw [nz]
  show ((ev ρ z).bind optI).all _ _
  cases e : (ev ρ z).bind optI with
  | ok o =>
    rw [e] at q
    exact fun H' s => k o H' s (er.same s) (oA.later (.same s) q)
  | exc k => rw [e] at q; exact fun H' s => q σ H' (er.same s) (.same s)
  | bad => rw [e] at q; exact q.elim
theorem ps_of_sls (G : GoodS tb tg tx X W) {i : Nat} {lo hi x : Ex} {s : Stmt} (hc : cal tb tg lo ∧ cal tb tg hi ∧ cal tb tg x) (h : ckS X.N X.env.scope fr (.sls i lo hi x) s = true) : PS X s (tS1 (cn X H0 Gp) W fr (.sls i lo hi x)) := by
  unfold ckS at h
  split at h <;> (try (cases h; done))
  rename_i y l u ps v he
  obtain ⟨q0, q1, p, rfl⟩ := asSti_eq he
  simp only [Bool.and_eq_true, decide_eq_true_eq, Bool.not_eq_true'] at h
  obtain ⟨⟨⟨⟨⟨⟨⟨⟨⟨⟨h1, h2⟩, h3⟩, h4⟩, h5⟩, h6⟩, h7⟩, h8⟩, h9⟩, n1⟩, n2⟩ := h
  obtain ⟨d1, d2, _⟩ := dbg_of h3
  have px := (snd x).1.pe (H0 := H0) (Gp := Gp) G.g G.tkf (fun z => by cases z) hc.2.2 h6
  have cko : ∀ {z : Ex} {e : Expr}, isNop z = false → ck X.N z X.env.scope e = true → ckO X.N z X.env.scope (some e) = true := fun {z e} n c => by
    cases z <;> first | (cases n; done) | (unfold ckO optC; simpa [isNop] using c)
  have pl := po_of (H0 := H0) (Gp := Gp) (snd lo).1 G.g G.tkf hc.1 (cko n1 h4)
  have pu := po_of (H0 := H0) (Gp := Gp) (snd hi).1 G.g G.tkf hc.2.1 (cko n2 h5)
  refine ps_imp (ps_asg px (pg_sls (pe_var h1 (vis_of h2) d1 d2) pl pu) (by cases v <;> first | rfl | cases h9) (by cases v <;> rfl)) fun Dn σ H q => ?_
  obtain ⟨ρ, er, q⟩ := q
  unfold exe at q
  refine of_ok er q fun d v H1 e po er1 q1 => ?_
  obtain ⟨ds, hd, q1⟩ := ownL_some q1
  obtain ⟨p0, xs, f1, f2, f3, r⟩ := er1.lst i ds hd
  refine ⟨_, f1, of_opt n1 er1 q1 fun l H2 s2 er2 q2 => of_opt n2 er2 q2 fun u H3 s3 er3 q3 => ?_⟩
  clear q1
  rcases d with _ | _ | _ | _ | _ | es | _ | _ | _ <;> (try (exact False.elim q3))
  rcases l with _ | a <;> (try (exact False.elim q3))
  rcases u with _ | c <;> (try (exact False.elim q3))
  have q3 : oA (cn X H0 Gp) W fr σ ρ H3 Dn (if 0 ≤ a ∧ a ≤ ds.length ∧ a ≤ c ∧ ds.length + es.length ≤ 16777216 then .nx (ρ.set i (.o (ds.take a.toNat ++ es ++ ds.drop c.toNat))) else .bad) := q3
  split at q3 <;> (try (exact False.elim q3))
  rename_i hh
  obtain ⟨g0, g1, g2, g3⟩ := hh
  obtain ⟨b, ys, rfl, nb, fb, rb⟩ := po.fr h8 _ rfl
  have s13 : Same H1 H3 := s2.trans s3
  have ne : p0 ≠ b := fun z => by
    obtain ⟨p1, xs1, k1, k2, _⟩ := er.lst i ds hd
    rw [f1] at k1
    cases k1
    rw [z, nb] at k2
    cases k2
  have lx := r.length
  have ly := rb.length
  refine ⟨p0, b, xs, ys, a, c, rfl, rfl, rfl, rfl, s13 _ _ f2, s13 _ _ fb, ne, g0, by omega, g2, by rw [line_eq]; omega, ?_⟩
  have r3 := r.same s13
  have rb3 := (rb.same s13).weak fun b' _ _ z => z.1
  have tk : RpA X.K X.mg H3 (Zf (cn X H0 Gp) σ ρ) (ds.take a.toNat ++ es ++ ds.drop c.toNat) (xs.take a.toNat ++ ys ++ xs.drop c.toNat) := RpA.append (RpA.append (r3.take _) rb3) (r3.drop _)
  exact q3 _ _ (er3.upd hd f1 (s13 _ _ f2) tk) (stb_upd hd f1)
theorem ps_of_rai (G : GoodS tb tg tx X W) {k : String} {s : Stmt} (hc : tx k) (h : ckS X.N X.env.scope fr (.rai k) s = true) : PS X s (tS1 (cn X H0 Gp) W fr (.rai k)) := by
  unfold ckS at h
  split at h <;> (try (cases h; done))
  rename_i y he
  obtain ⟨p, q0, r, rfl⟩ := asRai_eq he
  simp only [Bool.and_eq_true, beq_iff_eq] at h
  obtain ⟨⟨⟨rfl, h1⟩, h2⟩, h3⟩ := h
  obtain ⟨C, hm, xo⟩ := G.exc k hc
  refine ps_imp (ps_raise (G.g.calm rfl) G.tk (pmk_own0 PySem.F.excBase_ValueError xo.xin hm xo.kin (raises_own xo.sub xo.ty) (gl_of h1) (dbg_of h2).1)) fun Dn σ H q => ?_
  obtain ⟨ρ, er, q⟩ := q
  unfold exe at q
  exact q σ H er .refl C h3 hm
/-- an except suite -/
theorem pss_hot {a : Addr} {pn : List (Addr × Obj)} (G : GoodS tb tg tx X W) : ∀ {ss : List St} {es : List Stmt}, calSs tb tg tx ss → ckH X.N X.env.scope fr ss es = true → PSs (X.suite a pn) es (tSs (cn X H0 Gp) no fr ss)
  | [], es, _, h => by
    unfold ckH at h
    cases es with
    | cons _ _ => cases h
    | nil =>
      refine pss_imp pss_nil fun Dn σ H q => ?_
      obtain ⟨ρ, er, q⟩ := q
      unfold exs at q
      exact q σ H er .refl
  | s :: ss, [], _, h => by cases s <;> (unfold ckH at h; cases h)
  | s :: ss, e :: es, hc, h => by
    have G' := Good.suite G.g a pn
    have step : ∀ {t : TS}, PS (X.suite a pn) e t → (∀ Dn σ H, tS1 (cn X H0 Gp) no fr s Dn σ H → t Dn σ H) → ckH X.N X.env.scope fr ss es = true → PSs (X.suite a pn) (e :: es) (tSs (cn X H0 Gp) no fr (s :: ss)) := fun {t} p1 i1 h2 => by
      have hc2 : calSs tb tg tx ss := by unfold calSs at hc; exact hc.2
      refine pss_imp (pss_cons p1 (pss_hot G hc2 h2)) fun Dn σ H q => ?_
      obtain ⟨ρ, er, q⟩ := q
      unfold exs at q
      refine i1 _ σ H ⟨ρ, er, ?_⟩
      cases e1 : exe ρ s with
      | nx ρ' => rw [e1] at q; exact fun σ' H' er' st => ⟨ρ', er', q.later st⟩
      | rt d => rw [e1] at q; exact q
      | rq d out => rw [e1] at q; exact q
      | bk ρ' => rw [e1] at q; exact q
      | ct ρ' => rw [e1] at q; exact q
      | exc k ρ' => rw [e1] at q; exact q
      | bad => rw [e1] at q; exact q
    have hc1 : calS tb tg tx s := by unfold calSs at hc; exact hc.1
    cases s <;> (try (unfold ckH at h; cases h; done))
    · rename_i i own x
      unfold ckH at h
      rw [Bool.and_eq_true] at h
      obtain ⟨h, h2⟩ := h
      split at h <;> (try (cases h; done))
      rename_i y py v he
      obtain ⟨p, rfl⟩ := asAsg_eq he
      simp only [Bool.and_eq_true, decide_eq_true_eq, Bool.not_eq_true'] at h
      obtain ⟨⟨⟨⟨⟨⟨h0, h1⟩, h3⟩, h4⟩, h5⟩, h6⟩, h7⟩ := h
      subst h0
      unfold calS at hc1
      exact step (ps_of_asg0 (X := X.suite a pn) (H0 := H0) (Gp := Gp) (W := no) (fr := fr) G' takesF0 G.fn (fun _ => h6) hc1 h1 h3 h4 h5 (sw_none h7 _ _ _)) (fun _ _ _ q => q) h2
    · rename_i x
      unfold ckH at h
      rw [Bool.and_eq_true] at h
      obtain ⟨h, h2⟩ := h
      split at h <;> (try (cases h; done))
      rename_i v he
      obtain ⟨p, rfl⟩ := asRet_eq he
      rw [Bool.and_eq_true, Bool.and_eq_true] at h
      obtain ⟨⟨h1, h3⟩, h4⟩ := h
      unfold calS at hc1
      exact step (ps_of_ret (X := X.suite a pn) (H0 := H0) (Gp := Gp) (W := no) G' takesF0 (fun _ => h3) hc1 h1 h4) (fun _ _ _ q => q) h2
    · unfold ckH at h
      rw [Bool.and_eq_true] at h
      obtain ⟨h, h2⟩ := h
      split at h <;> (try (cases h; done))
      rename_i he
      obtain ⟨p, rfl⟩ := asRet_eq he
      refine step ps_retN (fun Dn σ H q => ?_) h2
      obtain ⟨ρ, er, q⟩ := q
      unfold exe at q
      exact q .non H fun hq => ⟨fun a o e => er.sm a o e (by rw [hq]; exact fun z => by cases z), .non, fun _ es z => by cases z⟩
    · unfold ckH at h
      rw [Bool.and_eq_true] at h
      obtain ⟨h, h2⟩ := h
      cases e <;> (try (unfold asPas at h; cases h; done))
      refine step ps_pass (fun Dn σ H q => ?_) h2
      obtain ⟨ρ, er, q⟩ := q
      unfold exe at q
      exact q σ H er .refl
end
end OL
/-! A caught error that is kept behind its suite: it is tracked as a thing of ours. -/
namespace OL
open PySem PySem.Spec PyProof.Rows L2
/-- what the clause 'except x as n' wishes, where the error is kept -/
def wKp (K : PySem.W.Frag) (c : Value) (i : Nat) (ts : Addr → Value → TS) (Wout : WX) (D : Ends) : WX := fun cls d σ H => d = none ∧
  ∃ b, PySem.W.exmOne K cls c = some b ∧
    (b = true → ∀ a, H a = none → ts a cls ⟨fun σ1 H1 => D.nx (σ1.set i none) H1, D.rt, fun σ1 H1 => D.bk (σ1.set i none) H1, fun σ1 H1 => D.ct (σ1.set i none) H1⟩ (σ.set i (some (.ref a))) (L2.upd H a (KeO cls a))) ∧
    (b = false → Wout cls d σ H)
section
variable {X : Cx} {pins : List (Addr × Obj)} {σ : Sg} {H : Hp} {s : Shared}
theorem inv_into (I : Inv X pins σ H s) (a : Addr) : Inv (X.suite a (X.pn ++ pins)) [] σ H s :=
  { ok := I.ok.suite _ _, os := I.os, bare := I.bare, base := I.base, loc := I.loc, cell := I.cell, free := I.free, freeC := I.freeC
    pin := fun p hp => I.pin p (by simpa using hp)
    hok := I.hok, len := I.len }
theorem inv_out {a : Addr} {more : List (Addr × Obj)} (I : Inv (X.suite a (X.pn ++ pins)) more σ H s) (ok : X.Ok) : Inv X pins σ H s :=
  { ok := ok, os := I.os, bare := I.bare, base := I.base, loc := I.loc, cell := I.cell, free := I.free, freeC := I.freeC
    pin := fun p hp => I.pin p (List.mem_append_left _ hp)
    hok := I.hok, len := I.len }
end
section
variable {X : Cx} {x n : Str} {c : Value} {i : Nat} {body suite : List Stmt} {b₀ : Stmt} {np pos pos' : Pos} {tb : WX → TS} {ts : Addr → Value → TS} {Wout : WX}
theorem ps_try_keep (hs : X.stack = X.env :: X.outer) (hf : X.env.frame = some X.env.locals) (hN : X.N.Nodup) (hi : X.N[i]? = some n) (hl : X.env.kindOf n = some .local) (hc : Names X x c) (tk : Takes X Wout)
    (hb : ∀ (W : WX) (pn : List (Addr × Obj)) (xe : Value → Shared → Prop), Takes (X.tr pn xe) W → PassesOwn (model X.prog X.w) X.A X.env xe → PSs (X.tr pn xe) body (tb W))
    (hsu : ∀ (a : Addr) (cls : Value) (pn : List (Addr × Obj)), PSs (X.suite a pn) (b₀ :: suite) (ts a cls)) :
    PS X (.Try body [.ExceptHandler (some (.Name x np)) (some n) (b₀ :: suite) pos'] [] [] pos) (fun D σ H => tb (wKp X.K c i ts Wout D) D σ H) := by
  constructor
  intro pins s σ H D I want
  have ok := I.ok
  have frames : X.A.frames = some (X.env :: X.outer) := ok.frames.trans (by rw [hs])
  have thrown := hb (wKp X.K c i ts Wout D) (X.pn ++ pins)
    (fun e t1 => wpAny (model X.prog X.w) X.A (noteFrame e X.env)
      (fun _ t2 => wpAny (model X.prog X.w) X.A (setFlight e none)
        (fun _ t3 => wpAny (model X.prog X.w) X.A (handleBy e X.env [.ExceptHandler (some (.Name x np)) (some n) (b₀ :: suite) pos']) (SP X pins D) X.xe t3) X.xe t2) X.xe t1)
    ?caught PassesOwn.looking
  case caught =>
    intro u t hx
    obtain ⟨a, B, t0, ps0, σ0, H0, cls, d, rfl, I0, ground, up, sky, free, os, bare, rfl, b, hex, yes, no⟩ := hx
    have K0 : Inv X pins σ0 H0 t0 := I0.ofTry ok
    have sky0 : Sky B (X.env :: X.outer) a (Zc cls none) X.env.locals t.heap := hs ▸ sky
    show wpAny (model X.prog X.w) X.A (noteFrame (.ref a) X.env) _ _ _
    refine Sky.land Zc.steady frames hf sky0 fun h3 f3 u3 => ?_
    have K3 : Inv X pins σ0 H0 { t with heap := h3 } := K0.landed ground f3.1 (up.trans u3) os bare
    obtain ⟨o3, v3, get3, z3, dat3⟩ := f3.there
    have offStack : ∀ {h : Heap} {o : Obj} {vs : Array Value}, h.FunFrames B (X.env :: X.outer) → h.get? a = some o → o.data = .fields vs → a ∉ frs (X.env :: X.outer) := fun {h o vs} ff e1 e2 hm => by
      obtain ⟨_, o', e3, bad⟩ := ff.mem hm
      rw [e1] at e3
      cases e3
      exact bad _ e2
    have off := offStack f3.2.2.1 get3 dat3
    have offL : a ≠ X.env.locals := fun z => off (List.mem_filterMap.mpr ⟨X.env, List.mem_cons_self, by rw [hf, z]⟩)
    have offF : a ∉ X.fs := fun hm => by
      obtain ⟨en, m1, m2⟩ := List.mem_filterMap.mp hm
      exact off (List.mem_filterMap.mpr ⟨en, List.mem_cons_of_mem _ m1, m2⟩)
    have V3 := K3.suite get3 dat3 free offL offF
    refine wpAny_handleBy_cons (codeAny_handlers_test ?_) (by intro q; cases q)
    have looksT : PySem.W.Looks (model X.prog X.w) h3 (typeOf (.ref a)) cls := fun A Q E t' k q => wpAny_typeOf_ref (k _ _ get3) (by rw [z3.1]; exact q)
    have looksM := PySem.W.exm_one (M := model X.prog X.w) K3.kIn looksT hex
    have named : ∀ {Q : Value → Shared → Prop} {E : Value → Shared → Prop}, Q c { t with heap := h3 } →
        wpAny (model X.prog X.w) (X.A.mark (some (.ref a))) (eval (.Name x np) X.env) Q E { t with heap := h3 } := fun {Q E} q => by
      obtain ⟨g1, g2, g3 | ⟨g3, g4, g5⟩⟩ := hc
      · exact ld_glob (X := X.suite a ((a, o3) :: (X.pn ++ pins))) V3 g1 g3 q g2
      · exact ld_blt (X := X.suite a ((a, o3) :: (X.pn ++ pins))) V3 g1 g3 g4 q g5 g2
    refine named (looksM.here ?_)
    cases b with
    | false =>
      show wpAny _ X.A (handleBy (.ref a) X.env []) _ _ _
      refine wpAny_handleBy_nil ?_
      obtain ⟨_, _, _, ob, vs, T, oT, tt, e1, e2, e3, e4, e5⟩ := id f3
      unfold PySem.passOn
      refine wpAny_bind (wpAny_field e1 e3 e4 ?_)
      rw [if_neg (show ¬ ((Value.ref T == Value.none) = true) from by simp)]
      have pass : wpAny (model X.prog X.w) X.A (setFlight (.ref a) X.env.frame)
          (fun _ t4 => wpAny (model X.prog X.w) X.A (throw (.ref a) : Sem Flow) (SP X pins D) X.xe t4) X.xe { t with heap := h3 } := by
        rw [hf]
        refine HandSPX.setFlight_upZ f3 fun h4 f4 u4 => wpAny_throw (tk _ _ ?_)
        exact ⟨a, B, t0, pins, σ0, H0, cls, none, rfl, K0, ground, (up.trans u3).trans u4, .inr (.inr (hs ▸ f4)), free, os, bare, no rfl⟩
      first
        | exact wpAny_bind (wpAny_pure (wpAny_bind pass))
        | exact wpAny_bind pass
    | true =>
      refine codeAny_handlers_suite_as ?_
      refine HandSPX.lands_againZ f3 fun h4 f4 u4 => ?_
      obtain ⟨o4, v4, get4, z4, dat4⟩ := f4.there
      obtain ⟨G, g1, g2⟩ := restrict h4 fun b => decide (b ≠ a)
      have ga : G.get? a = none := g2 a (decide_eq_false fun z => z rfl)
      have gb : ∀ b, b ≠ a → G.get? b = h4.get? b := fun b hb => g1 b (decide_eq_true hb)
      have Ba : B.get? a = none := f4.2.1
      have t0a : t0.heap.get? a = none := by
        cases q : t0.heap.get? a with
        | none => rfl
        | some o =>
          have z := ground a o q (by rw [hs]; exact off)
          rw [Ba] at z
          cases z
      have KG : Inv X pins σ0 H0 { t with heap := G } := K0.landed ground
        (fun b o e => by
          have nb : b ≠ a := fun z => by rw [z, Ba] at e; cases e
          show G.get? b = some o
          rw [gb b nb]
          exact f4.1 b o e)
        (fun b o => by
          intro e
          have nb : b ≠ a := fun z => by rw [z, t0a] at e; cases e
          show _ → ∃ sl, G.get? b = _
          rw [gb b nb]
          exact ((up.trans u3).trans u4) b o e) os bare
      have KT : Inv X pins σ0 (L2.upd H0 a (KeO cls a)) { t with heap := h4 } := KG.laidN (h' := h4) (t' := t.toks)
        (fun b o e => by
          have nb : b ≠ a := fun z => by rw [z] at e; exact absurd (show G.get? a = some o from e) (by rw [ga]; exact fun z => by cases z)
          rw [← gb b nb]
          exact e) ga free
        ⟨⟨o4, v4, get4, z4, dat4⟩, ⟨o4, get4⟩, fun h1 h2 ⟨ob, fs, e1, e2, e3⟩ k => ⟨ob, fs, k _ e1, e2, e3⟩⟩
      have VT := inv_into KT a
      refine store_ok (X := X.suite a (X.pn ++ pins)) (v := .ref a) VT hN hi (.inl hl) rfl (fun s5 S5 => ?_) (.inr hl)
      refine wpAny_mono ((hsu a cls (X.pn ++ pins)).run [] s5 _ _ _ S5 (yes rfl a free)) (fun f s6 done => ?_) (fun _ _ z => False.elim z)
      have leave : ∀ {σ6 : Sg} {H6 : Hp} {Q : Shared → Prop}, Inv (X.suite a (X.pn ++ pins)) [] σ6 H6 s6 → (∀ s7, Inv X pins (σ6.set i none) H6 s7 → Q s7) →
          wpAny (model X.prog X.w) X.A (do bindName X.env n .none; unbindBehindTheSuite X.env n pos') (fun _ s7 => Q s7) X.xe s6 := fun {σ6 H6 Q} S6 hq => gone_ok (inv_out S6 ok) hN hi hl hq
      cases f with
      | next => obtain ⟨σ6, H6, S6, q6⟩ := done; exact leave S6 fun s7 J7 => ⟨_, _, J7, q6⟩
      | brk => obtain ⟨σ6, H6, S6, q6⟩ := done; exact leave S6 fun s7 J7 => ⟨_, _, J7, q6⟩
      | cont => obtain ⟨σ6, H6, S6, q6⟩ := done; exact leave S6 fun s7 J7 => ⟨_, _, J7, q6⟩
      | ret u => obtain ⟨v6, σ6, H6, S6, r6, q6⟩ := done; exact leave S6 fun s7 J7 => ⟨_, _, _, J7, r6, q6⟩
  refine wpAny_Try_except (wpAny_mono (thrown.run [] s σ H D (I.toTry _) want) (fun f t done => ?_) fun _ _ z => z)
  cases f with
  | next => obtain ⟨σ1, H1, J1, q1⟩ := done; exact wpAny_execs_nil ⟨σ1, H1, J1.ofTry ok, q1⟩
  | brk => obtain ⟨σ1, H1, J1, q1⟩ := done; exact ⟨σ1, H1, J1.ofTry ok, q1⟩
  | cont => obtain ⟨σ1, H1, J1, q1⟩ := done; exact ⟨σ1, H1, J1.ofTry ok, q1⟩
  | ret u => obtain ⟨v1, σ1, H1, J1, r1, q1⟩ := done; exact ⟨v1, σ1, H1, J1.ofTry ok, r1, q1⟩
end
/-! ### the statement -/
theorem sw_par3 {x y z : Str} {a b c : Expr} {px py pz pt pt2 : Pos} {kt k2 : Nat} {env : Env} (hk : env.scope.kind = .function) (hx : env.scope.names.lookup x = some .local) (hy : env.scope.names.lookup y = some .local) (hz : env.scope.names.lookup z = some .local) (hl : (py.line == px.line) = true) (hl2 : (pz.line == px.line) = true)
    (hxy : (x == y) = false) (hxz : (x == z) = false) (hyz : (y == z) = false) (sa : noStar a = true) (sb : noStar b = true) (sc : noStar c = true) (hf : [a, b, c].all (foldedForSure 8) = false) (hc : [a, b, c].all (constantsAlone 8) = false) :
    swappedStores [.Tuple [.Name x px, .Name y py, .Name z pz] kt pt] (.Tuple [a, b, c] k2 pt2) env = pure (some [x, y, z]) := by
  have kx : env.kindOf x = some .local := hx
  have ky : env.kindOf y = some .local := hy
  have kz : env.kindOf z = some .local := hz
  have hb : env.blockKind = .function := by unfold Env.blockKind; rw [hk]; rfl
  have flip : ∀ {u v : Str}, (u == v) = false → (v == u) = false := fun {u v} h => by
    rw [beq_eq_false_iff_ne] at h ⊢
    exact fun z => h z.symm
  have f1 := flip hxy
  have f2 := flip hxz
  have f3 := flip hyz
  unfold swappedStores
  simp [hb, kx, ky, kz, hf, hc, Expr.pos, hl, hl2, List.filterMap, List.eraseDups, List.eraseDupsBy, List.eraseDupsBy.loop, hxy, hxz, hyz, f1, f2, f3]
  intro h
  exfalso
  rcases h with h | h | h
  · cases a <;> first | (cases h; done) | (cases sa; done)
  · cases b <;> first | (cases h; done) | (cases sb; done)
  · cases c <;> first | (cases h; done) | (cases sc; done)
section
variable {X : Cx} {H0 : Hp} {Gp : GQ} {W : WX} {tb : Fn → Prop} {tg : String → D → Prop} {tx : String → Prop} {fr : Bool}
theorem ps_of_par3 (G : GoodS tb tg tx X W) {i j l : Nat} {x y z : Ex} {s : Stmt} (hc : cal tb tg x ∧ cal tb tg y ∧ cal tb tg z) (h : ckS X.N X.env.scope fr (.par3 i j l x y z) s = true) : PS X s (tS1 (cn X H0 Gp) W fr (.par3 i j l x y z)) := by
  unfold ckS at h
  split at h <;> (try (cases h; done))
  rename_i a pa b pb c pc e f g he
  obtain ⟨k, q0, k2, q2, p, rfl⟩ := asPar3_eq he
  simp only [Bool.and_eq_true, decide_eq_true_eq, Bool.not_eq_true'] at h
  obtain ⟨⟨⟨⟨⟨⟨⟨⟨⟨⟨⟨⟨⟨⟨⟨⟨⟨⟨⟨⟨⟨⟨⟨⟨h1, h2⟩, h3⟩, hij⟩, hil⟩, hjl⟩, la⟩, lb⟩, lc⟩, l1⟩, l2⟩, n1⟩, n2⟩, n3⟩, s1⟩, s2⟩, s3⟩, f1⟩, f2⟩, c1⟩, c2⟩, c3⟩, b1⟩, b2⟩, b3⟩ := h
  have px := (snd x).1.pe (H0 := H0) (Gp := Gp) G.g G.tkf (fun z => by cases z) hc.1 c1
  have py := (snd y).1.pe (H0 := H0) (Gp := Gp) G.g G.tkf (fun z => by cases z) hc.2.1 c2
  have pz := (snd z).1.pe (H0 := H0) (Gp := Gp) G.g G.tkf (fun z => by cases z) hc.2.2 c3
  refine ps_imp (ps_par3 (G.g.calm rfl) G.g.nd h1 h2 h3 hij hil hjl (isLoc_of la) (isLoc_of lb) (isLoc_of lc) (pa_cons px (pa_cons py (pa_cons pz pa_nil (star_of s3 [] X.env)) (star_of s2 _ X.env)) (star_of s1 _ X.env))
    (sw_par3 G.kd (isLoc_of la) (isLoc_of lb) (isLoc_of lc) l1 l2 n1 n2 n3 s1 s2 s3 f1 f2) (sw_tupT _ _)) fun Dn σ H q => ?_
  obtain ⟨ρ, er, q⟩ := q
  unfold exe at q
  refine of_ok er q fun d v H1 e po er1 q1 => ?_
  refine of_ok er1 q1 fun d2 v2 H2 e2 po2 er2 q2 => ?_
  refine of_ok er2 q2 fun d3 v3 H3 e3 po3 er3 q3 => ?_
  have q4 : oA (cn X H0 Gp) W fr σ ρ H3 Dn (if i < ρ.length ∧ j < ρ.length ∧ l < ρ.length then .nx (((ρ.set i (.v d)).set j (.v d2)).set l (.v d3)) else .bad) := q3
  split at q4
  · rename_i hlt
    have t1 := er3.set (i := i) (((po.rp b1).same po2.same).same po3.same) hlt.1
    have wk : ∀ a, Zf (cn X H0 Gp) σ ρ a → Zf (cn X H0 Gp) (σ.set i (some v)) (ρ.set i (.v d)) a := fun a z => ⟨z.1, fun w => z.2 (own_set w)⟩
    have t2 := t1.set (i := j) (((po2.rp b2).same po3.same).weak fun a _ _ z => wk a z) (by rw [List.length_set]; exact hlt.2.1)
    have wk2 : ∀ a, Zf (cn X H0 Gp) σ ρ a → Zf (cn X H0 Gp) ((σ.set i (some v)).set j (some v2)) ((ρ.set i (.v d)).set j (.v d2)) a := fun a z => ⟨z.1, fun w => z.2 (own_set (own_set w))⟩
    have t3 := t2.set (i := l) ((po3.rp b3).weak fun a _ _ z => wk2 a z) (by rw [List.length_set, List.length_set]; exact hlt.2.2)
    exact ⟨v, v2, v3, rfl, q4 _ _ t3 fun a o e n _ => ⟨e, fun w => n (own_set (own_set (own_set w)))⟩⟩
  · exact q4.elim
end
end OL
/-! Statements whose expressions change lists. -/
namespace OL
open PySem PySem.Spec PyProof.Rows L2
theorem of_okF {c : Cn} {W : WX} {fr : Bool} {σ : Sg} {ρ : En} {H : Hp} {Dn : Ends} {x : Fx} {f : D → En → O} {Q : VK} (er : ER c H σ ρ) (q : oA c W fr σ ρ H Dn (.ofx ρ (evx ρ x) f))
    (k : ∀ d ρ' v H', evx ρ x = .ok (d, ρ') → PoX c σ ρ x H H' (d, ρ') v → oA c W fr σ ρ' H' Dn (f d ρ') → oA c W fr σ ρ H Dn (f d ρ') → Q v H') : tFX c W x σ H Q := by
  refine ⟨ρ, er, ?_⟩
  cases e : evx ρ x with
  | ok p =>
    rw [e] at q
    exact fun v H' po => k p.1 p.2 v H' e po (oA.later po.st q) q
  | exc k => rw [e] at q; exact fun H' er' st => q σ H' er' st
  | bad => rw [e] at q; exact q.elim
theorem stb_set {c : Cn} {σ : Sg} {ρ : En} {H : Hp} {i : Nat} {v : Option V} {d : D} : Stb c σ ρ H (σ.set i v) (ρ.set i (.v d)) H := fun _ _ e n _ => ⟨e, fun w => n (own_set w)⟩
theorem asgF_read {c : Cn} {W : WX} {fr : Bool} {i : Nat} {own : Bool} {x : Fx} (hfr : own = true → frf x = true) {Dn : Ends} {σ : Sg} {H : Hp} (q : tS1 c W fr (.asgF i own x) Dn σ H) : tFX c W x σ H fun v H' => gName i v σ H' Dn.nx := by
  obtain ⟨ρ, er, q⟩ := q
  unfold exe at q
  refine of_okF er q fun d ρ' v H' e po q1 q2 => ?_
  cases own with
  | false =>
    replace q1 : oA c W fr σ ρ' H' Dn (setS ρ' i (.v d)) := q1
    unfold setS at q1
    split at q1
    · rename_i hlt
      exact q1 _ _ (po.er.set po.rp hlt) stb_set
    · exact q1.elim
  | true =>
    cases d with
    | lst ds =>
      replace q2 : oA c W fr σ ρ H Dn (setS ρ' i (.o ds)) := q2
      unfold setS at q2
      split at q2
      · rename_i hlt
        obtain ⟨a, xs, rfl, f1, f2, erA, r⟩ := po.fr (hfr rfl) _ rfl
        refine q2 _ _ (erA.setO2 po.er.nw (er.nw a f1) (er.dm a f1) f2 r hlt) fun b o e n m => ?_
        obtain ⟨z1, z2⟩ := po.st b o e n m
        refine ⟨z1, fun w => ?_⟩
        rcases own_setO w with z | z
        · subst z; rw [f1] at e; cases e
        · exact z2 z
      · exact q2.elim
    | _ => exact False.elim q1
section
variable {X : Cx} {H0 : Hp} {Gp : GQ} {W : WX} {tb : Fn → Prop} {tg : String → D → Prop} {tx : String → Prop} {fr : Bool}
theorem ps_of_asgF (G : GoodS tb tg tx X W) {i : Nat} {own : Bool} {x : Fx} {s : Stmt} (hc : calF tb tg x) (h : ckS X.N X.env.scope fr (.asgF i own x) s = true) : PS X s (tS1 (cn X H0 Gp) W fr (.asgF i own x)) := by
  unfold ckS at h
  split at h <;> (try (cases h; done))
  rename_i y py v he
  obtain ⟨p, rfl⟩ := asAsg_eq he
  simp only [Bool.and_eq_true, decide_eq_true_eq, Bool.or_eq_true, Bool.not_eq_true'] at h
  obtain ⟨⟨⟨⟨⟨h1, h2⟩, h3⟩, h5⟩, h6⟩, h7⟩ := h
  have hfr : own = true → frf x = true := fun z => h5.resolve_left (by rw [z]; decide)
  have px := (sndF x).pe (H0 := H0) (Gp := Gp) G.g G.tkf hc h3
  have main : PS X (.Assign [.Name y py] v p) (tAsg (tFX (cn X H0 Gp) W x) (gName i)) := by
    by_cases hn : noComp v = true
    · exact ps_set G.g.nd h1 (loc_of h2) px (sw_none hn _ _ _) (.inl (G.fn y))
    · cases v <;> (try (exact absurd rfl hn)) <;> (try (unfold lcSt noComp at h6; cases h6; done))
      rename_i a gs scope vp
      replace h6 : (match X.env.scope.names.lookup y with
        | some .local => (py.line == vp.line) && !(scope.names.any fun (n, k) => n == y && (k == .local || k == .cell))
        | some .cell => true
        | _ => false) = true := h6
      split at h6
      · rename_i hloc
        rw [Bool.and_eq_true, Bool.not_eq_true'] at h6
        cases x with
        | lc elt tgt it =>
          obtain ⟨a', t, ii, scope', p', e, k1, k2, k3, k6, k7, k8⟩ := ckF_lc h3
          cases e
          unfold calF at hc
          obtain ⟨pi, bk, pg, pt, pl, fs, imp⟩ := lcF_all (H0 := H0) (Gp := Gp) (p := p) (sndF elt) (sndFR it) G.g G.tkf hc k1 k2 k3 k6 k7 k8
          exact ps_imp (ps_setLc (G.g.calm rfl) G.g.nd h1 hloc (sw_true G.kd hloc h6.1 h6.2) pi bk pg pt pl fs) fun Dn σ H q => imp σ H _ q
        | p x =>
          cases h7
        | _ => unfold ckF at h3; cases h3
      · rename_i hcell
        exact ps_set G.g.nd h1 (loc_of h2) px (sw_cell hcell) (.inl (G.fn y))
      · cases h6
  exact ps_imp main fun Dn σ H q => asgF_read hfr q
theorem ps_of_appF (G : GoodS tb tg tx X W) {i : Nat} {x : Fx} {s : Stmt} (hc : calF tb tg x) (h : ckS X.N X.env.scope fr (.appF i x) s = true) : PS X s (tS1 (cn X H0 Gp) W fr (.appF i x)) := by
  unfold ckS at h
  split at h <;> (try (cases h; done))
  rename_i y a ap v cp he
  obtain ⟨q0, p, rfl⟩ := asMeth_eq he
  simp only [Bool.and_eq_true, decide_eq_true_eq, beq_iff_eq] at h
  obtain ⟨⟨⟨⟨⟨⟨h1, h2⟩, h3⟩, rfl⟩, h5⟩, h6⟩, h7⟩ := h
  have px := (sndF x).pe (H0 := H0) (Gp := Gp) G.g G.tkf hc h7
  obtain ⟨d1, d2, _⟩ := dbg_of h3
  have hst : starEach [v] X.env = (false, eval v X.env) :: starEach [] X.env := star_of h6 [] X.env
  refine ps_imp (ps_expr (pe_bm PySem.F.plainAttrs_list PySem.F.slot_list_append PySem.F.type_list_append mt_append (pe_var h1 (vis_of h2) d1 d2) (pa_cons px pa_nil hst) rfl (by rw [hst]; rfl) (by rw [beq_iff_eq]; exact h5) hst rfl) rfl) fun Dn σ H q => ?_
  obtain ⟨ρ, er, q⟩ := q
  unfold exe at q
  obtain ⟨ds0, hd0, q⟩ := ownL_some q
  obtain ⟨p0, xs0, f1, f2, f3, r0⟩ := er.lst i ds0 hd0
  refine ⟨_, f1, .inl ⟨rfl, _, SqL.of f2⟩, of_okF er q fun d ρ' v H' e po q1 _ => ?_⟩
  obtain ⟨ds, hd, q1⟩ := ownL_some q1
  obtain ⟨p1, xs, g1, g2, g3, r⟩ := po.er.lst i ds hd
  have g1' : σ[i]? = some (some (V.ref p1)) := g1
  rw [f1] at g1'; cases g1'
  split at q1
  · rename_i hl
    exact ⟨p0, xs, v, rfl, rfl, g2, by rw [line_eq, ← r.length]; exact hl, q1 _ _ (po.er.upd hd f1 g2 (r.append (.cons po.rp .nil))) (stb_upd hd f1)⟩
  · exact q1.elim
theorem ps_of_extF (G : GoodS tb tg tx X W) {i : Nat} {x : Fx} {s : Stmt} (hc : calF tb tg x) (h : ckS X.N X.env.scope fr (.extF i x) s = true) : PS X s (tS1 (cn X H0 Gp) W fr (.extF i x)) := by
  unfold ckS at h
  split at h <;> (try (cases h; done))
  rename_i y a ap v cp he
  obtain ⟨q0, p, rfl⟩ := asMeth_eq he
  simp only [Bool.and_eq_true, decide_eq_true_eq, beq_iff_eq] at h
  obtain ⟨⟨⟨⟨⟨⟨h1, h2⟩, h3⟩, rfl⟩, h5⟩, h6⟩, h7⟩ := h
  have px := (sndF x).pe (H0 := H0) (Gp := Gp) G.g G.tkf hc h7
  obtain ⟨d1, d2, _⟩ := dbg_of h3
  have hst : starEach [v] X.env = (false, eval v X.env) :: starEach [] X.env := star_of h6 [] X.env
  refine ps_imp (ps_expr (pe_bm PySem.F.plainAttrs_list PySem.F.slot_list_extend PySem.F.type_list_extend mt_extend (pe_var h1 (vis_of h2) d1 d2) (pa_cons px pa_nil hst) rfl (by rw [hst]; rfl) (by rw [beq_iff_eq]; exact h5) hst rfl) rfl) fun Dn σ H q => ?_
  obtain ⟨ρ, er, q⟩ := q
  unfold exe at q
  obtain ⟨ds0, hd0, q⟩ := ownL_some q
  obtain ⟨p0, xs0, f1, f2, f3, r0⟩ := er.lst i ds0 hd0
  refine ⟨_, f1, .inl ⟨rfl, _, SqL.of f2⟩, of_okF er q fun d ρ' v H' e po q1 _ => ?_⟩
  obtain ⟨ds, hd, q1⟩ := ownL_some q1
  obtain ⟨p1, xs, g1, g2, g3, r⟩ := po.er.lst i ds hd
  have g1' : σ[i]? = some (some (V.ref p1)) := g1
  rw [f1] at g1'; cases g1'
  have hd1 : ∃ es, d = .lst es := by cases d <;> first | exact ⟨_, rfl⟩ | exact False.elim q1
  obtain ⟨es, rfl⟩ := hd1
  replace q1 : oA (cn X H0 Gp) W fr σ ρ' H' Dn (if ds.length + es.length ≤ 16777216 then .nx (ρ'.set i (.o (ds ++ es))) else .bad) := q1
  split at q1
  · rename_i hl
    obtain ⟨b, zs, rfl, e2, r2⟩ := (Rb.p po.rp).lst
    exact ⟨p0, b, xs, zs, rfl, rfl, g2, e2, by rw [line_eq, ← r.length, ← r2.length]; exact hl, q1 _ _ (po.er.upd hd f1 g2 (r.append r2)) (stb_upd hd f1)⟩
  · exact q1.elim
theorem ps_of_popF (G : GoodS tb tg tx X W) {i : Nat} {x : Fx} {s : Stmt} (hc : calF tb tg x) (h : ckS X.N X.env.scope fr (.popF i x) s = true) : PS X s (tS1 (cn X H0 Gp) W fr (.popF i x)) := by
  unfold ckS at h
  split at h <;> (try (cases h; done))
  rename_i y a ap v cp he
  obtain ⟨q0, p, rfl⟩ := asMeth_eq he
  simp only [Bool.and_eq_true, decide_eq_true_eq, beq_iff_eq] at h
  obtain ⟨⟨⟨⟨⟨⟨h1, h2⟩, h3⟩, rfl⟩, h5⟩, h6⟩, h7⟩ := h
  have px := (sndF x).pe (H0 := H0) (Gp := Gp) G.g G.tkf hc h7
  obtain ⟨d1, d2, _⟩ := dbg_of h3
  have hst : starEach [v] X.env = (false, eval v X.env) :: starEach [] X.env := star_of h6 [] X.env
  refine ps_imp (ps_expr (pe_bm PySem.F.plainAttrs_list PySem.F.slot_list_pop PySem.F.type_list_pop mt_popAt (pe_var h1 (vis_of h2) d1 d2) (pa_cons px pa_nil hst) rfl (by rw [hst]; rfl) (by rw [beq_iff_eq]; exact h5) hst rfl) rfl) fun Dn σ H q => ?_
  obtain ⟨ρ, er, q⟩ := q
  unfold exe at q
  obtain ⟨ds0, hd0, q⟩ := ownL_some q
  obtain ⟨p0, xs0, f1, f2, f3, r0⟩ := er.lst i ds0 hd0
  refine ⟨_, f1, .inl ⟨rfl, _, SqL.of f2⟩, of_okF er q fun d ρ' v H' e po q1 _ => ?_⟩
  obtain ⟨ds, hd, q1⟩ := ownL_some q1
  obtain ⟨p1, xs, g1, g2, g3, r⟩ := po.er.lst i ds hd
  have g1' : σ[i]? = some (some (V.ref p1)) := g1
  rw [f1] at g1'; cases g1'
  have hd1 : ∃ k, d = .int k := by cases d <;> first | exact ⟨_, rfl⟩ | exact False.elim q1
  obtain ⟨k, rfl⟩ := hd1
  replace q1 : oA (cn X H0 Gp) W fr σ ρ' H' Dn (if 0 ≤ k ∧ k < ds.length ∧ k < 2 ^ 63 then .nx (ρ'.set i (.o (ds.eraseIdx k.toNat))) else .bad) := q1
  split at q1
  · rename_i hl
    cases (Rb.p po.rp).int
    have hk : k.toNat < xs.length := by rw [← r.length]; omega
    refine ⟨p0, xs, k, k.toNat, xs[k.toNat], rfl, rfl, g2, by omega, hl.2.2, ?_, List.getElem?_eq_getElem hk, q1 _ _ (po.er.upd hd f1 g2 (r.eraseIdx _)) (stb_upd hd f1)⟩
    unfold seqIndex?
    have h1 : ¬ k < 0 := by omega
    have h2 : k < (xs.length : Int) := by rw [← r.length]; exact hl.2.1
    simp [h1, h2, hl.1]
  · exact q1.elim
theorem ps_of_insF (G : GoodS tb tg tx X W) {i : Nat} {k x : Fx} {s : Stmt} (hc : calF tb tg k ∧ calF tb tg x) (h : ckS X.N X.env.scope fr (.insF i k x) s = true) : PS X s (tS1 (cn X H0 Gp) W fr (.insF i k x)) := by
  unfold ckS at h
  split at h <;> (try (cases h; done))
  rename_i y a ap u v cp he
  obtain ⟨q0, p, rfl⟩ := asMeth_eq he
  simp only [Bool.and_eq_true, decide_eq_true_eq, beq_iff_eq] at h
  obtain ⟨⟨⟨⟨⟨⟨⟨⟨h1, h2⟩, h3⟩, rfl⟩, h5⟩, h6⟩, h7⟩, h8⟩, h9⟩ := h
  have pk := (sndF k).pe (H0 := H0) (Gp := Gp) G.g G.tkf hc.1 h8
  have px := (sndF x).pe (H0 := H0) (Gp := Gp) G.g G.tkf hc.2 h9
  obtain ⟨d1, d2, _⟩ := dbg_of h3
  have hs1 : starEach [v] X.env = (false, eval v X.env) :: starEach [] X.env := star_of h7 [] X.env
  have hst : starEach [u, v] X.env = (false, eval u X.env) :: starEach [v] X.env := star_of h6 [v] X.env
  refine ps_imp (ps_expr (pe_bm PySem.F.plainAttrs_list PySem.F.slot_list_insert PySem.F.type_list_insert mt_insert (pe_var h1 (vis_of h2) d1 d2) (pa_cons pk (pa_cons px pa_nil hs1) hst) rfl (by rw [hst, hs1]; rfl) (by rw [beq_iff_eq]; exact h5) hst (by rw [hs1]; rfl)) rfl) fun Dn σ H q => ?_
  obtain ⟨ρ, er, q⟩ := q
  unfold exe at q
  obtain ⟨ds0, hd0, q⟩ := ownL_some q
  obtain ⟨p0, xs0, f1, f2, f3, r0⟩ := er.lst i ds0 hd0
  refine ⟨_, f1, .inl ⟨rfl, _, SqL.of f2⟩, of_okF er q fun kd ρ1 kv H1 e1 po1 q1 _ => of_okF po1.er q1 fun d ρ' v H' e po q2 _ => ?_⟩
  obtain ⟨ds, hd, q2⟩ := ownL_some q2
  obtain ⟨p1, xs, g1, g2, g3, r⟩ := po.er.lst i ds hd
  have g1' : σ[i]? = some (some (V.ref p1)) := g1
  rw [f1] at g1'; cases g1'
  have hd1 : ∃ k, kd = .int k := by cases kd <;> first | exact ⟨_, rfl⟩ | exact False.elim q2
  obtain ⟨k, rfl⟩ := hd1
  replace q2 : oA (cn X H0 Gp) W fr σ ρ' H' Dn (if ds.length < 16777216 ∧ 0 ≤ k ∧ k < 2 ^ 63 then .nx (ρ'.set i (.o (ds.take k.toNat ++ [d] ++ ds.drop k.toNat))) else .bad) := q2
  split at q2
  · rename_i hl
    cases (Rb.p po1.rp).int
    exact ⟨p0, xs, k, v, rfl, rfl, g2, by rw [line_eq, ← r.length]; exact hl.1, hl.2.1, hl.2.2, q2 _ _ (po.er.upd hd f1 g2 (((r.take _).append (.cons po.rp .nil)).append (r.drop _))) (stb_upd hd f1)⟩
  · exact q2.elim
theorem ps_of_expF (G : GoodS tb tg tx X W) {x : Fx} {s : Stmt} (hc : calF tb tg x) (h : ckS X.N X.env.scope fr (.expF x) s = true) : PS X s (tS1 (cn X H0 Gp) W fr (.expF x)) := by
  unfold ckS at h
  split at h <;> (try (cases h; done))
  rename_i v he
  obtain ⟨p, rfl⟩ := asExp_eq he
  rw [Bool.and_eq_true] at h
  refine ps_imp (ps_expr ((sndF x).pe (H0 := H0) (Gp := Gp) G.g G.tkf hc h.1) (sw_none h.2 _ _ _)) fun Dn σ H q => ?_
  obtain ⟨ρ, er, q⟩ := q
  unfold exe at q
  exact of_okF er q fun d ρ' v H' e po q1 _ => q1 σ H' po.er .refl
theorem ps_of_retF (G : GoodS tb tg tx X W) {x : Fx} {s : Stmt} (hc : calF tb tg x) (h : ckS X.N X.env.scope fr (.retF x) s = true) : PS X s (tS1 (cn X H0 Gp) W fr (.retF x)) := by
  unfold ckS at h
  split at h <;> (try (cases h; done))
  rename_i v he
  obtain ⟨p, rfl⟩ := asRet_eq he
  rw [Bool.and_eq_true, Bool.or_eq_true] at h
  refine ps_imp (ps_ret ((sndF x).pe (H0 := H0) (Gp := Gp) G.g G.tkf hc h.1)) fun Dn σ H q => ?_
  obtain ⟨ρ, er, q⟩ := q
  unfold exe at q
  refine of_okF er q fun d ρ' v H' e po q1 _ => q1 v H' fun hq => ⟨fun a o e => po.er.sm a o e (by rw [hq]; exact fun z => by cases z), po.rp.weak fun _ _ _ z => z.1, fun f es z => ?_⟩
  have hf : frf x = true := h.2.resolve_left (by rw [f]; decide)
  obtain ⟨a, xs, k1, k2, k3, _, k5⟩ := po.fr hf es z
  exact ⟨a, xs, k1, er.dm a k2, k3, k5.weak fun b _ _ z => ⟨z.1.1, z.2⟩⟩
theorem ps_of_unpF (G : GoodS tb tg tx X W) {ts : List Tg} {x : Fx} {s : Stmt} (hc : calF tb tg x) (h : ckS X.N X.env.scope fr (.unpF ts x) s = true) : PS X s (tS1 (cn X H0 Gp) W fr (.unpF ts x)) := by
  unfold ckS at h
  split at h <;> (try (cases h; done))
  rename_i es v he
  obtain ⟨k, q0, p, rfl⟩ := asUnp_eq he
  simp only [Bool.and_eq_true] at h
  obtain ⟨⟨h1, h2⟩, h4⟩ := h
  have px := (sndF x).pe (H0 := H0) (Gp := Gp) G.g G.tkf hc h2
  have pg := pg_of (t := .tp ts) (e := .Tuple es k q0) G.g.nd (G.g.calm rfl) (cel := true) (fun _ => G.fn) (by unfold ckG; exact h1)
  refine ps_imp (ps_asg px pg (sw_tupT _ _) (sw_some h4)) fun Dn σ H q => ?_
  obtain ⟨ρ, er, q⟩ := q
  unfold exe at q
  refine of_okF er q fun d ρ1 v H' e po q' _ => ?_
  cases e2 : setT (.tp ts) d ρ1 with
  | ok ρ' =>
    rw [e2] at q'
    exact gOf_ok (c := cn X H0 Gp) po.er po.rp e2 fun σ' er2 ow sl ln => q' σ' H' er2 fun a o e n _ => ⟨e, fun w => n (ow a w)⟩
  | exc k => exact absurd e2 setT_exc
  | bad => rw [e2] at q'; exact q'.elim
theorem ps_of_stiF (G : GoodS tb tg tx X W) {i : Nat} {k : Ex} {x : Fx} {s : Stmt} (hc : cal tb tg k ∧ calF tb tg x) (h : ckS X.N X.env.scope fr (.stiF i k x) s = true) : PS X s (tS1 (cn X H0 Gp) W fr (.stiF i k x)) := by
  unfold ckS at h
  split at h <;> (try (cases h; done))
  rename_i y ix v he
  obtain ⟨q0, q1, p, rfl⟩ := asSti_eq he
  simp only [Bool.and_eq_true, decide_eq_true_eq] at h
  obtain ⟨⟨⟨⟨⟨⟨h1, h2⟩, h3⟩, h4⟩, h5⟩, h7⟩, h8⟩ := h
  obtain ⟨d1, d2, _⟩ := dbg_of h3
  have px := (sndF x).pe (H0 := H0) (Gp := Gp) G.g G.tkf hc.2 h5
  have pk := (snd k).1.pe (H0 := H0) (Gp := Gp) G.g G.tkf (fun z => by cases z) hc.1 h4
  refine ps_imp (ps_asg px (pg_sub (pe_var h1 (vis_of h2) d1 d2) pk set_list (by intro v; cases ix <;> first | rfl | cases h8)) (by cases v <;> first | rfl | cases h7) (by cases v <;> rfl)) fun Dn σ H q => ?_
  obtain ⟨ρ, er, q⟩ := q
  unfold exe at q
  refine of_okF er q fun d ρ' v H1 e po q1 _ => ?_
  obtain ⟨ds, hd, q1⟩ := ownL_some q1
  obtain ⟨p0, xs, f1, f2, f3, r⟩ := po.er.lst i ds hd
  refine ⟨_, f1, of_ok po.er q1 fun kd kv H2 e2 po2 er2 q2 => ?_⟩
  have hd1 : ∃ k, kd = .int k := by cases kd <;> first | exact ⟨_, rfl⟩ | exact False.elim q2
  obtain ⟨k, rfl⟩ := hd1
  cases po2.rb.int
  have q3 : oA (cn X H0 Gp) W fr σ ρ' H2 Dn (match ixN ds.length k with | some j => .nx (ρ'.set i (.o (ds.set j d))) | none => .bad) := q2
  split at q3
  · rename_i j hj
    have r2 := (r.same po2.same).set (po.rp.same po2.same) j
    exact ⟨p0, xs, k, j, rfl, rfl, po2.same _ _ f2, by rw [← r.length]; exact hj, q3 _ _ (er2.upd hd f1 (po2.same _ _ f2) r2) (stb_upd hd f1)⟩
  · exact q3.elim
/-- the caller's list is handed back -/
theorem retQ_of {c : Cn} {W : WX} {σ : Sg} {ρ : En} {H : Hp} {d : D} {v : V} {Dn : Ends} (er : ER c H σ ρ) (r : Rp c.K c.mg H (Zf c σ ρ) d v)
    (hf : fr = true → ∀ es, d = .lst es → ∃ a xs, v = .ref a ∧ c.H0 a = none ∧ H a = some (.lst xs) ∧ RpA c.K c.mg H (fun b => c.Gp b ∧ b ≠ a) es xs ∧ (∀ out ys q, ρ[(0 : Nat)]? = some (.q out) → c.Qa = some q → H q = some (.lst ys) → RpA c.K c.mg H (fun b => c.Gp b ∧ b ≠ a) out ys))
    {σ1 : Sg} {ρ1 : En} {H1 : Hp} (q : oA c W fr σ1 ρ1 H1 Dn (qret ρ d)) : Dn.rt v H := by
  unfold qret at q
  split at q
  · rename_i out hq
    obtain ⟨_, a, ys, e1, e2, e3, ro⟩ := er.lsq 0 out hq
    refine q v H ⟨a, ys, e2, fun b o e n => er.sm b o e fun z => ?_, e3, ro.weak fun _ _ _ z => z.1, r.weak fun _ _ _ z => z.1, fun f es z => ?_⟩
    · rw [e2] at z; cases z; exact n rfl
    · obtain ⟨a', xs, k1, k2, k3, k4, k5⟩ := hf f es z
      exact ⟨a', xs, k1, k2, k3, k4, k5 out ys a hq e2 e3⟩
  · exact q.elim
theorem ps_of_retQ (G : GoodS tb tg tx X W) {x : Fx} {s : Stmt} (hc : calF tb tg x) (h : ckS X.N X.env.scope fr (.retQ x) s = true) : PS X s (tS1 (cn X H0 Gp) W fr (.retQ x)) := by
  unfold ckS at h
  split at h <;> (try (cases h; done))
  rename_i v he
  obtain ⟨p, rfl⟩ := asRet_eq he
  cases hb : borF x with
  | some j =>
    have hx : x = .p (.bor j) := by
      unfold borF at hb
      split at hb <;> cases hb
      rfl
    subst hx
    rw [hb] at h
    rw [Bool.and_eq_true, decide_eq_true_eq] at h
    obtain ⟨n, q, rfl, h1, h2, h3⟩ := ck_bor h.1
    obtain ⟨d1, d2, _⟩ := dbg_of h3
    refine ps_imp (ps_ret (pe_var h1 (vis_of h2) d1 d2)) fun Dn σ H q => ?_
    obtain ⟨ρ, er, q⟩ := q
    unfold exe evx ev at q
    cases e0 : getb ρ j with
    | exc k => exact absurd e0 getb_exc
    | bad => rw [e0] at q; exact q.elim
    | ok l =>
      rw [e0] at q
      obtain ⟨sl, ds, hsl, hs, rfl⟩ := getb_ok e0
      rcases hs with rfl | rfl
      · obtain ⟨a, xs, e1, e2, e3, r⟩ := er.lst j ds hsl
        have ow : ∀ b, Zf (cn X H0 Gp) σ ρ b → (cn X H0 Gp).Gp b ∧ b ≠ a := fun b z => ⟨z.1, fun w => by subst w; exact z.2 ⟨j, ds, hsl, e1⟩⟩
        refine ⟨_, e1, ?_⟩
        have q' : oA (cn X H0 Gp) W fr σ ρ H Dn (qret ρ (.lst ds)) := q
        unfold qret at q'
        split at q'
        · rename_i out hq
          obtain ⟨_, qa, ys, k1, k2, k3, ro⟩ := er.lsq 0 out hq
          refine q' _ H ⟨qa, ys, k2, fun b o e n => er.sm b o e fun z => ?_, k3, ro.weak fun _ _ _ z => z.1, .lst e2 e3.2 (r.weak fun b _ _ z => (ow b z).1), fun _ es z => ?_⟩
          · rw [k2] at z; cases z; exact n rfl
          · cases z
            exact ⟨a, xs, rfl, e3.1, e2, r.weak fun b _ _ z => ow b z, ro.weak fun b _ _ z => ow b z⟩
        · exact q'.elim
      · obtain ⟨z, _⟩ := er.lsq j ds hsl
        exact absurd z h.2
  | none =>
    rw [hb] at h
    rw [Bool.and_eq_true, Bool.or_eq_true] at h
    refine ps_imp (ps_ret ((sndF x).pe (H0 := H0) (Gp := Gp) G.g G.tkf hc h.1)) fun Dn σ H q => ?_
    obtain ⟨ρ, er, q⟩ := q
    unfold exe at q
    refine of_okF er q fun d ρ' v H' e po q1 _ => ?_
    refine retQ_of po.er po.rp (fun f es z => ?_) q1
    have hf : frf x = true := h.2.resolve_left (by rw [f]; decide)
    obtain ⟨a, xs, k1, k2, k3, erA, k5⟩ := po.fr hf es z
    refine ⟨a, xs, k1, er.dm a k2, k3, k5.weak fun b _ _ z => ⟨z.1.1, z.2⟩, fun out ys q0 hq hqa hys => ?_⟩
    obtain ⟨_, a2, ys2, m1, m2, m3, ro⟩ := erA.lsq 0 out hq
    have m2' : (cn X H0 Gp).Qa = some a2 := m2
    rw [hqa] at m2'; cases m2'
    rw [hys] at m3; cases m3
    exact ro.weak fun b _ _ z => z.1
theorem ps_of_retQN (G : GoodS tb tg tx X W) {s : Stmt} (h : ckS X.N X.env.scope fr .retQN s = true) : PS X s (tS1 (cn X H0 Gp) W fr .retQN) := by
  unfold ckS at h
  split at h <;> (try (cases h; done))
  rename_i he
  obtain ⟨p, rfl⟩ := asRet_eq he
  refine ps_imp ps_retN fun Dn σ H q => ?_
  obtain ⟨ρ, er, q⟩ := q
  unfold exe at q
  exact retQ_of er .non (fun _ es z => by cases z) q
theorem ps_of_stq (G : GoodS tb tg tx X W) {k x : Ex} {s : Stmt} (hc : cal tb tg k ∧ cal tb tg x) (h : ckS X.N X.env.scope fr (.stq k x) s = true) : PS X s (tS1 (cn X H0 Gp) W fr (.stq k x)) := by
  unfold ckS at h
  split at h <;> (try (cases h; done))
  rename_i y ix v he
  obtain ⟨q0, q1, p, rfl⟩ := asSti_eq he
  simp only [Bool.and_eq_true, decide_eq_true_eq] at h
  obtain ⟨⟨⟨⟨⟨⟨⟨h1, h2⟩, h3⟩, h4⟩, h5⟩, h6⟩, h7⟩, h8⟩ := h
  obtain ⟨d1, d2, _⟩ := dbg_of h3
  have px := (snd x).1.pe (H0 := H0) (Gp := Gp) G.g G.tkf (fun z => by cases z) hc.2 h5
  have pk := (snd k).1.pe (H0 := H0) (Gp := Gp) G.g G.tkf (fun z => by cases z) hc.1 h4
  refine ps_imp (ps_asg px (pg_sub (pe_var h1 (vis_of h2) d1 d2) pk set_list (by intro v; cases ix <;> first | rfl | cases h8)) (by cases v <;> first | rfl | cases h7) (by cases v <;> rfl)) fun Dn σ H q => ?_
  obtain ⟨ρ, er, q⟩ := q
  unfold exe at q
  refine of_ok er q fun d v H1 e po er1 q1 => ?_
  cases hq : ρ[(0 : Nat)]? with
  | none => rw [hq] at q1; exact q1.elim
  | some sl =>
  rw [hq] at q1
  cases sl <;> (try (exact False.elim q1))
  rename_i ds
  obtain ⟨_, p0, xs, f1, fq, f2, r⟩ := er1.lsq 0 ds hq
  refine ⟨_, f1, of_ok er1 q1 fun kd kv H2 e2 po2 er2 q2 => ?_⟩
  cases kd <;> (try (exact False.elim q2))
  rename_i k
  cases po2.rb.int
  have q3 : oA (cn X H0 Gp) W fr σ ρ H2 Dn (match ixN ds.length k with | some j => .nx (ρ.set 0 (.q (ds.set j d))) | none => .bad) := q2
  split at q3
  · rename_i j hj
    have r2 := (r.same po2.same).set ((po.rp h6).same po2.same) j
    have f3 := po2.same _ _ f2
    have st : ∀ b o, H2 b = some o → b ≠ p0 → L2.upd H2 p0 (.lst (xs.set j v)) b = some o := fun b o e1 n => by rw [upd_ne n]; exact e1
    have st0 : Stay H2 (Zf (cn X H0 Gp) σ ρ) (L2.upd H2 p0 (.lst (xs.set j v))) := er2.stay fun a o e1 _ n2 => st a o e1 fun z => by subst z; exact n2 fq
    have er3 := er2.updG (G2 := (cn X H0 Gp).Gp) (s := .q ds) (es := ds.set j d) (.self er2 fun b hb => by
      by_cases z : b = p0
      · subst z; rw [upd_same] at hb; cases hb
      · rw [upd_ne z] at hb; exact hb) hq (.inr rfl) f1 st upd_same (r2.mono st0 fun _ _ _ z => z)
    exact ⟨p0, xs, k, j, rfl, rfl, f3, by rw [← r.length]; exact hj, q3 _ _ er3 fun a o e n m => ⟨st a o e fun z => by subst z; exact m fq, fun w => n ((own_kp (s := .q ds) (es := ds.set j d) hq (.inr rfl) a).mp w)⟩⟩
  · exact q3.elim
end
end OL
namespace OL
open PySem PySem.Spec PyProof.Rows L2
theorem R.all_imp {α : Type} {r : R α} {p p' : α → Prop} {e e' : String → Prop} (h : r.all p e) (hp : ∀ a, p a → p' a) (he : ∀ k, e k → e' k) : r.all p' e' := by
  cases r with
  | ok a => exact hp a h
  | exc k => exact he k h
  | bad => exact h
/-- sound statements -/
def PsP (s : St) : Prop := ∀ {X : Cx} {H0 : Hp} {Gp : GQ} {W : WX} {tb : Fn → Prop} {tg : String → D → Prop} {tx : String → Prop} {fr : Bool} {e : Stmt}, GoodS tb tg tx X W → calS tb tg tx s → ckS X.N X.env.scope fr s e = true → PS X e (tS1 (cn X H0 Gp) W fr s)
def PssP (ss : List St) : Prop := ∀ {X : Cx} {H0 : Hp} {Gp : GQ} {W : WX} {tb : Fn → Prop} {tg : String → D → Prop} {tx : String → Prop} {fr : Bool} {es : List Stmt}, GoodS tb tg tx X W → calSs tb tg tx ss → ckSs X.N X.env.scope fr ss es = true → PSs X es (tSs (cn X H0 Gp) W fr ss)
theorem pss_of_nil : PssP [] := by
  intro X H0 Gp W tb tg tx fr es G hc h
  unfold ckSs at h
  cases es with
  | cons _ _ => cases h
  | nil =>
    refine pss_imp pss_nil fun Dn σ H q => ?_
    obtain ⟨ρ, er, q⟩ := q
    unfold exs at q
    exact q σ H er .refl
theorem pss_of_cons {s : St} {ss : List St} (hs : PsP s) (hss : PssP ss) : PssP (s :: ss) := by
  intro X H0 Gp W tb tg tx fr es G hc h
  unfold ckSs at h
  unfold calSs at hc
  by_cases hf : ∃ i, s = .frz i
  · obtain ⟨i, rfl⟩ := hf
    refine pss_imp (hss (H0 := H0) (Gp := Gp) G hc.2 h) fun Dn σ H q => ?_
    obtain ⟨ρ, er, q⟩ := q
    unfold exs exe at q
    cases e : ρ[i]? with
    | none => rw [e] at q; exact q.elim
    | some sl =>
      rw [e] at q
      cases sl with
      | o ds => exact ⟨_, er.frz e, q.later fun a o f n _ => ⟨f, fun w => n (own_frz_eq a w)⟩⟩
      | v d => exact q.elim
      | q d => exact q.elim
      | n => exact q.elim
  · cases es with
    | nil => cases s <;> first | (cases h; done) | exact absurd ⟨_, rfl⟩ hf
    | cons e es =>
      have h' : (ckS X.N X.env.scope fr s e && ckSs X.N X.env.scope fr ss es) = true := by
        cases s <;> first | exact h | exact absurd ⟨_, rfl⟩ hf
      rw [Bool.and_eq_true] at h'
      refine pss_imp (pss_cons (hs (H0 := H0) (Gp := Gp) G hc.1 h'.1) (hss (H0 := H0) (Gp := Gp) G hc.2 h'.2)) fun Dn σ H q => ?_
      obtain ⟨ρ, er, q⟩ := q
      unfold exs at q
      refine ⟨ρ, er, ?_⟩
      cases e1 : exe ρ s with
      | nx ρ' => rw [e1] at q; exact fun σ' H' er' st => ⟨ρ', er', q.later st⟩
      | rt d => rw [e1] at q; exact q
      | rq d out => rw [e1] at q; exact q
      | bk ρ' => rw [e1] at q; exact q
      | ct ρ' => rw [e1] at q; exact q
      | exc k ρ' => rw [e1] at q; exact q
      | bad => rw [e1] at q; exact q
theorem ps_of_ife {t : Ex} {a b : List St} (ha : PssP a) (hb : PssP b) : PsP (.ife t a b) := by
  intro X H0 Gp W tb tg tx fr s G hc h
  unfold ckS at h
  split at h <;> (try (cases h; done))
  rename_i e p q he
  obtain ⟨pos, rfl⟩ := asIf_eq he
  rw [Bool.and_eq_true, Bool.and_eq_true] at h
  unfold calS at hc
  have pt := (snd t).1.pt (H0 := H0) (Gp := Gp) G.g G.tkf (fun z => by cases z) hc.1 h.1.1
  refine ps_imp (ps_if pt (ha (H0 := H0) (Gp := Gp) G hc.2.1 h.1.2) (hb (H0 := H0) (Gp := Gp) G hc.2.2 h.2)) fun Dn σ H q => ?_
  obtain ⟨ρ, er, q⟩ := q
  unfold exe at q
  refine ⟨ρ, er, ?_⟩
  cases e1 : tst ρ t with
  | ok k =>
    rw [e1] at q
    intro H' s
    have q2 : oA (cn X H0 Gp) W fr σ ρ H Dn (if k = true then exs ρ a else exs ρ b) := q
    cases k with
    | true => exact iteT ⟨ρ, er.same s, q2.later (.same s)⟩
    | false => exact iteF ⟨ρ, er.same s, q2.later (.same s)⟩
  | exc k => rw [e1] at q; exact fun H' s => q σ H' (er.same s) (.same s)
  | bad => rw [e1] at q; exact q.elim
theorem ps_of_whl {t : Ex} {b : List St} (hb : PssP b) : PsP (.whl t b) := by
  intro X H0 Gp W tb tg tx fr s G hc h
  unfold ckS at h
  split at h <;> (try (cases h; done))
  rename_i e p he
  obtain ⟨pos, rfl⟩ := asWhl_eq he
  rw [Bool.and_eq_true] at h
  unfold calS at hc
  have pt := (snd t).1.pt (H0 := H0) (Gp := Gp) G.g G.tkf (fun z => by cases z) hc.1 h.1
  refine ps_imp (ps_while G.ps pt (hb (H0 := H0) (Gp := Gp) G hc.2 h.2)) fun Dn σ H q => ?_
  obtain ⟨ρ, er, q⟩ := q
  unfold exe at q
  have nb : whileO (fun ρ => tst ρ t) (fun ρ => exs ρ b) ρ ≠ .bad := fun z => by rw [z] at q; exact q
  obtain ⟨n, hn⟩ := whileO_run nb
  generalize whileO (fun ρ => tst ρ t) (fun ρ => exs ρ b) ρ = o at q hn
  refine ⟨fun m σ' H' => ∃ ρ', ER (cn X H0 Gp) H' σ' ρ' ∧ wrun (fun ρ => tst ρ t) (fun ρ => exs ρ b) m ρ' = some o ∧ Stb (cn X H0 Gp) σ ρ H σ' ρ' H', ⟨n, ρ, er, hn, .refl⟩, ?_⟩
  rintro m σ' H' ⟨ρ', er', hm, st⟩
  cases m with
  | zero => unfold wrun at hm; cases hm
  | succ m =>
    unfold wrun at hm
    refine ⟨ρ', er', ?_⟩
    cases e1 : tst ρ' t with
    | exc k =>
      simp only [e1] at hm
      cases hm
      exact fun H'' s => q σ' H'' (er'.same s) (st.trans (.same s))
    | bad =>
      simp only [e1] at hm
      cases hm
      exact q.elim
    | ok k =>
      simp only [e1] at hm
      intro H'' s
      cases k with
      | false =>
        cases hm
        exact iteF (q σ' H'' (er'.same s) (st.trans (.same s)))
      | true =>
        refine iteT ⟨fun σ2 H2 => ∃ ρ2, ER (cn X H0 Gp) H2 σ2 ρ2 ∧ wrun (fun ρ => tst ρ t) (fun ρ => exs ρ b) m ρ2 = some o ∧ Stb (cn X H0 Gp) σ ρ H σ2 ρ2 H2, fun σ2 H2 w => ⟨m, Nat.lt_succ_self m, w⟩, ρ', er'.same s, ?_⟩
        have st' : Stb (cn X H0 Gp) σ ρ H σ' ρ' H'' := st.trans (.same s)
        cases e2 : exs ρ' b with
        | nx ρ2 =>
          simp only [e2] at hm
          exact fun σ2 H2 er2 s2 => ⟨ρ2, er2, hm, st'.trans s2⟩
        | ct ρ2 =>
          simp only [e2] at hm
          exact fun σ2 H2 er2 s2 => ⟨ρ2, er2, hm, st'.trans s2⟩
        | bk ρ2 =>
          simp only [e2] at hm
          cases hm
          exact fun σ2 H2 er2 s2 => q σ2 H2 er2 (st'.trans s2)
        | rt d =>
          simp only [e2] at hm
          cases hm
          exact q
        | rq d out =>
          simp only [e2] at hm
          cases hm
          exact q
        | exc k ρ2 =>
          simp only [e2] at hm
          cases hm
          exact fun σ2 H2 er2 s2 => q σ2 H2 er2 (st'.trans s2)
        | bad =>
          simp only [e2] at hm
          cases hm
          exact q.elim
theorem ps_of_for {t : Tg} {it : Ex} {b : List St} (hb : PssP b) : PsP (.for t it b) := by
  intro X H0 Gp W tb tg tx fr s G hc h
  unfold ckS at h
  split at h <;> (try (cases h; done))
  rename_i tt i p he
  obtain ⟨pos, rfl⟩ := asFor_eq he
  rw [Bool.and_eq_true, Bool.and_eq_true, Bool.and_eq_true] at h
  obtain ⟨⟨⟨h1, h2⟩, h3⟩, h4⟩ := h
  unfold calS at hc
  have pi := (snd it).2 (H0 := H0) (Gp := Gp) G.g G.tkf hc.1 h2
  have pg := pg_of (t := t) (e := tt) G.g.nd (G.g.calm rfl) (cel := true) (fun _ => G.fn) h1
  refine ps_imp (ps_for G.ps (G.g.calm rfl) pi pg (hb (H0 := H0) (Gp := Gp) G hc.2 h4) (fun x => by cases i <;> first | rfl | cases h3)) fun Dn σ H q => ?_
  obtain ⟨ρ, er, q⟩ := q
  unfold exe at q
  refine ⟨ρ, er, ?_⟩
  cases e1 : (ev ρ it).bind itemsOf with
  | exc k => rw [e1] at q; exact fun H' s => q σ H' (er.same s) (.same s)
  | bad => rw [e1] at q; exact q.elim
  | ok ds =>
  rw [e1] at q
  intro J H1 s1 wk
  have er1 := er.same s1
  generalize hbd : (fun d ρ => O.of ρ (setT t d ρ) fun ρ' => exs ρ' b) = body at q
  have q1 : oA (cn X H0 Gp) W fr σ ρ H1 Dn (forO body ds ρ) := oA.later (.same s1) q
  clear q
  have stay_of : ∀ {σ' : Sg} {ρ' : En} {H' : Hp}, Stb (cn X H0 Gp) σ ρ H1 σ' ρ' H' → Stay H1 (Zf (cn X H0 Gp) σ ρ) H' := fun st => st.stay er1
  refine ⟨fun i m σ' H' => m = ds.length - i ∧ i ≤ ds.length ∧ ∃ ρ', ER (cn X H0 Gp) H' σ' ρ' ∧ Stb (cn X H0 Gp) σ ρ H1 σ' ρ' H' ∧ oA (cn X H0 Gp) W fr σ ρ H1 Dn (forO body (ds.drop i) ρ'),
    ⟨ds.length, by simp, Nat.zero_le _, ρ, er1, .refl, by simpa using q1⟩, ?_⟩
  rintro i m σ' H' ⟨rfl, hle, ρ', er', st, q⟩
  by_cases hlt : i < ds.length
  · refine .inr ⟨wk.go H' i (stay_of st) hlt, fun σ2 H2 => i + 1 ≤ ds.length ∧ ∃ ρ2, ER (cn X H0 Gp) H2 σ2 ρ2 ∧ Stb (cn X H0 Gp) σ ρ H1 σ2 ρ2 H2 ∧ oA (cn X H0 Gp) W fr σ ρ H1 Dn (forO body (ds.drop (i + 1)) ρ2),
      fun σ2 H2 w => ⟨ds.length - (i + 1), by omega, rfl, w⟩, fun x H2 y => ?_⟩
    obtain ⟨s2, rx⟩ := wk.yld H' i x H2 (stay_of st) y _ (List.getElem?_eq_getElem hlt)
    have er2 := er'.same s2
    have rx' : Rp X.K X.mg H2 (Zf (cn X H0 Gp) σ' ρ') ds[i] x := rx.weak fun a o _ z => by
      rcases z with ⟨z, o', e'⟩ | z
      · exact ⟨z.1, (st a o' e' z.2 fun q => (er1.qg a q).1 z.1).2⟩
      · exact er'.newZ z
    rw [List.drop_eq_getElem_cons hlt] at q
    unfold forO at q
    have bd : body ds[i] ρ' = O.of ρ' (setT t ds[i] ρ') fun ρ' => exs ρ' b := by rw [← hbd]
    cases e2 : setT t ds[i] ρ' with
    | exc k => exact absurd e2 setT_exc
    | bad => rw [bd, e2] at q; exact q.elim
    | ok ρ2 =>
      have bd2 : body ds[i] ρ' = exs ρ2 b := by rw [bd, e2]; rfl
      rw [bd2] at q
      refine gOf_ok (c := cn X H0 Gp) er2 rx' e2 fun σ3 er3 ow sl ln => ⟨ρ2, er3, ?_⟩
      have st3 : Stb (cn X H0 Gp) σ ρ H1 σ3 ρ2 H2 := st.trans fun a o e n _ => ⟨s2 a o e, fun w => n (ow a w)⟩
      cases e3 : exs ρ2 b with
      | nx ρ4 =>
        rw [e3] at q
        exact fun σ4 H4 er4 s4 => ⟨hlt, ρ4, er4, st3.trans s4, q⟩
      | ct ρ4 =>
        rw [e3] at q
        exact fun σ4 H4 er4 s4 => ⟨hlt, ρ4, er4, st3.trans s4, q⟩
      | bk ρ4 =>
        rw [e3] at q
        exact fun σ4 H4 er4 s4 => q σ4 H4 er4 (st3.trans s4)
      | rt d =>
        rw [e3] at q
        exact q
      | rq d out =>
        rw [e3] at q
        exact q
      | exc k ρ4 =>
        rw [e3] at q
        exact fun σ4 H4 er4 s4 => q σ4 H4 er4 (st3.trans s4)
      | bad => rw [e3] at q; exact q.elim
  · have e : i = ds.length := by omega
    subst e
    rw [List.drop_length] at q
    unfold forO at q
    exact .inl ⟨wk.stop H' _ (stay_of st) (Nat.le_refl _), q σ' H' er' st⟩
theorem ps_of_ifeF {t : Fx} {a b : List St} (ha : PssP a) (hb : PssP b) : PsP (.ifeF t a b) := by
  intro X H0 Gp W tb tg tx fr s G hc h
  unfold ckS at h
  split at h <;> (try (cases h; done))
  rename_i e p q he
  obtain ⟨pos, rfl⟩ := asIf_eq he
  rw [Bool.and_eq_true, Bool.and_eq_true] at h
  unfold calS at hc
  have pt := (sndF t).pt (H0 := H0) (Gp := Gp) G.g G.tkf hc.1 h.1.1
  refine ps_imp (ps_if pt (ha (H0 := H0) (Gp := Gp) G hc.2.1 h.1.2) (hb (H0 := H0) (Gp := Gp) G hc.2.2 h.2)) fun Dn σ H q => ?_
  obtain ⟨ρ, er, q⟩ := q
  unfold exe at q
  refine ⟨ρ, er, ?_⟩
  unfold tsx
  cases e1 : evx ρ t with
  | ok pr =>
    obtain ⟨d, ρ'⟩ := pr
    rw [e1] at q
    replace q : oA (cn X H0 Gp) W fr σ ρ H Dn (match truD d with | some true => exs ρ' a | some false => exs ρ' b | none => .bad) := q
    show (match truD d with | some b => R.ok (b, ρ') | none => .bad).all _ _
    revert q
    cases truD d with
    | none => exact fun q => q.elim
    | some k =>
      cases k with
      | true => exact fun q H' po => iteT ⟨ρ', po.er, oA.later po.st q⟩
      | false => exact fun q H' po => iteF ⟨ρ', po.er, oA.later po.st q⟩
  | exc k => rw [e1] at q; exact fun H' er' st => q σ H' er' st
  | bad => rw [e1] at q; exact q.elim
theorem ps_of_forF {t : Tg} {it : Fx} {b : List St} (hb : PssP b) : PsP (.forF t it b) := by
  intro X H0 Gp W tb tg tx fr s G hc h
  unfold ckS at h
  split at h <;> (try (cases h; done))
  rename_i tt i p he
  obtain ⟨pos, rfl⟩ := asFor_eq he
  rw [Bool.and_eq_true, Bool.and_eq_true, Bool.and_eq_true] at h
  obtain ⟨⟨⟨h1, h2⟩, h3⟩, h4⟩ := h
  unfold calS at hc
  have pi := piF_of (H0 := H0) (Gp := Gp) (sndFR it) G.g G.tkf hc.1 h2
  have pg := pg_of (t := t) (e := tt) G.g.nd (G.g.calm rfl) (cel := true) (fun _ => G.fn) h1
  refine ps_imp (ps_for G.ps (G.g.calm rfl) pi pg (hb (H0 := H0) (Gp := Gp) G hc.2 h4) (fun x => by cases i <;> first | rfl | cases h3)) fun Dn σ H q => ?_
  obtain ⟨ρ, er, q⟩ := q
  unfold exe at q
  refine ⟨ρ, er, ?_⟩
  unfold itx
  generalize hbd : (fun d ρ => O.of ρ (setT t d ρ) fun ρ' => exs ρ' b) = body at q
  cases e1 : evx ρ it with
  | exc k => rw [e1] at q; exact fun H' er' st => q σ H' er' st
  | bad => rw [e1] at q; exact q.elim
  | ok pr =>
  obtain ⟨d0, ρ0⟩ := pr
  rw [e1] at q
  replace q : oA (cn X H0 Gp) W fr σ ρ H Dn (.of ρ0 (itemsOf d0) fun ds => forO body ds ρ0) := q
  show ((itemsOf d0).bind fun ds => R.ok (ds, ρ0)).all _ _
  cases e0 : itemsOf d0 with
  | exc k => unfold itemsOf at e0; split at e0 <;> cases e0
  | bad => rw [e0] at q; exact q.elim
  | ok ds =>
  rw [e0] at q
  intro J H1 t1 wk
  have er1 : ER (cn X H0 Gp) H1 σ ρ0 := t1.er
  have q1 : oA (cn X H0 Gp) W fr σ ρ0 H1 Dn (forO body ds ρ0) := oA.later t1.st q
  clear q
  have stay_of : ∀ {σ' : Sg} {ρ' : En} {H' : Hp}, Stb (cn X H0 Gp) σ ρ0 H1 σ' ρ' H' → Stay H1 (Zf (cn X H0 Gp) σ ρ0) H' := fun st => st.stay er1
  refine ⟨fun i m σ' H' => m = ds.length - i ∧ i ≤ ds.length ∧ ∃ ρ', ER (cn X H0 Gp) H' σ' ρ' ∧ Stb (cn X H0 Gp) σ ρ0 H1 σ' ρ' H' ∧ oA (cn X H0 Gp) W fr σ ρ0 H1 Dn (forO body (ds.drop i) ρ'),
    ⟨ds.length, by simp, Nat.zero_le _, ρ0, er1, .refl, by simpa using q1⟩, ?_⟩
  rintro i m σ' H' ⟨rfl, hle, ρ', er', st, q⟩
  by_cases hlt : i < ds.length
  · refine .inr ⟨wk.go H' i (stay_of st) hlt, fun σ2 H2 => i + 1 ≤ ds.length ∧ ∃ ρ2, ER (cn X H0 Gp) H2 σ2 ρ2 ∧ Stb (cn X H0 Gp) σ ρ0 H1 σ2 ρ2 H2 ∧ oA (cn X H0 Gp) W fr σ ρ0 H1 Dn (forO body (ds.drop (i + 1)) ρ2),
      fun σ2 H2 w => ⟨ds.length - (i + 1), by omega, rfl, w⟩, fun x H2 y => ?_⟩
    obtain ⟨s2, rx⟩ := wk.yld H' i x H2 (stay_of st) y _ (List.getElem?_eq_getElem hlt)
    have er2 := er'.same s2
    have rx' : Rp X.K X.mg H2 (Zf (cn X H0 Gp) σ' ρ') ds[i] x := rx.weak fun a o _ z => by
      rcases z with ⟨z, o', e'⟩ | z
      · exact ⟨z.1, (st a o' e' z.2 fun q => (er1.qg a q).1 z.1).2⟩
      · exact er'.newZ z
    rw [List.drop_eq_getElem_cons hlt] at q
    unfold forO at q
    have bd : body ds[i] ρ' = O.of ρ' (setT t ds[i] ρ') fun ρ' => exs ρ' b := by rw [← hbd]
    cases e2 : setT t ds[i] ρ' with
    | exc k => exact absurd e2 setT_exc
    | bad => rw [bd, e2] at q; exact q.elim
    | ok ρ2 =>
      have bd2 : body ds[i] ρ' = exs ρ2 b := by rw [bd, e2]; rfl
      rw [bd2] at q
      refine gOf_ok (c := cn X H0 Gp) er2 rx' e2 fun σ3 er3 ow sl ln => ⟨ρ2, er3, ?_⟩
      have st3 : Stb (cn X H0 Gp) σ ρ0 H1 σ3 ρ2 H2 := st.trans fun a o e n _ => ⟨s2 a o e, fun w => n (ow a w)⟩
      cases e3 : exs ρ2 b with
      | nx ρ4 =>
        rw [e3] at q
        exact fun σ4 H4 er4 s4 => ⟨hlt, ρ4, er4, st3.trans s4, q⟩
      | ct ρ4 =>
        rw [e3] at q
        exact fun σ4 H4 er4 s4 => ⟨hlt, ρ4, er4, st3.trans s4, q⟩
      | bk ρ4 =>
        rw [e3] at q
        exact fun σ4 H4 er4 s4 => q σ4 H4 er4 (st3.trans s4)
      | rt d =>
        rw [e3] at q
        exact q
      | rq d out =>
        rw [e3] at q
        exact q
      | exc k ρ4 =>
        rw [e3] at q
        exact fun σ4 H4 er4 s4 => q σ4 H4 er4 (st3.trans s4)
      | bad => rw [e3] at q; exact q.elim
  · have e : i = ds.length := by omega
    subst e
    rw [List.drop_length] at q
    unfold forO at q
    exact .inl ⟨wk.stop H' _ (stay_of st) (Nat.le_refl _), q σ' H' er' st⟩
theorem ps_of_tri {b h : List St} {k : String} (hb : PssP b) : PsP (.tri b k h) := by
  intro X H0 Gp W tb tg tx fr s G hc hk
  unfold ckS at hk
  split at hk <;> (try (cases hk; done))
  rename_i p x q he
  obtain ⟨a0, b0, c0, rfl⟩ := asTry_eq he
  simp only [Bool.and_eq_true, beq_iff_eq, Bool.not_eq_true'] at hk
  obtain ⟨⟨⟨⟨⟨⟨rfl, h1⟩, h2⟩, h3⟩, h4⟩, h5⟩, h6⟩ := hk
  unfold calS at hc
  obtain ⟨C, hm, xo⟩ := G.exc k hc.1
  cases q with
  | nil => cases h6
  | cons b₀ suite =>
    have main := ps_try_only (X := X) (x := Str.ofString k) (c := .ref C) (body := p) (suite := suite) (b₀ := b₀) (np := a0) (pos := c0) (pos' := b0) (tb := fun W' => tSs (cn X H0 Gp) W' fr b) (ts := fun _ _ _ => tSs (cn X H0 Gp) no fr h) (Wout := W)
      G.st G.fr ⟨gl_of h1, (dbg_of h2).1, .inl hm⟩ G.tk
      (fun W' pn xe tk hp => hb (X := X.tr pn xe) (H0 := H0) (Gp := Gp) (G.tr tk hp) hc.2.1 h4)
      (fun a oe cls d pn hz hf => pss_hot (H0 := H0) (Gp := Gp) (a := a) (pn := (a, oe) :: pn) G hc.2.2 h5)
    refine ps_imp main fun Dn σ H q => ?_
    obtain ⟨ρ, er, q⟩ := q
    unfold exe at q
    refine ⟨ρ, er, ?_⟩
    cases e1 : exs ρ b with
    | nx ρ' => rw [e1] at q; exact q
    | bk ρ' => rw [e1] at q; exact q
    | ct ρ' => rw [e1] at q; exact q
    | rt d => rw [e1] at q; exact q
    | rq d out => rw [e1] at q; exact q
    | bad => rw [e1] at q; exact q
    | exc k' ρ' =>
      rw [e1] at q
      intro σ' H' er' st C' ie m
      refine ⟨subX k' k, G.exm k' k C' C ie h3 m hm, fun hs a ha => ?_, fun hs => ?_⟩
      · have q2 : oA (cn X H0 Gp) W fr σ ρ H Dn (if subX k' k = true then noX (exs ρ' h) else .exc k' ρ') := q
        rw [if_pos hs] at q2
        have q3 := q2.later st
        refine ⟨ρ', er', ?_⟩
        cases e2 : exs ρ' h with
        | nx ρ'' => rw [e2] at q3; exact q3
        | bk ρ'' => rw [e2] at q3; exact q3
        | ct ρ'' => rw [e2] at q3; exact q3
        | rt d => rw [e2] at q3; exact q3
        | rq d out => rw [e2] at q3; exact q3
        | bad => rw [e2] at q3; exact q3
        | exc k2 ρ'' => rw [e2] at q3; exact q3.elim
      · have q2 : oA (cn X H0 Gp) W fr σ ρ H Dn (if subX k' k = true then noX (exs ρ' h) else .exc k' ρ') := q
        rw [if_neg (by rw [hs]; decide)] at q2
        exact q2 σ' H' er' st C' ie m
theorem drop_er {c : Cn} {H : Hp} {σ : Sg} {ρ : En} {i : Nat} (er : ER c H σ ρ) (h : notOwn ρ i = true) : ER c H (σ.set i none) (ρ.set i .n) := er.wipe (vs := [i]) (by rw [List.all_cons, h]; rfl)
theorem drop_stb {c : Cn} {H : Hp} {σ : Sg} {ρ : En} {i : Nat} (h : notOwn ρ i = true) : Stb c σ ρ H (σ.set i none) (ρ.set i .n) H := fun a o e n _ => ⟨e, fun w => n ((own_wipe (vs := [i]) (by rw [List.all_cons, h]; rfl) a).mp w)⟩
theorem ps_of_tas {b h : List St} {k : String} {i : Nat} (hb : PssP b) : PsP (.tas b k i h) := by
  intro X H0 Gp W tb tg tx fr s G hc hk
  unfold ckS at hk
  split at hk <;> (try (cases hk; done))
  rename_i p x n q he
  obtain ⟨a0, b0, c0, rfl⟩ := asTryAs_eq he
  simp only [Bool.and_eq_true, beq_iff_eq, Bool.not_eq_true', decide_eq_true_eq] at hk
  obtain ⟨⟨⟨⟨⟨⟨⟨⟨rfl, h1⟩, h2⟩, h3⟩, hi⟩, hl⟩, h4⟩, h5⟩, h6⟩ := hk
  unfold calS at hc
  obtain ⟨C, hm, xo⟩ := G.exc k hc.1
  cases q with
  | nil => cases h6
  | cons b₀ suite =>
    have main := ps_try_keep (X := X) (x := Str.ofString k) (n := n) (c := .ref C) (i := i) (body := p) (suite := suite) (b₀ := b₀) (np := a0) (pos := c0) (pos' := b0) (tb := fun W' => tSs (cn X H0 Gp) W' fr b) (ts := fun _ _ => tSs (cn X H0 Gp) no fr h) (Wout := W)
      G.st G.fr G.g.nd hi (isLoc_of hl) ⟨gl_of h1, (dbg_of h2).1, .inl hm⟩ G.tk
      (fun W' pn xe tk hp => hb (X := X.tr pn xe) (H0 := H0) (Gp := Gp) (G.tr tk hp) hc.2.1 h4)
      (fun a cls pn => pss_hot (H0 := H0) (Gp := Gp) (a := a) (pn := pn) G hc.2.2 h5)
    refine ps_imp main fun Dn σ H q => ?_
    obtain ⟨ρ, er, q⟩ := q
    unfold exe at q
    refine ⟨ρ, er, ?_⟩
    cases e1 : exs ρ b with
    | nx ρ' => rw [e1] at q; exact q
    | bk ρ' => rw [e1] at q; exact q
    | ct ρ' => rw [e1] at q; exact q
    | rt d => rw [e1] at q; exact q
    | rq d out => rw [e1] at q; exact q
    | bad => rw [e1] at q; exact q
    | exc k' ρ' =>
      rw [e1] at q
      intro σ' H' er' st C' ie m
      refine ⟨rfl, subX k' k, G.exm k' k C' C ie h3 m hm, fun hs a ha => ?_, fun hs => ?_⟩
      · have q2 : oA (cn X H0 Gp) W fr σ ρ H Dn (if subX k' k = true then (if i < ρ'.length then drO i (noX (exs (ρ'.set i (.v (.exc k'))) h)) else .bad) else .exc k' ρ') := q
        rw [if_pos hs] at q2
        by_cases hil : i < ρ'.length
        · rw [if_pos hil] at q2
          have s1 : Same H' (L2.upd H' a (KeO (.ref C') a)) := same_upd ha
          have erT := (er'.same s1).set (i := i) (d := .exc k') (v := .ref a) (.exc upd_same (fun _ z => z) m ie) hil
          have stT : Stb (cn X H0 Gp) σ' ρ' H' (σ'.set i (some (.ref a))) (ρ'.set i (.v (.exc k'))) (L2.upd H' a (KeO (.ref C') a)) := fun b o e n _ => ⟨s1 _ _ e, fun w => n (own_set w)⟩
          have q3 := q2.later (st.trans stT)
          refine ⟨_, erT, ?_⟩
          cases e2 : exs (ρ'.set i (.v (.exc k'))) h with
          | nx ρ'' =>
            rw [e2] at q3
            intro σ2 H2 er2 st2
            have q4 : oA (cn X H0 Gp) W fr _ _ _ Dn (if notOwn ρ'' i then .nx (ρ''.set i .n) else .bad) := q3
            split at q4
            · rename_i hn; exact q4 _ _ (drop_er er2 hn) (st2.trans (drop_stb hn))
            · exact q4.elim
          | bk ρ'' =>
            rw [e2] at q3
            intro σ2 H2 er2 st2
            have q4 : oA (cn X H0 Gp) W fr _ _ _ Dn (if notOwn ρ'' i then .bk (ρ''.set i .n) else .bad) := q3
            split at q4
            · rename_i hn; exact q4 _ _ (drop_er er2 hn) (st2.trans (drop_stb hn))
            · exact q4.elim
          | ct ρ'' =>
            rw [e2] at q3
            intro σ2 H2 er2 st2
            have q4 : oA (cn X H0 Gp) W fr _ _ _ Dn (if notOwn ρ'' i then .ct (ρ''.set i .n) else .bad) := q3
            split at q4
            · rename_i hn; exact q4 _ _ (drop_er er2 hn) (st2.trans (drop_stb hn))
            · exact q4.elim
          | rt d => rw [e2] at q3; exact q3
          | rq d out => rw [e2] at q3; exact q3
          | bad => rw [e2] at q3; exact q3
          | exc k2 ρ'' => rw [e2] at q3; exact q3.elim
        · rw [if_neg hil] at q2; exact q2.elim
      · have q2 : oA (cn X H0 Gp) W fr σ ρ H Dn (if subX k' k = true then (if i < ρ'.length then drO i (noX (exs (ρ'.set i (.v (.exc k'))) h)) else .bad) else .exc k' ρ') := q
        rw [if_neg (by rw [hs]; decide)] at q2
        exact q2 σ' H' er' st C' ie m
theorem psp_ret {x : Ex} : PsP (.ret x) := by
  intro X H0 Gp W tb tg tx fr e G hc h
  unfold ckS at h
  split at h <;> (try (cases h; done))
  rename_i v he
  obtain ⟨p, rfl⟩ := asRet_eq he
  rw [Bool.and_eq_true] at h
  exact ps_of_ret G.g G.tkf (fun z => by cases z) (by unfold calS at hc; exact hc) h.1 h.2
theorem psp_retN : PsP (.retN) := by
  intro X H0 Gp W tb tg tx fr e G hc h
  unfold ckS at h
  split at h <;> (try (cases h; done))
  rename_i he
  obtain ⟨p, rfl⟩ := asRet_eq he
  refine ps_imp ps_retN fun Dn σ H q => ?_
  obtain ⟨ρ, er, q⟩ := q
  unfold exe at q
  exact q .non H fun hq => ⟨fun a o e => er.sm a o e (by rw [hq]; exact fun z => by cases z), .non, fun _ es z => by cases z⟩
theorem psp_exp {x : Ex} : PsP (.exp x) := by
  intro X H0 Gp W tb tg tx fr e G hc h
  unfold ckS at h
  split at h <;> (try (cases h; done))
  rename_i v he
  obtain ⟨p, rfl⟩ := asExp_eq he
  rw [Bool.and_eq_true] at h
  refine ps_imp (ps_expr ((snd x).1.pe (H0 := H0) (Gp := Gp) G.g G.tkf (fun z => by cases z) (by unfold calS at hc; exact hc) h.1) (sw_none h.2 _ _ _)) fun Dn σ H q => ?_
  obtain ⟨ρ, er, q⟩ := q
  unfold exe at q
  exact of_ok er q fun d v H' e po er' q' => q' σ H' er' .refl
theorem psp_brk : PsP (.brk) := by
  intro X H0 Gp W tb tg tx fr e G hc h
  unfold ckS at h
  cases e <;> (try (unfold asBrk at h; cases h; done))
  refine ps_imp ps_break fun Dn σ H q => ?_
  obtain ⟨ρ, er, q⟩ := q
  unfold exe at q
  exact q σ H er .refl
theorem psp_cnt : PsP (.cnt) := by
  intro X H0 Gp W tb tg tx fr e G hc h
  unfold ckS at h
  cases e <;> (try (unfold asCnt at h; cases h; done))
  refine ps_imp ps_continue fun Dn σ H q => ?_
  obtain ⟨ρ, er, q⟩ := q
  unfold exe at q
  exact q σ H er .refl
theorem psp_pas : PsP (.pas) := by
  intro X H0 Gp W tb tg tx fr e G hc h
  unfold ckS at h
  cases e <;> (try (unfold asPas at h; cases h; done))
  refine ps_imp ps_pass fun Dn σ H q => ?_
  obtain ⟨ρ, er, q⟩ := q
  unfold exe at q
  exact q σ H er .refl
mutual
theorem psP : ∀ s : St, PsP s
  | .asg i own x => fun G hc h => ps_of_asg G (by unfold calS at hc; exact hc) h
  | .unp ts x => fun G hc h => ps_of_unp G (by unfold calS at hc; exact hc) h
  | .par i j x y => fun G hc h => ps_of_par G (by unfold calS at hc; exact hc) h
  | .aug i op x => fun G hc h => ps_of_aug G (by unfold calS at hc; exact hc) h
  | .ret x => psp_ret
  | .retN => psp_retN
  | .exp x => psp_exp
  | .app i x => fun G hc h => ps_of_app G (by unfold calS at hc; exact hc) h
  | .rev i => fun G hc h => ps_of_rev G h
  | .clr i => fun G hc h => ps_of_clr G h
  | .ins i k x => fun G hc h => by unfold ckS at h; cases h
  | .popE i k => fun G hc h => by unfold ckS at h; cases h
  | .sti i k x => fun G hc h => ps_of_sti G (by unfold calS at hc; exact hc) h
  | .sls i lo hi x => fun G hc h => ps_of_sls G (by unfold calS at hc; exact hc) h
  | .ife t a b => ps_of_ife (pssP a) (pssP b)
  | .whl t b => ps_of_whl (pssP b)
  | .for t it b => ps_of_for (pssP b)
  | .rai k => fun G hc h => ps_of_rai G (by unfold calS at hc; exact hc) h
  | .tri b k h => ps_of_tri (pssP b)
  | .tas b k i h => ps_of_tas (pssP b)
  | .par3 i j l x y z => fun G hc h => ps_of_par3 G (by unfold calS at hc; exact hc) h
  | .frz i => fun G hc h => by unfold ckS at h; cases h
  | .brk => psp_brk
  | .cnt => psp_cnt
  | .pas => psp_pas
  | .asgF i own x => fun G hc h => ps_of_asgF G (by unfold calS at hc; exact hc) h
  | .appF i x => fun G hc h => ps_of_appF G (by unfold calS at hc; exact hc) h
  | .insF i k x => fun G hc h => ps_of_insF G (by unfold calS at hc; exact hc) h
  | .popF i k => fun G hc h => ps_of_popF G (by unfold calS at hc; exact hc) h
  | .extF i x => fun G hc h => ps_of_extF G (by unfold calS at hc; exact hc) h
  | .expF x => fun G hc h => ps_of_expF G (by unfold calS at hc; exact hc) h
  | .ifeF t a b => ps_of_ifeF (pssP a) (pssP b)
  | .forF t it b => ps_of_forF (pssP b)
  | .retF x => fun G hc h => ps_of_retF G (by unfold calS at hc; exact hc) h
  | .unpF ts x => fun G hc h => ps_of_unpF G (by unfold calS at hc; exact hc) h
  | .stiF i k x => fun G hc h => ps_of_stiF G (by unfold calS at hc; exact hc) h
  | .retQ x => fun G hc h => ps_of_retQ G (by unfold calS at hc; exact hc) h
  | .retQN => fun G hc h => ps_of_retQN G h
  | .stq k x => fun G hc h => ps_of_stq G (by unfold calS at hc; exact hc) h
theorem pssP : ∀ ss : List St, PssP ss
  | [] => pss_of_nil
  | s :: ss => pss_of_cons (psP s) (pssP ss)
end
end OL
/-! A def as a whole; a module's defs; the law's end. -/
namespace OL
open PySem PySem.Spec PyProof.Rows L2
def GlT (K : PySem.W.Frag) (mg : Str → Option Value) (n : String) (d : D) : Prop := ∃ u v, mg (Str.ofString n) = some u ∧ RelV v u ∧ ∀ H Z, Rp K mg H Z d v
/-- a written constant, or an error's class -/
def TgT (K : PySem.W.Frag) (mg : Str → Option Value) (n : String) (d : D) : Prop := (isE d = false → GlT K mg n d) ∧ (isE d = true → ∃ C, mg (Str.ofString n) = some (.ref C))
theorem tgT_of {K : PySem.W.Frag} {mg : Str → Option Value} {n : String} {d : D} (h : GlT K mg n d) (e : isE d = false) : TgT K mg n d := ⟨fun _ => h, fun z => by rw [e] at z; cases z⟩
structure ExK (K : PySem.W.Frag) (C : Addr) : Prop where
  xin : PySem.W.excIn K C veMro "ValueError.__new__" = true
  kin : PySem.W.keepIn K (.ref C) = true
  sub : PySem.W.subIn K (.ref C) (.type "BaseException") = some true
  ty : PySem.W.typeIn K (.ref C) = some (.type "type")
def ExT (K : PySem.W.Frag) (mg : Str → Option Value) (k : String) : Prop := ∃ C, mg (Str.ofString k) = some (.ref C) ∧ ExK K C
theorem tgT_exc {K : PySem.W.Frag} {mg : Str → Option Value} {n : String} (h : ExT K mg n) : TgT K mg n (.exc n) := ⟨fun z => (by cases z), fun _ => let ⟨C, e, _⟩ := h; ⟨C, e⟩⟩
structure ModOk (K : PySem.W.Frag) (mg : Str → Option Value) : Prop where
  xk : XKit K mg
  blt : ∀ b : Blt, mg (bltName b) = none
  oth : ∀ x ∈ othN, mg x = none
  exm : ∀ k k' C C', isExc k = true → isExc k' = true → mg (Str.ofString k) = some (.ref C) → mg (Str.ofString k') = some (.ref C') → PySem.W.exmOne K (.ref C) (.ref C') = some (subX k k')
structure FnT (P : Program) (w : World) (K : PySem.W.Frag) (mg : Str → Option Value) (base : Heap) (k : Nat) (f : Fn) : Prop where
  ex : ∃ (fa : Addr) (fd : FuncData) (ps : List Str) (ds : List Value), FnOk P w K mg base (L2.CX P w) k fa fd ps (spG K mg f ps.length) ∧
    mg (Str.ofString f.name) = some (.ref fa) ∧ PySem.W.keepIn K (.ref fa) = true ∧ Binds K fd ps ds ∧ Vals (f.dfl.map valD) ds ∧ ∀ zs, f.run zs ≠ .bad → zs.length = ps.length
  dfl : f.dfl.all scalD = true
theorem FnT.mono {P : Program} {w : World} {K : PySem.W.Frag} {mg : Str → Option Value} {base : Heap} {j k : Nat} {f : Fn} (F : FnT P w K mg base j f) (h : j ≤ k) : FnT P w K mg base k f :=
  let ⟨fa, fd, ps, ds, a, r⟩ := F.ex
  ⟨⟨fa, fd, ps, ds, a.mono h, r⟩, F.dfl⟩
theorem defR_len {n k : Nat} {b : List St} {zs : List D} (h : defR n k b zs ≠ .bad) : zs.length = k := by
  unfold defR at h
  split at h
  · rename_i q; exact q.1
  · exact absurd rfl h
section
variable {P : Program} {w : World} {K : PySem.W.Frag} {mg : Str → Option Value} {base : Heap} {x qual : Str} {params : Arguments} {body : List Stmt} {scope : Scope} {dvs : List V} {f : Addr} {fd : FuncData} {N ps : List Str} {b : List St} {fr : Bool} {k : Nat}
theorem start_er {c : Cn} {H : Hp} {Z : Addr → Prop} {ds : List D} {vs : List V} (hc : c = ⟨K, mg, H, ⟨fun a => Z a ∨ H a = none, none⟩⟩) (r : RpA K mg H Z ds vs) (hl : vs.length = ps.length) (hp : ps.length ≤ N.length) :
    ER c H (L2.start N vs) (ds.map .v ++ List.replicate (N.length - ps.length) .n) := by
  subst hc
  have hd : ds.length = vs.length := r.length
  have no : ∀ (i : Nat) (es : List D), (ds.map Sl.v ++ List.replicate (N.length - ps.length) Sl.n)[i]? ≠ some (.o es) := fun i es e => by
    by_cases hi : i < ds.length
    · rw [List.getElem?_append_left (by simpa using hi), List.getElem?_map] at e
      cases q : ds[i]? with
      | none => rw [q] at e; cases e
      | some d => rw [q] at e; cases e
    · rw [List.getElem?_append_right (by simpa using hi), List.getElem?_replicate] at e
      split at e <;> cases e
  have noq : ∀ (i : Nat) (es : List D), (ds.map Sl.v ++ List.replicate (N.length - ps.length) Sl.n)[i]? ≠ some (.q es) := fun i es e => by
    by_cases hi : i < ds.length
    · rw [List.getElem?_append_left (by simpa using hi), List.getElem?_map] at e
      cases q : ds[i]? with
      | none => rw [q] at e; cases e
      | some d => rw [q] at e; cases e
    · rw [List.getElem?_append_right (by simpa using hi), List.getElem?_replicate] at e
      split at e <;> cases e
  refine ⟨?_, fun _ _ e _ => e, fun p hp => .inr hp, fun _ e => e, fun _ e => (by cases e), fun i es e => absurd e (noq i es), fun i d e => ?_, fun i es e => absurd e (no i es), fun i j a es fs e => absurd e (no i es)⟩
  · unfold L2.start
    simp only [List.length_append, List.length_map, List.length_replicate]
    omega
  · by_cases hi : i < ds.length
    · rw [List.getElem?_append_left (by simpa using hi), List.getElem?_map] at e
      cases q : ds[i]? with
      | none => rw [q] at e; cases e
      | some d' =>
        rw [q] at e
        cases e
        obtain ⟨v, hv, rv⟩ := r.get q
        refine ⟨v, ?_, rv.weak fun a o h z => ⟨.inl z, fun ⟨j, es, e1, _⟩ => no j es e1⟩⟩
        unfold L2.start
        rw [List.getElem?_append_left (by rw [List.length_map, ← hd]; exact hi), List.getElem?_map, hv]
        rfl
    · rw [List.getElem?_append_right (by simpa using hi), List.getElem?_replicate] at e
      split at e <;> cases e
theorem fn_ok (F : FunD K x qual params body scope dvs [] f fd) (M : ModOk K mg) (S : FnScope N ps scope)
    (hc : calSs (FnT P w K mg base k) (TgT K mg) (ExT K mg) b) (h : ckSs N scope fr b body = true) :
    FnOk P w K mg base (L2.CX P w) (k + 1) f fd ps (spF K mg (defR N.length ps.length b) fr ps.length) := by
  refine F.ok S (fun vs H Q E q => q.1) fun cdv A outer s H vs Q E hr q => ?_
  obtain ⟨hl, Z, ds, r, q⟩ := q
  have hpl : ps.length ≤ N.length := by have := congrArg List.length S.pre; rw [List.length_take] at this; omega
  have hd : ds.length = ps.length := r.length.trans hl
  let X : Cx := cxOf (L2.CX P w) P w K mg base N qual scope f cdv A outer s H E
  have G : GoodS (FnT P w K mg base k) (TgT K mg) (ExT K mg) X (fun cls d _ H' => E cls d H') :=
    ⟨⟨S.nd, (by have := hr.un; show (A.deeper _).units + 65 < cLine; omega), fun _ => rfl, fun _ g hg => (by
        obtain ⟨fa, fd', ps', ds', a1, a2, a3, a4, a5, a6⟩ := hg.ex
        exact ⟨⟨k, fa, fd', ps', ds', a1, hr, a2, a3, a4, a5, a6⟩, hg.dfl⟩), M.blt, M.oth, M.xk, fun n m g => g.2 rfl, fun n d g e => g.1 e⟩,
      takes_of rfl rfl rfl rfl, passes_of rfl, rfl, rfl, fun _ => rfl, S.kind, fun k' hk => let ⟨C, m, e⟩ := hk; ⟨C, m, ⟨e.xin, e.kin, e.sub, e.ty⟩⟩, M.exm⟩
  refine ⟨_, pssP b (X := X) (H0 := H) (Gp := ⟨fun a => Z a ∨ H a = none, none⟩) (fr := fr) G hc h, ?_⟩
  refine ⟨ds.map .v ++ List.replicate (N.length - ps.length) .n, start_er (c := cn X H ⟨fun a => Z a ∨ H a = none, none⟩) rfl r hl hpl, ?_⟩
  unfold defR at q
  rw [if_pos ⟨hd, hpl⟩] at q
  cases e : exs (ds.map .v ++ List.replicate (N.length - ps.length) .n) b with
  | nx ρ' =>
    rw [e] at q
    exact fun σ' H' er _ => q _ H' (fun a o e => er.sm a o e fun z => by cases z) .non fun _ es z => (by cases z)
  | rt d =>
    rw [e] at q
    exact fun v H' rt => q v H' (rt rfl).1 (rt rfl).2.1 (rt rfl).2.2
  | exc k' ρ' =>
    rw [e] at q
    exact fun σ' H' er _ C hk hm => q C H' hk hm fun a o e => er.sm a o e fun z => by cases z
  | bk _ => rw [e] at q; exact q.elim
  | ct _ => rw [e] at q; exact q.elim
  | bad => rw [e] at q; exact q.elim
  | rq d out => rw [e] at q; exact q.elim
theorem start_erQ {c : Cn} {H : Hp} {Z : Addr → Prop} {a : Addr} {l ds : List D} {xs us : List V} (hc : c = ⟨K, mg, H, ⟨fun a => Z a ∨ H a = none, some a⟩⟩) (hz : ¬ Z a) (ha : H a = some (.lst xs)) (rl : RpA K mg H Z l xs) (r : RpA K mg H Z ds us) (hl : (V.ref a :: us).length = ps.length) (hp : ps.length ≤ N.length) :
    ER c H (L2.start N (V.ref a :: us)) (.q l :: (ds.map .v ++ List.replicate (N.length - ps.length) .n)) := by
  subst hc
  have hd : ds.length = us.length := r.length
  have hl' : us.length + 1 = ps.length := hl
  have cs : ∀ (i : Nat) (s : Sl), (Sl.q l :: (ds.map Sl.v ++ List.replicate (N.length - ps.length) Sl.n))[i]? = some s → (i = 0 ∧ s = .q l) ∨ (∃ j d, i = j + 1 ∧ s = .v d ∧ ds[j]? = some d) ∨ s = .n := fun i s e => by
    cases i with
    | zero => cases e; exact .inl ⟨rfl, rfl⟩
    | succ j =>
      rw [List.getElem?_cons_succ] at e
      by_cases hi : j < ds.length
      · rw [List.getElem?_append_left (by simpa using hi), List.getElem?_map] at e
        cases q : ds[j]? with
        | none => rw [q] at e; cases e
        | some d => rw [q] at e; cases e; exact .inr (.inl ⟨j, d, rfl, rfl, q⟩)
      · rw [List.getElem?_append_right (by simpa using hi), List.getElem?_replicate] at e
        split at e
        · cases e; exact .inr (.inr rfl)
        · cases e
  have no : ∀ (i : Nat) (es : List D), (Sl.q l :: (ds.map Sl.v ++ List.replicate (N.length - ps.length) Sl.n))[i]? ≠ some (.o es) := fun i es e => by
    rcases cs i _ e with ⟨_, z⟩ | ⟨_, _, _, z, _⟩ | z <;> cases z
  have now : ∀ b, ¬ own (L2.start N (V.ref a :: us)) (Sl.q l :: (ds.map Sl.v ++ List.replicate (N.length - ps.length) Sl.n)) b := fun b ⟨j, es, e1, _⟩ => no j es e1
  have st0 : (L2.start N (V.ref a :: us))[(0 : Nat)]? = some (some (V.ref a)) := by unfold L2.start; rfl
  refine ⟨?_, fun _ _ e _ => e, fun p hp => .inr hp, fun _ e => e, fun b e => ?_, fun i es e => ?_, fun i d e => ?_, fun i es e => absurd e (no i es), fun i j a es fs e => absurd e (no i es)⟩
  · unfold L2.start
    simp only [List.length_append, List.length_map, List.length_replicate, List.length_cons]
    omega
  · have e' : a = b := Option.some.inj e
    subst e'
    refine ⟨fun z => z.elim hz fun w => (by rw [ha] at w; cases w), ⟨_, ha⟩, _, ha⟩
  · rcases cs i _ e with ⟨rfl, z⟩ | ⟨_, _, _, z, _⟩ | z
    · cases z
      exact ⟨rfl, a, xs, st0, rfl, ha, rl.weak fun b _ _ z => ⟨.inl z, now b⟩⟩
    · cases z
    · cases z
  · rcases cs i _ e with ⟨_, z⟩ | ⟨j, d', rfl, z, q⟩ | z
    · cases z
    · cases z
      obtain ⟨v, hv, rv⟩ := r.get q
      refine ⟨v, ?_, rv.weak fun b _ _ z => ⟨.inl z, now b⟩⟩
      have hj : j < us.length := (List.getElem?_eq_some_iff.mp hv).1
      unfold L2.start
      rw [List.getElem?_append_left (by rw [List.length_map, List.length_cons]; omega), List.getElem?_map, List.getElem?_cons_succ, hv]
      rfl
    · cases z
/-- a def that changes its first argument -/
theorem fn_okQ (F : FunD K x qual params body scope dvs [] f fd) (M : ModOk K mg) (S : FnScope N ps scope)
    (hc : calSs (FnT P w K mg base k) (TgT K mg) (ExT K mg) b) (h : ckSs N scope fr b body = true) :
    FnOk P w K mg base (L2.CX P w) (k + 1) f fd ps (spQ K mg (defQ N.length ps.length b) fr ps.length) := by
  refine F.ok S (fun vs H Q E q => q.1) fun cdv A outer s H vs Q E hr q => ?_
  obtain ⟨hl, Z, a, us, xs, l, ds, rfl, ha, hz, rl, r, q⟩ := q
  have hpl : ps.length ≤ N.length := by have := congrArg List.length S.pre; rw [List.length_take] at this; omega
  have hd : (D.lst l :: ds).length = ps.length := by rw [List.length_cons, r.length]; exact hl
  let X : Cx := cxOf (L2.CX P w) P w K mg base N qual scope f cdv A outer s H E
  have G : GoodS (FnT P w K mg base k) (TgT K mg) (ExT K mg) X (fun cls d _ H' => E cls d H') :=
    ⟨⟨S.nd, (by have := hr.un; show (A.deeper _).units + 65 < cLine; omega), fun _ => rfl, fun _ g hg => (by
        obtain ⟨fa, fd', ps', ds', a1, a2, a3, a4, a5, a6⟩ := hg.ex
        exact ⟨⟨k, fa, fd', ps', ds', a1, hr, a2, a3, a4, a5, a6⟩, hg.dfl⟩), M.blt, M.oth, M.xk, fun n m g => g.2 rfl, fun n d g e => g.1 e⟩,
      takes_of rfl rfl rfl rfl, passes_of rfl, rfl, rfl, fun _ => rfl, S.kind, fun k' hk => let ⟨C, m, e⟩ := hk; ⟨C, m, ⟨e.xin, e.kin, e.sub, e.ty⟩⟩, M.exm⟩
  refine ⟨_, pssP b (X := X) (H0 := H) (Gp := ⟨fun a => Z a ∨ H a = none, some a⟩) (fr := fr) G hc h, ?_⟩
  refine ⟨.q l :: (ds.map .v ++ List.replicate (N.length - ps.length) .n), start_erQ (c := cn X H ⟨fun a => Z a ∨ H a = none, some a⟩) rfl hz ha rl r hl hpl, ?_⟩
  unfold defQ at q
  replace q : (if (D.lst l :: ds).length = ps.length ∧ ps.length ≤ N.length then (exs (.q l :: (ds.map .v ++ List.replicate (N.length - ps.length) .n)) b).endQ else R.bad).all _ _ := q
  rw [if_pos ⟨hd, hpl⟩] at q
  have sm : ∀ {σ' : Sg} {H' : Hp} {ρ' : En}, ER (cn X H ⟨fun a => Z a ∨ H a = none, some a⟩) H' σ' ρ' → ∀ b o, H b = some o → b ≠ a → H' b = some o := fun er b o e n => er.sm b o e fun z => n (Option.some.inj z).symm
  cases e : exs (.q l :: (ds.map .v ++ List.replicate (N.length - ps.length) .n)) b with
  | nx ρ' =>
    rw [e] at q
    intro σ' H' er _
    cases e2 : ρ'[(0 : Nat)]? with
    | none =>
      have : (O.nx ρ').endQ = .bad := by simp only [O.endQ, e2]
      rw [this] at q; exact q.elim
    | some sl =>
      cases sl with
      | q out =>
        have : (O.nx ρ').endQ = .ok (.tup [.non, .lst out]) := by simp only [O.endQ, e2]
        rw [this] at q
        obtain ⟨d, out', z, q⟩ := q
        cases z
        obtain ⟨_, a', ys, f1, f2, f3, ro⟩ := er.lsq 0 out e2
        have f2' : a = a' := Option.some.inj f2
        subst f2'
        exact q _ H' ys (sm er) f3 (ro.weak fun b _ _ z => z.1) .non fun _ es z => by cases z
      | _ =>
        have : (O.nx ρ').endQ = .bad := by simp only [O.endQ, e2]
        rw [this] at q; exact q.elim
  | rq d out =>
    rw [e] at q
    intro v H' ⟨a', ys, f1, f2, f3, f4, f5, f6⟩
    obtain ⟨d', out', z, q⟩ := q
    cases z
    have f1' : a = a' := Option.some.inj f1
    subst f1'
    exact q v H' ys f2 f3 f4 f5 f6
  | exc k' ρ' =>
    rw [e] at q
    intro σ' H' er _ C hk hm
    obtain ⟨_, _, xs', g3⟩ := er.qg a rfl
    exact q C H' hk hm (sm er) ⟨xs', g3⟩
  | bk _ => rw [e] at q; exact q.elim
  | ct _ => rw [e] at q; exact q.elim
  | bad => rw [e] at q; exact q.elim
  | rt d => rw [e] at q; exact q.elim
end
/-- a def as the top has made it -/
structure DefIn (K : PySem.W.Frag) (mg : Str → Option Value) (x : Str) (st : Stmt) (dvs : List V) : Prop where
  ex : ∃ (f : Addr) (fd : FuncData), mg x = some (.ref f) ∧ FunD K x x (defArgs st) (defBody st) (defScope st) dvs [] f fd
section
variable {P : Program} {w : World} {K : PySem.W.Frag} {mg : Str → Option Value} {base h : Heap} {x : Str} {st : Stmt} {dvs : List V} {N ps : List Str} {b : List St} {fr : Bool} {k : Nat} {dfl : List D}
theorem fnT_mk {name : String} (D0 : DefIn K mg (Str.ofString name) st dvs) (M : ModOk K mg) (S : FnScope N ps (defScope st))
    (hb : ∀ f fd, FunD K (Str.ofString name) (Str.ofString name) (defArgs st) (defBody st) (defScope st) dvs [] f fd → ∃ ds, Vals (dfl.map OL.valD) ds ∧ Binds K fd ps ds) (hs : dfl.all scalD = true)
    (hc : calSs (FnT P w K mg base k) (TgT K mg) (ExT K mg) b) (hk : ckSs N (defScope st) fr b (defBody st) = true) :
    FnT P w K mg base (k + 1) ⟨name, defR N.length ps.length b, fr, dfl, false⟩ := by
  obtain ⟨f, fd, a, F⟩ := D0.ex
  obtain ⟨ds, h1, h2⟩ := hb f fd F
  exact ⟨⟨f, fd, ps, ds, fn_ok F M S hc hk, a, F.kp, h2, h1, fun zs hz => defR_len hz⟩, hs⟩
theorem defQ_len {n k : Nat} {b : List St} {zs : List D} (h : defQ n k b zs ≠ .bad) : zs.length = k := by
  unfold defQ at h
  split at h
  · split at h
    · rename_i q; exact q.1
    · exact absurd rfl h
  · exact absurd rfl h
theorem fnT_mkQ {name : String} (D0 : DefIn K mg (Str.ofString name) st dvs) (M : ModOk K mg) (S : FnScope N ps (defScope st))
    (hb : ∀ f fd, FunD K (Str.ofString name) (Str.ofString name) (defArgs st) (defBody st) (defScope st) dvs [] f fd → ∃ ds, Vals (dfl.map OL.valD) ds ∧ Binds K fd ps ds) (hs : dfl.all scalD = true)
    (hc : calSs (FnT P w K mg base k) (TgT K mg) (ExT K mg) b) (hk : ckSs N (defScope st) fr b (defBody st) = true) :
    FnT P w K mg base (k + 1) ⟨name, defQ N.length ps.length b, fr, dfl, true⟩ := by
  obtain ⟨f, fd, a, F⟩ := D0.ex
  obtain ⟨ds, h1, h2⟩ := hb f fd F
  exact ⟨⟨f, fd, ps, ds, fn_okQ F M S hc hk, a, F.kp, h2, h1, fun zs hz => defQ_len hz⟩, hs⟩
end
/-! ### the facts of a module -/
section
variable {K : PySem.W.Frag} {mg : Str → Option Value} {h : Heap} {fa : List He.Fa} {fn : List He.DefD} {pres : List String}
theorem say {f : He.Fa} (c : He.SaysD fa fn K) (m : f ∈ fa) : f.ok K = true := by
  have c1 := (He.ba (show ((fa.all fun f => f.ok K) && fn.all fun d => d.ok K) = true from congrArg (fun z : He.AlD => z.1) c)).1
  exact List.all_eq_true.mp c1 f m
theorem frees_mem : ∀ b : Blt, bltName b ∈ frees := by intro b; cases b <;> decide
theorem oth_mem' : ∀ x ∈ (othN.map fun x => (x : Str)), x ∈ frees := by decide +kernel
/-! the errors' classes told by the top -/
theorem excB_ok {K : PySem.W.Frag} {C : Addr} (h : excB K C = true) : ExcC K C := by
  unfold excB at h
  simp only [Bool.and_eq_true, decide_eq_true_eq] at h
  exact ⟨h.1, h.2.1, h.2.2.1, h.2.2.2.1, h.2.2.2.2.1, h.2.2.2.2.2.1, h.2.2.2.2.2.2.1, h.2.2.2.2.2.2.2⟩
section
variable {pres : List String} {tups : List (String × List Int)} {fa : List He.Fa} {fn : List He.DefD} {K : PySem.W.Frag}
theorem SaysX.all (c : SaysX pres tups fa fn K) : ((He.obsD fa fn K).1 = true ∧ exAll pres K = true ∧ tpAll tups K = true) ∧ (He.obsD fa fn K).2 = (He.valD fn).2 := by
  have c' : obsX pres tups fa fn K = He.valD fn := c
  have h1 : (obsX pres tups fa fn K).1 = true := by rw [c']; rfl
  have h2 : (obsX pres tups fa fn K).2 = (He.valD fn).2 := by rw [c']
  have h3 : ((He.obsD fa fn K).1 && (exAll pres K && tpAll tups K)) = true := h1
  rw [Bool.and_eq_true, Bool.and_eq_true] at h3
  exact ⟨h3, h2⟩
theorem SaysX.d (c : SaysX pres tups fa fn K) : He.SaysD fa fn K := Prod.ext c.all.1.1 c.all.2
theorem SaysX.x (c : SaysX pres tups fa fn K) : exAll pres K = true := c.all.1.2.1
theorem SaysX.t (c : SaysX pres tups fa fn K) : tpAll tups K = true := c.all.1.2.2
end
theorem modOk (c : He.SaysD fa fn K) (cx : exAll pres K = true) (hs : ∀ f ∈ modFa pres, f ∈ fa) (X : K.In h) (G : h.Ns mainGlobals mg) : ModOk K mg := by
  have fr : ∀ x ∈ frees, mg x = none := fun x hx => He.free_ok X G (say c (hs _ (List.mem_append_left _ (List.mem_append_left _ (List.mem_map.mpr ⟨x, hx, rfl⟩)))))
  have pr : ∀ k, isExc k = true → ∀ C, mg (Str.ofString k) = some (.ref C) → k ∈ pres ∧ C = He.ga K (Str.ofString k) := fun k hk C hC => by
    have hk : k ∈ excNames := by
      unfold isExc at hk
      rw [List.contains_iff_mem] at hk
      exact hk
    by_cases hp : k ∈ pres
    · refine ⟨hp, ?_⟩
      have e := He.glo_ok X G (say c (hs (.glo (Str.ofString k)) (List.mem_append_right _ (List.mem_flatMap.mpr ⟨k, hp, List.mem_cons_self⟩))))
      rw [hC] at e
      cases e
      rfl
    · have e := He.free_ok X G (say c (hs (.free (Str.ofString k)) (List.mem_append_left _ (List.mem_append_right _ (List.mem_map.mpr ⟨k, List.mem_filter.mpr ⟨hk, by simpa using hp⟩, rfl⟩)))))
      rw [hC] at e
      cases e
  have xs : ∀ k ∈ pres, excB K (He.ga K (Str.ofString k)) = true ∧ PySem.W.kitOne K (.ref (He.ga K (Str.ofString k))) (.type "ValueError") = some true ∧
      (∀ t ∈ tyL, PySem.W.kitOne K (.type t) (.ref (He.ga K (Str.ofString k))) = some false) ∧ ∀ k' ∈ pres, PySem.W.kitOne K (.ref (He.ga K (Str.ofString k))) (.ref (He.ga K (Str.ofString k'))) = some (subX k k') := fun k hk => by
    have h := List.all_eq_true.mp (Bool.and_eq_true_iff.mp cx).2 k hk
    simp only [Bool.and_eq_true, decide_eq_true_eq, List.all_eq_true] at h
    exact ⟨h.1, h.2.1, h.2.2.1, h.2.2.2⟩
  have xk : XKit K mg := ⟨fun k C hk m => by (obtain ⟨p, rfl⟩ := pr k hk C m; exact excB_ok (xs k p).1),
    fun k k' C C' hk hk' m m' => by (obtain ⟨p, rfl⟩ := pr k hk C m; obtain ⟨p', rfl⟩ := pr k' hk' C' m'; exact (xs k p).2.2.2 k' p'),
    fun k C hk m => by (obtain ⟨p, rfl⟩ := pr k hk C m; exact (xs k p).2.1),
    fun t ht k C hk m => by (obtain ⟨p, rfl⟩ := pr k hk C m; exact (xs k p).2.2.1 t ht),
    of_decide_eq_true (Bool.and_eq_true_iff.mp cx).1⟩
  refine ⟨xk, fun b => fr _ (frees_mem b), fun x hx => fr _ (oth_mem' x hx), fun k k' C C' hk hk' m m' => ?_⟩
  obtain ⟨p, rfl⟩ := pr k hk C m
  obtain ⟨p', rfl⟩ := pr k' hk' C' m'
  exact He.exm_ok (say c (hs _ (List.mem_append_right _ (List.mem_flatMap.mpr ⟨k, p, List.mem_cons_of_mem _ (List.mem_cons_of_mem _ (List.mem_map.mpr ⟨k', p', rfl⟩))⟩))))
theorem exT (c : He.SaysD fa fn K) (hs : ∀ f ∈ modFa pres, f ∈ fa) (X : K.In h) (G : h.Ns mainGlobals mg) {k : String} (hp : k ∈ pres) : ExT K mg k := by
  have e := He.glo_ok X G (say c (hs (.glo (Str.ofString k)) (List.mem_append_right _ (List.mem_flatMap.mpr ⟨k, hp, List.mem_cons_self⟩))))
  obtain ⟨a1, a2, a3, a4⟩ := He.exc_ok (say c (hs (.exc (Str.ofString k)) (List.mem_append_right _ (List.mem_flatMap.mpr ⟨k, hp, List.mem_cons_of_mem _ List.mem_cons_self⟩))))
  exact ⟨_, e, a1, a2, a3, a4⟩
theorem glT_int (c : He.SaysD fa fn K) (X : K.In h) (G : h.Ns mainGlobals mg) {n : String} {i : Int} (m : .int (Str.ofString n) i ∈ fa) : GlT K mg n (.int i) :=
  let ⟨t, e⟩ := He.int_ok X G (say c m)
  ⟨_, .int i, e, ⟨t, rfl⟩, fun _ _ => .int i⟩
theorem rpa_ints {K : PySem.W.Frag} {mg : Str → Option Value} {H : Hp} {Z : Addr → Prop} : ∀ is : List Int, RpA K mg H Z (is.map .int) ((is.map He.Dv.int).map (He.Dv.v K))
  | [] => .nil
  | i :: is => .cons (.int i) (rpa_ints is)
theorem glT_tup (c : He.SaysD fa fn K) (X : K.In h) (G : h.Ns mainGlobals mg) {tups : List (String × List Int)} (ct : tpAll tups K = true) {n : String} {is : List Int} (m : .glo (Str.ofString n) ∈ fa) (mt : (n, is) ∈ tups) : GlT K mg n (.tup (is.map .int)) :=
  have t := List.all_eq_true.mp ct _ mt
  ⟨_, .ref (He.ga K (Str.ofString n)), He.glo_ok X G (say c m), rfl, fun H Z => .tup (He.tupB_ok t H) (rpa_ints is)⟩
theorem glT_str (c : He.SaysD fa fn K) (X : K.In h) (G : h.Ns mainGlobals mg) {n : String} {z : Str} (m : .str (Str.ofString n) z ∈ fa) : GlT K mg n (.str z) :=
  let ⟨t, e⟩ := He.str_ok X G (say c m)
  ⟨_, .str z, e, ⟨t, rfl⟩, fun _ _ => .str z⟩
theorem defIn (c : He.SaysD fa fn K) (X : K.In h) (G : h.Ns mainGlobals mg) (i : Nat) {x : Str} {st : Stmt} {dfl : List He.Dv} (hd : fn[i]? = some (dd x st dfl)) (m : .glo x ∈ fa) : DefIn K mg x st (dfl.map (He.Dv.v K)) :=
  let ⟨fd, F⟩ := c.def_ i hd
  ⟨⟨_, fd, He.glo_ok X G (say c m), F⟩⟩
end
/-! ### the law -/
def spLaw (K : PySem.W.Frag) : Sp := fun vs H Q _ => ∃ (a : Addr) (ns : List Int), vs = [.ref a] ∧ ScA K H a (ns.map V.int) ∧ ns.length ≤ 63 ∧ ∀ H', Q (.bl true) H'
theorem law_fn {P : Program} {w : World} {K : PySem.W.Frag} {mg : Str → Option Value} {base : Heap} {CX : CXT} {k : Nat} {f : Addr} {fd : FuncData} {ps : List Str} {F : List D → R D} {fr : Bool} {n : Nat} (hn : n = 1)
    (h : FnOk P w K mg base CX k f fd ps (spF K mg F fr n)) (hF : ∀ ns : List Int, ns.length ≤ 63 → F [.scr ns] = .ok (.bl true)) : FnOk P w K mg base CX k f fd ps (spLaw K) :=
  h.imp fun vs H Q E ⟨a, ns, e1, e2, e3, q⟩ => by
    subst e1 hn
    refine ⟨rfl, fun _ => False, [.scr ns], .cons (.scr e2) .nil, ?_⟩
    rw [hF ns e3]
    intro v H' _ r _
    cases r
    exact q H'
theorem walk {l : PySem.W.OpenLaw} {q : Program} {loose : List Str} {XP : (Str → Option Value) → Heap → Prop} {YP : World → Heap → Prop} {d : DefRec} {k : Nat} {F : List D → R D}
    (hF : ∀ ns : List Int, ns.length ≤ 63 → F [.scr ns] = .ok (.bl true))
    (hn : l.most = some 63) (hdf : d.params.defaults = []) (hr : Room k callerA)
    (G : ∀ (w : World) (mg : Str → Option Value) (fa : Addr) (h : Heap), YP w h → h.Ns mainGlobals mg → mg d.name = some (.ref fa) →
      ∃ (K : PySem.W.Frag) (fd : FuncData), K.In h ∧ (∀ (s : Shared) (u : Value), BindsTo s fd ⟨[u], []⟩ [("script", u)]) ∧ ∀ base : Heap, K.In base → base.Ns mainGlobals mg → FnOk l.prog w K mg base (L2.CX l.prog w) k fa fd ["script"] (spF K mg F false 1)) :
    PySem.W.WalkO q loose XP YP l.row.toRowW d [] (fun f vs => PySem.call f vs) := by
  refine Att.attach_call hn hdf fun w s₀ s₁ mg mb fa o pm cd doc a vs ns Gt Y ho hd hcd hmg hobj hints hlen hg => ?_
  obtain ⟨K, fd, KX, hb, hG⟩ := G w mg fa _ Y Gt.T.g hmg
  refine law_call KX Gt.T.g Gt.T.b Gt.T.builtins Gt.T.nolimit hg hobj hints (Nat.le_trans hlen (by decide)) hr (fun base p q => law_fn (F := F) rfl (hG base p q) hF) hb (fun H hO hS => ⟨a, ns, rfl, ?_, hlen, fun _ => rfl⟩) fun H e s' ⟨_, _, _, _, _, _, _, _, _, _, _, _, z⟩ => z
  rcases hS with (e | e) | e
  · rcases hO a with z | ⟨o, xs, z⟩
    · rw [z] at e; cases e
    · rw [z] at e; cases e
  · exact .inl e
  · exact .inr e
end OL
/-! A def that asks another one within a try whose except clause raises another error, from None. -/
namespace OL
open PySem PySem.Spec PyProof.Rows L2
theorem takes_no {X : Cx} : TakesF X no := takesF0
/-- a def's promise whose errors have no context -/
structure FnNT (P : Program) (w : World) (K : PySem.W.Frag) (mg : Str → Option Value) (base : Heap) (k : Nat) (f : Fn) : Prop where
  ex : ∃ (fa : Addr) (fd : FuncData) (ps : List Str), FnOk P w K mg base (L2N.CX P w) k fa fd ps (spF K mg f.run f.fr ps.length) ∧
    mg (Str.ofString f.name) = some (.ref fa) ∧ PySem.W.keepIn K (.ref fa) = true ∧ Binds K fd ps [] ∧ ∀ zs, f.run zs ≠ .bad → zs.length = ps.length
theorem pmk5_own0 {X : Cx} {C : Addr} {bmB : List Value} {B newId initId : String} {x : Str} {p pos : Pos} (F : ExcBaseFacts B newId initId bmB) (q : PySem.W.excIn X.K C bmB newId = true) (gC : X.mg x = some (.ref C)) (kC : PySem.W.keepIn X.K (.ref C) = true)
    (r : Raises X (.ref C)) (hg : Gl X x) (hdb : (x == ("__debug__" : Str)) = false) : L2H.PMk5 X (.Call (.Name x p) [] [] pos) (fun _ H Q => Q (.ref C) none H) := by
  intro pins s σ H Q I h
  apply wpAny_Call_Name_kw
  apply ld_glob I hg gC _ hdb
  apply PySem.W.callWith_K0 I.kIn kC
  show wpAny _ _ (call (.ref C) []) _ _ _
  obtain ⟨bm, Nn, nm, qn, bs, hdct, sn, sub, ab, col, dd, k0, k1, k2, k3, k5, mN, hC, hN, hni, T⟩ := exc_obj I.kIn q
  refine wpAny_call_exc_subT F T hC hN hni (fun h' e hm => L2H.mk_of5 I hm r h (I.hok.gone hm.new)) ?_
  show 0 ≤ sizeLine
  exact Nat.zero_le _
/-! ### if t: raise c() -/
noncomputable def defI (n k : Nat) (t : Ex) (c : String) (args : List D) : R D :=
  if args.length = k ∧ k ≤ n then (match tst (args.map .v ++ List.replicate (n - k) .n) t with | .ok true => .exc c | .ok false => .ok .non | _ => .bad) else .bad
def ckIf (N : List Str) (sc : Scope) (t : Ex) (c : String) : List Stmt → Bool
  | [s] => match asIf s with
    | some (e, [r], []) => ck N t sc e && (match asRai r with | some x => x == Str.ofString c && glB sc x && dbg x && isExc c | none => false)
    | _ => false
  | _ => false
section
variable {P : Program} {w : World} {K : PySem.W.Frag} {mg : Str → Option Value} {base : Heap} {x qual : Str} {params : Arguments} {body : List Stmt} {scope : Scope} {dvs : List V} {f : Addr} {fd : FuncData} {N ps : List Str} {t : Ex} {k : Nat} {c : String}
theorem fn_okN (F : FunD K x qual params body scope dvs [] f fd) (M : ModOk K mg) (S : FnScope N ps scope)
    (hc : cal (FnT P w K mg base k) (TgT K mg) t ∧ ExT K mg c) (h : ckIf N scope t c body = true) :
    FnOk P w K mg base (L2N.CX P w) (k + 1) f fd ps (spF K mg (defI N.length ps.length t c) false ps.length) := by
  refine F.ok S (fun vs H Q E q => q.1) fun cdv A outer s H vs Q E hr q => ?_
  obtain ⟨hl, Z, ds, rr, q⟩ := q
  have hpl : ps.length ≤ N.length := by have := congrArg List.length S.pre; rw [List.length_take] at this; omega
  have hd : ds.length = ps.length := rr.length.trans hl
  let X : Cx := cxOf (L2N.CX P w) P w K mg base N qual scope f cdv A outer s H E
  have G : Good (FnT P w K mg base k) (TgT K mg) X false :=
    ⟨S.nd, (by have := hr.un; show (A.deeper _).units + 65 < cLine; omega), fun _ => rfl, fun _ g hg => (by
        obtain ⟨fa, fd', ps', ds', a1, a2, a3, a4, a5, a6⟩ := hg.ex
        exact ⟨⟨k, fa, fd', ps', ds', a1, hr, a2, a3, a4, a5, a6⟩, hg.dfl⟩), M.blt, M.oth, M.xk, fun n m g => g.2 rfl, fun n d g e => g.1 e⟩
  have tk : L2N.Takes X (fun cls d _ H' => E cls d H') := L2N.takes_of rfl rfl rfl rfl
  obtain ⟨C, hm, xo⟩ := hc.2
  unfold ckIf at h
  split at h <;> (try (cases h; done))
  split at h <;> (try (cases h; done))
  rename_i st e r he
  obtain ⟨pos, rfl⟩ := asIf_eq he
  rw [Bool.and_eq_true] at h
  obtain ⟨h1, h2⟩ := h
  split at h2 <;> (try (cases h2; done))
  rename_i y hy
  obtain ⟨p1, q1, r1, rfl⟩ := asRai_eq hy
  simp only [Bool.and_eq_true, beq_iff_eq] at h2
  obtain ⟨⟨⟨rfl, g1⟩, g2⟩, g3⟩ := h2
  have pt := (snd t).1.pt (X := X) (H0 := H) (Gp := ⟨fun a => Z a ∨ H a = none, none⟩) (W := no) G takes_no (fun z => by cases z) hc.1 h1
  have rs := L2N.ps_raise (X := X) (pos := r1) rfl tk (L2H.PMk5.pmk (pmk5_own0 (X := X) PySem.F.excBase_ValueError xo.xin hm xo.kin (raises_own xo.sub xo.ty) (gl_of (X := X) g1) (dbg_of g2).1 (p := p1) (pos := q1)))
  refine ⟨_, pss_one (ps_if pt (pss_one rs) pss_nil), ?_⟩
  have er0 := start_er (c := cn X H ⟨fun a => Z a ∨ H a = none, none⟩) (N := N) rfl rr hl hpl
  unfold defI at q
  rw [if_pos ⟨hd, hpl⟩] at q
  refine ⟨_, er0, ?_⟩
  generalize ds.map Sl.v ++ List.replicate (N.length - ps.length) Sl.n = ρ0 at *
  cases e1 : tst ρ0 t with
  | ok b =>
    rw [e1] at q
    cases b with
    | true => exact fun H' s' => iteT (q C H' g3 hm s')
    | false => exact fun H' s' => iteF (q _ H' s' .non fun _ es z => by cases z)
  | exc _ => rw [e1] at q; exact q.elim
  | bad => rw [e1] at q; exact q.elim
theorem defI_len {n k : Nat} {zs : List D} (h : defI n k t c zs ≠ .bad) : zs.length = k := by
  unfold defI at h
  split at h
  · rename_i q; exact q.1
  · exact absurd rfl h
end
/-! ### try: g(v) except c: raise c'() from None -/
def asTrf : Stmt → Option (Stmt × Str × Str)
  | .Try [p] [.ExceptHandler (some (.Name x _)) none [.Raise (some (.Call (.Name y _) [] [] _)) (some (.Constant .none _ _)) _] _] [] [] _ => some (p, x, y)
  | _ => none
theorem asTrf_eq {s p : Stmt} {x y : Str} (h : asTrf s = some (p, x, y)) : ∃ a b c q1 q2 j q3 q4, s = .Try [p] [.ExceptHandler (some (.Name x a)) none [.Raise (some (.Call (.Name y q1) [] [] q2)) (some (.Constant .none j q3)) q4] b] [] [] c := by
  unfold asTrf at h; split at h <;> cases h; exact ⟨_, _, _, _, _, _, _, _, rfl⟩
def ckT (N : List Str) (sc : Scope) (fr : Bool) (g : Fn) (i : Nat) (c c' : String) (r : List St) : List Stmt → Bool
  | s :: es => (match asTrf s with
    | some (p, x, y) => x == Str.ofString c && glB sc x && dbg x && isExc c && (y == Str.ofString c' && glB sc y && dbg y && isExc c') && (match asExp p with
      | some v => ck N (.call g false [.var i]) sc v && noComp v
      | none => false)
    | none => false) && ckSs N sc fr r es
  | [] => false
noncomputable def defT (n k : Nat) (g : Fn) (i : Nat) (c c' : String) (r : List St) (args : List D) : R D :=
  if args.length = k ∧ k ≤ n then (match getv (args.map .v ++ List.replicate (n - k) .n) i with
    | .ok d => (match g.run [d] with
      | .ok _ => (exs (args.map .v ++ List.replicate (n - k) .n) r).end
      | .exc e => if subX e c then .exc c' else .exc e
      | .bad => .bad)
    | _ => .bad) else .bad
section
variable {P : Program} {w : World} {K : PySem.W.Frag} {mg : Str → Option Value} {base : Heap} {x qual : Str} {params : Arguments} {body : List Stmt} {scope : Scope} {dvs : List V} {f : Addr} {fd : FuncData} {N ps : List Str} {r : List St} {fr : Bool} {k i : Nat} {c c' : String} {g : Fn}
theorem fn_okT (F : FunD K x qual params body scope dvs [] f fd) (M : ModOk K mg) (S : FnScope N ps scope)
    (hc : FnNT P w K mg base k g ∧ calSs (FnT P w K mg base k) (TgT K mg) (ExT K mg) r ∧ ExT K mg c ∧ ExT K mg c') (hg0 : g.dfl = []) (h : ckT N scope fr g i c c' r body = true) :
    FnOk P w K mg base (L2.CX P w) (k + 1) f fd ps (spF K mg (defT N.length ps.length g i c c' r) fr ps.length) := by
  refine F.ok S (fun vs H Q E q => q.1) fun cdv A outer s H vs Q E hr q => ?_
  obtain ⟨hl, Z, ds, rr, q⟩ := q
  have hpl : ps.length ≤ N.length := by have := congrArg List.length S.pre; rw [List.length_take] at this; omega
  have hd : ds.length = ps.length := rr.length.trans hl
  let X : Cx := cxOf (L2.CX P w) P w K mg base N qual scope f cdv A outer s H E
  have G : GoodS (FnT P w K mg base k) (TgT K mg) (ExT K mg) X (fun cls d _ H' => E cls d H') :=
    ⟨⟨S.nd, (by have := hr.un; show (A.deeper _).units + 65 < cLine; omega), fun _ => rfl, fun _ g hg => (by
        obtain ⟨fa, fd', ps', ds', a1, a2, a3, a4, a5, a6⟩ := hg.ex
        exact ⟨⟨k, fa, fd', ps', ds', a1, hr, a2, a3, a4, a5, a6⟩, hg.dfl⟩), M.blt, M.oth, M.xk, fun n m g => g.2 rfl, fun n d g e => g.1 e⟩,
      takes_of rfl rfl rfl rfl, passes_of rfl, rfl, rfl, fun _ => rfl, S.kind, fun k' hk => let ⟨C, m, e⟩ := hk; ⟨C, m, ⟨e.xin, e.kin, e.sub, e.ty⟩⟩, M.exm⟩
  have pa : ∀ hd : Option Value, PassesOwnAt (model X.prog X.w) (X.A.mark hd) X.A X.env X.xe := fun hd => L2H.passesAt_of rfl hd
  obtain ⟨hgN, hcr, hx, hx'⟩ := hc
  cases body with
  | nil => unfold ckT at h; cases h
  | cons st es =>
    unfold ckT at h
    rw [Bool.and_eq_true] at h
    obtain ⟨h, hr2⟩ := h
    split at h <;> (try (cases h; done))
    rename_i p x' y' he
    obtain ⟨a0, b0, c0, q1, q2, j, q3, q4, rfl⟩ := asTrf_eq he
    simp only [Bool.and_eq_true, beq_iff_eq] at h
    obtain ⟨⟨⟨⟨⟨rfl, h1⟩, h2⟩, h3⟩, ⟨⟨rfl, g1⟩, g2⟩, g3⟩, h4⟩ := h
    split at h4 <;> (try (cases h4; done))
    rename_i v hv
    obtain ⟨pe0, rfl⟩ := asExp_eq hv
    rw [Bool.and_eq_true] at h4
    obtain ⟨h4, h5⟩ := h4
    obtain ⟨q0, es1, pc, rfl, m1, m2, m3, m4, m5, m6⟩ := ck_call h4
    obtain ⟨C, hm, xo⟩ := G.exc c hx
    obtain ⟨C', hm', xo'⟩ := G.exc c' hx'
    obtain ⟨fa, fd', ps', F', hmg, hkp, hb', hlen⟩ := hgN.ex
    cases es1 with
    | nil => unfold ckL at m3; cases m3
    | cons e1 es1 =>
      have m3' := m3
      unfold ckL at m3'
      rw [Bool.and_eq_true, Bool.and_eq_true] at m3'
      let cc : Cn := cn X H ⟨fun a => Z a ∨ H a = none, none⟩
      have er0 := start_er (c := cc) (N := N) rfl rr hl hpl
      have call : ∀ (W' : WX) (pn : List (Addr × Obj)) (xe : Value → Shared → Prop), L2N.Takes (X.tr pn xe) W' → PE (X.tr pn xe) (.Call (.Name (Str.ofString g.name) q0) (e1 :: es1) [] pc) (fun σ H1 Q1 => tA cc no [.var i] σ H1 fun vs H2 => spF K mg g.run g.fr ps'.length (vs ++ []) H2 Q1 (L2.WE W' σ)) := fun W' pn xe tk =>
        pe_callD (X := X.tr pn xe) (dvs := []) F' hr hb' .nil (gl_of (X := X) m1) hmg hkp (fun σ => L2N.passAt tk σ) (pa_of (X := X.tr pn xe) (H0 := H) (Gp := ⟨fun a => Z a ∨ H a = none, none⟩) (W := no) (hot := false)
          (tb := FnT P w K mg base k) (tg := TgT K mg) ⟨G.g.nd, G.g.un, G.g.calm, fun h f hf => let c := G.g.calls h f hf; ⟨c.ex, c.dfl⟩, G.g.blt, G.g.oth, G.g.xk, G.g.gle, G.g.glb⟩ takes_no (fun y hy => (snd y).1) (fun z => by cases z) (by unfold calL; exact ⟨by unfold cal; trivial, by unfold calL; trivial⟩) m3) (dbg_of m2).1 (star_of m3'.1.2 es1 _) (nostars m3'.2 _ pc)
      have main := L2H.ps_try_onlyX (X := X) (x := Str.ofString c) (c := .ref C) (body := [.Expr (.Call (.Name (Str.ofString g.name) q0) (e1 :: es1) [] pc) pe0]) (suite := []) (b₀ := .Raise (some (.Call (.Name (Str.ofString c') q1) [] [] q2)) (some (.Constant .none j q3)) q4) (np := a0) (pos := c0) (pos' := b0)
        (ts := fun _ _ _ => fun _ σ H => E (.ref C') none H) (Wout := fun cls d _ H' => E cls d H')
        G.st G.fr ⟨gl_of (X := X) h1, (dbg_of h2).1, .inl hm⟩ pa G.tk
        (fun W' pn xe tk tk2 hp => pss_one (ps_expr (call W' pn xe tk) (sw_none h5 _ _ _)))
        (fun a oe cls d pn hz hf tk hot => pss_one (L2H.ps_raiseHN hot tk (pmk5_own0 (X := L2H.suiteX X a ((a, oe) :: pn)) PySem.F.excBase_ValueError xo'.xin hm' xo'.kin (raises_own xo'.sub xo'.ty) (gl_of (X := X) g1) (dbg_of g2).1)))
      have rest := pssP r (X := X) (H0 := H) (Gp := ⟨fun a => Z a ∨ H a = none, none⟩) (fr := fr) G hcr hr2
      refine ⟨_, pss_cons main rest, ?_⟩
      unfold defT at q
      rw [if_pos ⟨hd, hpl⟩] at q
      refine ⟨_, er0, ?_⟩
      generalize ds.map Sl.v ++ List.replicate (N.length - ps.length) Sl.n = ρ0 at *
      have ev1 : evs ρ0 [.var i] = (getv ρ0 i).bind fun d => .ok [d] := by
        unfold evs
        show (ev ρ0 (.var i)).bind _ = _
        unfold ev
        cases getv ρ0 i <;> first | rfl | (unfold evs; rfl)
      rw [ev1]
      cases e2 : getv ρ0 i with
      | exc _ => rw [e2] at q; exact q.elim
      | bad => rw [e2] at q; exact q.elim
      | ok d =>
        rw [e2] at q
        intro vs' H1 po
        have ra : RpA K mg H1 (Zf cc (L2.start N vs) ρ0) [d] (vs' ++ []) := by
          rw [List.append_nil]
          exact po.rp rfl
        have er1 : ER cc H1 (L2.start N vs) ρ0 := er0.same po.same
        have hlg : [d].length = ps'.length := hlen [d] fun z => by
          have q' : (match g.run [d] with | .ok _ => (exs ρ0 r).end | .exc e => if subX e c then .exc c' else .exc e | .bad => .bad : R D).all _ _ := q
          rw [z] at q'
          exact q'
        refine ⟨by rw [← ra.length]; exact hlg, _, [d], ra, ?_⟩
        have q' : (match g.run [d] with | .ok _ => (exs ρ0 r).end | .exc e => if subX e c then .exc c' else .exc e | .bad => .bad : R D).all _ _ := q
        cases e3 : g.run [d] with
        | bad => rw [e3] at q'; exact q'.elim
        | ok d2 =>
          rw [e3] at q'
          intro v2 H2 s2 _ _
          refine ⟨ρ0, er1.same s2, ?_⟩
          have q2 : (exs ρ0 r).end.all _ _ := q'
          cases e4 : exs ρ0 r with
          | nx ρ2 =>
            rw [e4] at q2
            exact fun σ' H' er _ => q2 _ H' (fun a o e => er.sm a o e fun z => by cases z) .non fun _ es z => (by cases z)
          | rt d =>
            rw [e4] at q2
            exact fun v H' rt => q2 v H' (rt rfl).1 (rt rfl).2.1 (rt rfl).2.2
          | exc k' ρ2 =>
            rw [e4] at q2
            exact fun σ' H' er _ C hk hm => q2 C H' hk hm fun a o e => er.sm a o e fun z => by cases z
          | bk _ => rw [e4] at q2; exact q2.elim
          | ct _ => rw [e4] at q2; exact q2.elim
          | bad => rw [e4] at q2; exact q2.elim
          | rq d out => rw [e4] at q2; exact q2.elim
        | exc k' =>
          rw [e3] at q'
          intro C2 H2 ie m s2
          have er2 := er1.same s2
          have q2 : (if subX k' c = true then R.exc c' else R.exc k' : R D).all _ _ := q'
          refine ⟨subX k' c, G.exm k' c C2 C ie h3 m hm, fun hs a ha => ?_, fun hs => ?_⟩
          · rw [if_pos hs] at q2
            exact q2 C' H2 g3 hm' fun a o e => er2.sm a o e fun z => by cases z
          · rw [if_neg (by rw [hs]; decide)] at q2
            exact q2 C2 H2 ie m fun a o e => er2.sm a o e fun z => by cases z
theorem defT_len {n k : Nat} {zs : List D} (h : defT n k g i c c' r zs ≠ .bad) : zs.length = k := by
  unfold defT at h
  split at h
  · rename_i q; exact q.1
  · exact absurd rfl h
end
theorem FnNT.mono {P : Program} {w : World} {K : PySem.W.Frag} {mg : Str → Option Value} {base : Heap} {j k : Nat} {f : Fn} (F : FnNT P w K mg base j f) (h : j ≤ k) : FnNT P w K mg base k f :=
  let ⟨fa, fd, ps, a, r⟩ := F.ex
  ⟨⟨fa, fd, ps, a.mono h, r⟩⟩
section
variable {P : Program} {w : World} {K : PySem.W.Frag} {mg : Str → Option Value} {base : Heap} {st : Stmt} {dvs : List V} {N ps : List Str} {r : List St} {fr : Bool} {k i : Nat} {c c' : String} {g : Fn} {t : Ex}
theorem fnN_mk {name : String} (D0 : DefIn K mg (Str.ofString name) st dvs) (M : ModOk K mg) (S : FnScope N ps (defScope st))
    (hb : ∀ f fd, FunD K (Str.ofString name) (Str.ofString name) (defArgs st) (defBody st) (defScope st) dvs [] f fd → Binds K fd ps [])
    (hc : cal (FnT P w K mg base k) (TgT K mg) t ∧ ExT K mg c) (hk : ckIf N (defScope st) t c (defBody st) = true) :
    FnNT P w K mg base (k + 1) ⟨name, defI N.length ps.length t c, false, [], false⟩ := by
  obtain ⟨f, fd, a, F⟩ := D0.ex
  exact ⟨⟨f, fd, ps, fn_okN F M S hc hk, a, F.kp, hb f fd F, fun zs hz => defI_len hz⟩⟩
theorem fnT_mkT {name : String} (D0 : DefIn K mg (Str.ofString name) st dvs) (M : ModOk K mg) (S : FnScope N ps (defScope st))
    (hb : ∀ f fd, FunD K (Str.ofString name) (Str.ofString name) (defArgs st) (defBody st) (defScope st) dvs [] f fd → Binds K fd ps [])
    (hc : FnNT P w K mg base k g ∧ calSs (FnT P w K mg base k) (TgT K mg) (ExT K mg) r ∧ ExT K mg c ∧ ExT K mg c') (hg : g.dfl = []) (hk : ckT N (defScope st) fr g i c c' r (defBody st) = true) :
    FnT P w K mg base (k + 1) ⟨name, defT N.length ps.length g i c c' r, fr, [], false⟩ := by
  obtain ⟨f, fd, a, F⟩ := D0.ex
  exact ⟨⟨f, fd, ps, [], fn_okT F M S hc hg hk, a, F.kp, hb f fd F, .nil, fun zs hz => defT_len hz⟩, rfl⟩
end
def trfR (x : R D) (c c' : String) (y : R D) : R D := match x with
  | .ok _ => y
  | .exc e => if subX e c then .exc c' else .exc e
  | .bad => .bad
@[simp] theorem trfR_ok (d : D) (c c' : String) (y : R D) : trfR (.ok d) c c' y = y := rfl
@[simp] theorem trfR_exc (e c c' : String) (y : R D) : trfR (.exc e) c c' y = if subX e c then .exc c' else .exc e := rfl
theorem defT_1 {n : Nat} {g : Fn} {c c' : String} {r : List St} (a : D) : defT (n + 1) 1 g 0 c c' r [a] = trfR (g.run [a]) c c' (exs (.v a :: List.replicate n .n) r).end := by
  unfold defT trfR
  rw [if_pos ⟨rfl, by omega⟩]
  have : getv (List.map Sl.v [a] ++ List.replicate (n + 1 - 1) Sl.n) 0 = .ok a := rfl
  rw [this]
  dsimp only
  cases g.run [a] <;> rfl
theorem defI_1 {t : Ex} {c : String} (a : D) : defI 1 1 t c [a] = match tst [.v a] t with | .ok true => .exc c | .ok false => .ok .non | _ => .bad := rfl
end OL
/-! Reckoning with the small language's texts: loops, plain words. -/
namespace OL
open PySem PySem.Spec PyProof.Rows L2
/-! ### while -/
section
variable {t : En → R Bool} {b : En → O} {ρ ρ' : En}
theorem wrun_mono {o : O} : ∀ {n : Nat} {ρ : En}, wrun t b n ρ = some o → ∀ m, n ≤ m → wrun t b m ρ = some o
  | 0, ρ, h, m, _ => by unfold wrun at h; cases h
  | n + 1, ρ, h, 0, hm => absurd hm (by omega)
  | n + 1, ρ, h, m + 1, hm => by
    unfold wrun at h ⊢
    cases e : t ρ with
    | ok c =>
      rw [e] at h
      cases c with
      | true =>
        cases e2 : b ρ with
        | nx r => rw [e2] at h; exact wrun_mono (n := n) h m (by omega)
        | ct r => rw [e2] at h; exact wrun_mono (n := n) h m (by omega)
        | bk r => rw [e2] at h; exact h
        | rt d => rw [e2] at h; exact h
        | rq d o => rw [e2] at h; exact h
        | exc c r => rw [e2] at h; exact h
        | bad => rw [e2] at h; exact h
      | false => exact h
    | exc c => rw [e] at h; exact h
    | bad => rw [e] at h; exact h
theorem wrun_det {n m : Nat} {o o' : O} (h : wrun t b n ρ = some o) (h' : wrun t b m ρ = some o') : o = o' := by
  have a := wrun_mono h (max n m) (Nat.le_max_left ..)
  have c := wrun_mono h' (max n m) (Nat.le_max_right ..)
  rw [a] at c
  exact Option.some.inj c
theorem whileO_of {n : Nat} {o : O} (h : wrun t b n ρ = some o) : whileO t b ρ = o := by
  unfold whileO
  have hx : ∃ (n : Nat) (o : O), wrun t b n ρ = some o := ⟨n, o, h⟩
  rw [dif_pos hx]
  exact wrun_det (Classical.choose_spec hx).choose_spec h
theorem whileO_stop (h : t ρ = .ok false) : whileO t b ρ = .nx ρ := whileO_of (n := 1) (by unfold wrun; rw [h])
theorem whileO_nx (h : t ρ = .ok true) (hb : b ρ = .nx ρ') : whileO t b ρ = whileO t b ρ' := by
  have st : ∀ n, wrun t b (n + 1) ρ = wrun t b n ρ' := fun n => by
    conv => lhs; unfold wrun
    rw [h]
    show (match b ρ with | .nx ρ' => wrun t b n ρ' | .ct ρ' => wrun t b n ρ' | .bk ρ' => some (.nx ρ') | o => some o) = _
    rw [hb]
  by_cases hx : ∃ (n : Nat) (o : O), wrun t b n ρ' = some o
  · obtain ⟨n, o, e⟩ := hx
    rw [whileO_of e, whileO_of (n := n + 1) (by rw [st]; exact e)]
  · have hy : ¬ ∃ (n : Nat) (o : O), wrun t b n ρ = some o := fun ⟨n, o, e⟩ => hx ⟨n, o, by rw [← st]; exact wrun_mono e _ (by omega)⟩
    unfold whileO
    rw [dif_neg hx, dif_neg hy]
theorem whileO_ct (h : t ρ = .ok true) (hb : b ρ = .ct ρ') : whileO t b ρ = whileO t b ρ' := by
  have st : ∀ n, wrun t b (n + 1) ρ = wrun t b n ρ' := fun n => by
    conv => lhs; unfold wrun
    rw [h]
    show (match b ρ with | .nx ρ' => wrun t b n ρ' | .ct ρ' => wrun t b n ρ' | .bk ρ' => some (.nx ρ') | o => some o) = _
    rw [hb]
  by_cases hx : ∃ (n : Nat) (o : O), wrun t b n ρ' = some o
  · obtain ⟨n, o, e⟩ := hx
    rw [whileO_of e, whileO_of (n := n + 1) (by rw [st]; exact e)]
  · have hy : ¬ ∃ (n : Nat) (o : O), wrun t b n ρ = some o := fun ⟨n, o, e⟩ => hx ⟨n, o, by rw [← st]; exact wrun_mono e _ (by omega)⟩
    unfold whileO
    rw [dif_neg hx, dif_neg hy]
theorem whileO_bk (h : t ρ = .ok true) (hb : b ρ = .bk ρ') : whileO t b ρ = .nx ρ' := whileO_of (n := 1) (by unfold wrun; rw [h]; show (match b ρ with | .nx ρ' => wrun t b 0 ρ' | .ct ρ' => wrun t b 0 ρ' | .bk ρ' => some (.nx ρ') | o => some o) = _; rw [hb])
theorem whileO_rt {d : D} (h : t ρ = .ok true) (hb : b ρ = .rt d) : whileO t b ρ = .rt d := whileO_of (n := 1) (by unfold wrun; rw [h]; show (match b ρ with | .nx ρ' => wrun t b 0 ρ' | .ct ρ' => wrun t b 0 ρ' | .bk ρ' => some (.nx ρ') | o => some o) = _; rw [hb])
theorem whileO_rq {d : D} {o : List D} (h : t ρ = .ok true) (hb : b ρ = .rq d o) : whileO t b ρ = .rq d o := whileO_of (n := 1) (by unfold wrun; rw [h]; show (match b ρ with | .nx ρ' => wrun t b 0 ρ' | .ct ρ' => wrun t b 0 ρ' | .bk ρ' => some (.nx ρ') | o => some o) = _; rw [hb])
theorem whileO_exc {k : String} (h : t ρ = .ok true) (hb : b ρ = .exc k ρ') : whileO t b ρ = .exc k ρ' := whileO_of (n := 1) (by unfold wrun; rw [h]; show (match b ρ with | .nx ρ' => wrun t b 0 ρ' | .ct ρ' => wrun t b 0 ρ' | .bk ρ' => some (.nx ρ') | o => some o) = _; rw [hb])
end
/-- a loop that keeps I -/
theorem forO_keep {b : D → En → O} (I : En → Prop) : ∀ {ds : List D} {ρ : En}, (∀ d ∈ ds, ∀ ρ, I ρ → ∃ ρ', b d ρ = .nx ρ' ∧ I ρ') → I ρ → ∃ ρ', forO b ds ρ = .nx ρ' ∧ I ρ'
  | [], ρ, _, i => ⟨ρ, rfl, i⟩
  | d :: ds, ρ, h, i => by
    obtain ⟨ρ1, e, i1⟩ := h d List.mem_cons_self ρ i
    obtain ⟨ρ2, e2, i2⟩ := forO_keep I (fun x hx => h x (List.mem_cons_of_mem _ hx)) i1
    exact ⟨ρ2, by unfold forO; rw [e]; exact e2, i2⟩
/-- a loop with an invariant by the turn -/
theorem forO_inv {b : D → En → O} (I : List D → En → Prop) : ∀ {ds : List D} {ρ : En}, (∀ d r ρ, I (d :: r) ρ → ∃ ρ', b d ρ = .nx ρ' ∧ I r ρ') → I ds ρ → ∃ ρ', forO b ds ρ = .nx ρ' ∧ I [] ρ'
  | [], ρ, _, i => ⟨ρ, rfl, i⟩
  | d :: ds, ρ, h, i => by
    obtain ⟨ρ1, e, i1⟩ := h d ds ρ i
    obtain ⟨ρ2, e2, i2⟩ := forO_inv I h i1
    exact ⟨ρ2, by unfold forO; rw [e]; exact e2, i2⟩
/-! ### words that stay folded: simp looks at their first part alone -/
@[reducible] def K0 {γ : Type} (_ : γ) (τ : Type) : Type := τ
@[reducible] def KP {γ : Type} (_ : γ) : Type := Prop
def rb {α β : Type} (r : R α) (f : α → R β) : K0 f (R β) := R.bind r f
section
variable {α β : Type} {f : α → R β}
@[simp] theorem rb_ok (a : α) : rb (.ok a) f = f a := rfl
@[simp] theorem rb_exc (k : String) : rb (.exc k) f = .exc k := rfl
@[simp] theorem rb_bad : rb .bad f = .bad := rfl
theorem rb_eq (r : R α) (f : α → R β) : rb r f = R.bind r f := rfl
end
def oo {α : Type} (ρ : En) (r : R α) (f : α → O) : K0 f O := O.of ρ r f
def sq (o : O) (k : En → O) : K0 k O := match o with | .nx ρ => k ρ | o => o
section
variable {ρ : En} {k : En → O}
@[simp] theorem sq_nx : sq (.nx ρ) k = k ρ := rfl
@[simp] theorem sq_rt (d : D) : sq (.rt d) k = .rt d := rfl
@[simp] theorem sq_rq (d : D) (o : List D) : sq (.rq d o) k = .rq d o := rfl
@[simp] theorem sq_bk : sq (.bk ρ) k = .bk ρ := rfl
@[simp] theorem sq_ct : sq (.ct ρ) k = .ct ρ := rfl
@[simp] theorem sq_exc (c : String) : sq (.exc c ρ) k = .exc c ρ := rfl
@[simp] theorem sq_bad : sq .bad k = .bad := rfl
theorem ofo_ok {α : Type} (a : α) (f : α → O) : O.of ρ (.ok a) f = f a := rfl
theorem sq_nil (o : O) : sq o (fun ρ => .nx ρ) = o := by cases o <;> rfl
theorem sq_sq (o : O) (f g : En → O) : sq (sq o f) g = sq o fun ρ => sq (f ρ) g := by cases o <;> rfl
end
def ifO (b : Bool) (x y : O) : K0 x (K0 y O) := if b then x else y
@[simp] theorem ifO_t (x y : O) : ifO true x y = x := rfl
@[simp] theorem ifO_f (x y : O) : ifO false x y = y := rfl
def ifR {α : Type} (b : Bool) (x y : R α) : K0 x (K0 y (R α)) := if b then x else y
@[simp] theorem ifR_t {α : Type} (x y : R α) : ifR true x y = x := rfl
@[simp] theorem ifR_f {α : Type} (x y : R α) : ifR false x y = y := rfl
def truR (d : D) : R Bool := match truD d with | some b => .ok b | none => .bad
@[simp] theorem truR_bl (b : Bool) : truR (.bl b) = .ok b := rfl
@[simp] theorem truR_int (i : Int) : truR (.int i) = .ok (decide (i ≠ 0)) := by
  show R.ok (i != 0) = _
  congr 1
  by_cases h : i = 0 <;> simp [h]
@[simp] theorem truR_lst (xs : List D) : truR (.lst xs) = .ok (!xs.isEmpty) := rfl
@[simp] theorem truR_non : truR .non = .ok false := rfl
theorem tst_def (ρ : En) (x : Ex) : tst ρ x = rb (ev ρ x) truR := rfl
def andR (d : D) (r : R D) : K0 r (R D) := match d with | .bl true => r | .bl false => .ok (.bl false) | _ => .bad
@[simp] theorem andR_t (r : R D) : andR (.bl true) r = r := rfl
@[simp] theorem andR_f (r : R D) : andR (.bl false) r = .ok (.bl false) := rfl
def orR (d : D) (r : R D) : K0 r (R D) := match d with | .bl true => .ok (.bl true) | .bl false => r | _ => .bad
@[simp] theorem orR_t (r : R D) : orR (.bl true) r = .ok (.bl true) := rfl
@[simp] theorem orR_f (r : R D) : orR (.bl false) r = r := rfl
/-! ### loops -/
noncomputable def wlO (c : Ex) (b : List St) (ρ : En) : K0 c (K0 b O) := whileO (fun ρ => tst ρ c) (fun ρ => exs ρ b) ρ
noncomputable def foO (t : Tg) (b : List St) (ds : List D) (ρ : En) : K0 t (K0 b O) := forO (fun d ρ => .of ρ (setT t d ρ) fun ρ' => exs ρ' b) ds ρ
section
variable {ρ ρ' : En} {c : Ex} {b : List St} {d : D} {k : String}
theorem wl_stop (h : tst ρ c = .ok false) : wlO c b ρ = .nx ρ := whileO_stop h
theorem wl_nx (h : tst ρ c = .ok true) (hb : exs ρ b = .nx ρ') : wlO c b ρ = wlO c b ρ' := whileO_nx h hb
theorem wl_ct (h : tst ρ c = .ok true) (hb : exs ρ b = .ct ρ') : wlO c b ρ = wlO c b ρ' := whileO_ct h hb
theorem wl_bk (h : tst ρ c = .ok true) (hb : exs ρ b = .bk ρ') : wlO c b ρ = .nx ρ' := whileO_bk h hb
theorem wl_rt (h : tst ρ c = .ok true) (hb : exs ρ b = .rt d) : wlO c b ρ = .rt d := whileO_rt h hb
theorem wl_rq {o : List D} (h : tst ρ c = .ok true) (hb : exs ρ b = .rq d o) : wlO c b ρ = .rq d o := whileO_rq h hb
theorem wl_exc (h : tst ρ c = .ok true) (hb : exs ρ b = .exc k ρ') : wlO c b ρ = .exc k ρ' := whileO_exc h hb
end
section
variable {t : Tg} {b : List St} {d : D} {ds : List D} {ρ ρ' ρ1 : En} {k : String}
theorem fo_nil : foO t b [] ρ = .nx ρ := rfl
def lq (o : O) (k : En → O) : K0 k O := match o with | .nx ρ => k ρ | .ct ρ => k ρ | .bk ρ => .nx ρ | o => o
@[simp] theorem lq_nx {k : En → O} : lq (.nx ρ) k = k ρ := rfl
@[simp] theorem lq_ct {k : En → O} : lq (.ct ρ) k = k ρ := rfl
@[simp] theorem lq_bk {k : En → O} : lq (.bk ρ) k = .nx ρ := rfl
@[simp] theorem lq_rt {k : En → O} (d : D) : lq (.rt d) k = .rt d := rfl
@[simp] theorem lq_rq {k : En → O} (d : D) (o : List D) : lq (.rq d o) k = .rq d o := rfl
@[simp] theorem lq_exc {k : En → O} (c : String) : lq (.exc c ρ) k = .exc c ρ := rfl
@[simp] theorem lq_bad {k : En → O} : lq .bad k = .bad := rfl
theorem fo_cons : foO t b (d :: ds) ρ = lq (oo ρ (setT t d ρ) fun ρ' => exs ρ' b) fun ρ' => foO t b ds ρ' := by
  (conv => lhs; unfold foO forO)
  unfold lq foO oo
  split <;> simp_all
theorem fo_nx (h : setT t d ρ = .ok ρ1) (hb : exs ρ1 b = .nx ρ') : foO t b (d :: ds) ρ = foO t b ds ρ' := by
  rw [fo_cons, h]; show lq (exs ρ1 b) _ = _; rw [hb]; rfl
theorem fo_ct (h : setT t d ρ = .ok ρ1) (hb : exs ρ1 b = .ct ρ') : foO t b (d :: ds) ρ = foO t b ds ρ' := by
  rw [fo_cons, h]; show lq (exs ρ1 b) _ = _; rw [hb]; rfl
theorem fo_rt {e : D} (h : setT t d ρ = .ok ρ1) (hb : exs ρ1 b = .rt e) : foO t b (d :: ds) ρ = .rt e := by
  rw [fo_cons, h]; show lq (exs ρ1 b) _ = _; rw [hb]; rfl
theorem fo_bk (h : setT t d ρ = .ok ρ1) (hb : exs ρ1 b = .bk ρ') : foO t b (d :: ds) ρ = .nx ρ' := by
  rw [fo_cons, h]; show lq (exs ρ1 b) _ = _; rw [hb]; rfl
theorem fo_exc (h : setT t d ρ = .ok ρ1) (hb : exs ρ1 b = .exc k ρ') : foO t b (d :: ds) ρ = .exc k ρ' := by
  rw [fo_cons, h]; show lq (exs ρ1 b) _ = _; rw [hb]; rfl
/-- a loop with an invariant by what is still to come -/
theorem fo_inv (I : List D → En → Prop) : ∀ {ds : List D} {ρ : En}, I ds ρ → (∀ d r ρ, I (d :: r) ρ → ∃ ρ1 ρ', setT t d ρ = .ok ρ1 ∧ exs ρ1 b = .nx ρ' ∧ I r ρ') → ∃ ρ', foO t b ds ρ = .nx ρ' ∧ I [] ρ'
  | [], ρ, i, _ => ⟨ρ, rfl, i⟩
  | d :: ds, ρ, i, h => by
    obtain ⟨ρ1, ρ2, e, e1, i1⟩ := h d ds ρ i
    obtain ⟨ρ3, e3, i3⟩ := fo_inv I i1 h
    exact ⟨ρ3, by rw [fo_nx e e1]; exact e3, i3⟩
end
/-! ### ends -/
structure PC where
  N : En → Prop := fun _ => False
  R : D → Prop := fun _ => False
  Qr : D → List D → Prop := fun _ _ => False
  B : En → Prop := fun _ => False
  C : En → Prop := fun _ => False
  X : String → En → Prop := fun _ _ => False
def isP (o : O) (p : PC) : Prop := match o with
  | .nx ρ => p.N ρ | .rt d => p.R d | .bk ρ => p.B ρ | .ct ρ => p.C ρ | .exc c ρ => p.X c ρ | .bad => False | .rq d o => p.Qr d o
def O.is (o : O) (p : PC) : KP p := isP o p
/-- (the sort in sight) -/
def Pr (p : Prop) : Prop := p
section
variable {p : PC} {ρ : En}
@[simp] theorem is_nx : Pr ((O.nx ρ).is p) = p.N ρ := rfl
@[simp] theorem is_rt (d : D) : Pr ((O.rt d).is p) = p.R d := rfl
@[simp] theorem is_rq (d : D) (o : List D) : Pr ((O.rq d o).is p) = p.Qr d o := rfl
@[simp] theorem is_bk : Pr ((O.bk ρ).is p) = p.B ρ := rfl
@[simp] theorem is_ct : Pr ((O.ct ρ).is p) = p.C ρ := rfl
@[simp] theorem is_exc (c : String) : Pr ((O.exc c ρ).is p) = p.X c ρ := rfl
@[simp] theorem is_bad : Pr (O.bad.is p) = False := rfl
theorem is_mono {o : O} {p q : PC} (h : Pr (o.is p)) (n : ∀ ρ, p.N ρ → q.N ρ) (r : ∀ d, p.R d → q.R d) (b : ∀ ρ, p.B ρ → q.B ρ) (c : ∀ ρ, p.C ρ → q.C ρ) (x : ∀ k ρ, p.X k ρ → q.X k ρ) (qq : ∀ d o, p.Qr d o → q.Qr d o := by first | exact fun _ _ z => z | exact fun _ _ z => False.elim z) : Pr (o.is q) := by
  cases o
  · exact n _ h
  · exact r _ h
  · exact b _ h
  · exact c _ h
  · exact x _ _ h
  · exact h
  · exact qq _ _ h
theorem sq_is {o : O} {k : En → O} (h : Pr (o.is { p with N := fun ρ => Pr ((k ρ).is p) })) : Pr ((sq o k).is p) := by cases o <;> exact h
theorem end_is {o : O} {v : D} (h : Pr (o.is { N := fun _ => v = .non, R := fun d => d = v })) : o.end = .ok v := by
  cases o
  · have h : v = .non := h
    rw [h]; rfl
  · have h : _ = v := h
    rw [← h]; rfl
  all_goals exact h.elim
theorem end_ex {o : O} {P : D → Prop} (h : Pr (o.is { N := fun _ => P .non, R := P })) : ∃ v, o.end = .ok v ∧ P v := by
  cases o
  · exact ⟨_, rfl, h⟩
  · exact ⟨_, rfl, h⟩
  all_goals exact h.elim
theorem end_exc_is {o : O} {c : String} (h : Pr (o.is { X := fun k _ => k = c })) : o.end = .exc c := by
  cases o
  all_goals try exact h.elim
  have h : _ = c := h
  rw [← h]; rfl
theorem is_of {o : O} {v : D} (h : o = .rt v) (hp : p.R v) : Pr (o.is p) := by rw [h]; exact hp
end
section
variable {t : Tg} {b : List St} {p : PC}
theorem fo_is (I : List D → En → Prop) : ∀ {ds : List D} {ρ : En}, I ds ρ → (∀ d r ρ, I (d :: r) ρ → Pr ((oo ρ (setT t d ρ) fun ρ' => exs ρ' b).is { N := I r, C := I r, B := p.N, R := p.R, Qr := p.Qr, X := p.X })) → (∀ ρ, I [] ρ → p.N ρ) → (foO t b ds ρ).is p
  | [], ρ, i, _, z => z ρ i
  | d :: ds, ρ, i, h, z => by
    have g := h d ds ρ i
    rw [fo_cons]
    cases e : oo ρ (setT t d ρ) fun ρ' => exs ρ' b with
    | nx ρ' => rw [e] at g; exact fo_is I g h z
    | ct ρ' => rw [e] at g; exact fo_is I g h z
    | bk ρ' => rw [e] at g; exact g
    | rt d => rw [e] at g; exact g
    | rq d o => rw [e] at g; exact g
    | exc c ρ' => rw [e] at g; exact g
    | bad => rw [e] at g; exact g
/-- a loop in a row of statements -/
theorem fo_sq {k : En → O} {ds : List D} {ρ : En} (I : List D → En → Prop) (h0 : I ds ρ)
    (hs : ∀ d r ρ, I (d :: r) ρ → Pr ((oo ρ (setT t d ρ) fun ρ' => exs ρ' b).is { N := I r, C := I r, B := fun ρ => Pr ((k ρ).is p), R := p.R, Qr := p.Qr, X := p.X })) (hk : ∀ ρ, I [] ρ → Pr ((k ρ).is p)) : Pr ((sq (foO t b ds ρ) k).is p) :=
  sq_is (fo_is I h0 hs hk)
theorem wl_is {c : Ex} {ρ : En} (I : Nat → En → Prop) {m : Nat} (h0 : I m ρ)
    (hs : ∀ m ρ, I m ρ → (tst ρ c = .ok false ∧ p.N ρ) ∨ (tst ρ c = .ok true ∧ Pr ((exs ρ b).is { N := fun ρ' => ∃ m', m' < m ∧ I m' ρ', C := fun ρ' => ∃ m', m' < m ∧ I m' ρ', B := p.N, R := p.R, Qr := p.Qr, X := p.X }))) : Pr ((wlO c b ρ).is p) := by
  induction m using Nat.strongRecOn generalizing ρ with
  | _ m ih =>
    rcases hs m ρ h0 with ⟨e, q⟩ | ⟨e, q⟩
    · rw [wl_stop e]; exact q
    · cases e2 : exs ρ b with
      | nx ρ' => rw [e2] at q; obtain ⟨m', l, i⟩ := q; rw [wl_nx e e2]; exact ih m' l i
      | ct ρ' => rw [e2] at q; obtain ⟨m', l, i⟩ := q; rw [wl_ct e e2]; exact ih m' l i
      | bk ρ' => rw [e2] at q; rw [wl_bk e e2]; exact q
      | rt d => rw [e2] at q; rw [wl_rt e e2]; exact q
      | rq d o => rw [e2] at q; rw [wl_rq e e2]; exact q
      | exc k ρ' => rw [e2] at q; rw [wl_exc e e2]; exact q
      | bad => rw [e2] at q; exact q.elim
theorem wl_sq {c : Ex} {ρ : En} {k : En → O} (I : Nat → En → Prop) {m : Nat} (h0 : I m ρ)
    (hs : ∀ m ρ, I m ρ → (tst ρ c = .ok false ∧ Pr ((k ρ).is p)) ∨ (tst ρ c = .ok true ∧ Pr ((exs ρ b).is { N := fun ρ' => ∃ m', m' < m ∧ I m' ρ', C := fun ρ' => ∃ m', m' < m ∧ I m' ρ', B := fun ρ => Pr ((k ρ).is p), R := p.R, Qr := p.Qr, X := p.X }))) : Pr ((sq (wlO c b ρ) k).is p) :=
  sq_is (wl_is I h0 hs)
/-- a loop that finds the first of some data -/
theorem fo_first {C : D → Bool} {F : D → D} {ds : List D} {ρ : En} {k : En → O} (J : En → Prop) (h0 : J ρ)
    (hs : ∀ d ∈ ds, ∀ ρ, J ρ → Pr ((oo ρ (setT t d ρ) fun ρ' => exs ρ' b).is { N := fun ρ' => C d = false ∧ J ρ', C := fun ρ' => C d = false ∧ J ρ', R := fun r => C d = true ∧ r = F d }))
    (hr : ∀ d ∈ ds, C d = true → p.R (F d)) (hk : (∀ d ∈ ds, C d = false) → ∀ ρ, J ρ → Pr ((k ρ).is p)) : Pr ((sq (foO t b ds ρ) k).is p) := by
  refine fo_sq (fun r ρ => J ρ ∧ (∃ l, ds = l ++ r ∧ ∀ d ∈ l, C d = false)) ⟨h0, [], rfl, by simp⟩ (fun d r ρ ⟨j, l, e, hl⟩ => ?_) (fun ρ ⟨j, l, e, hl⟩ => hk (by rw [e, List.append_nil]; exact hl) ρ j)
  have hd : d ∈ ds := by rw [e]; simp
  have st : ∀ ρ', C d = false ∧ J ρ' → J ρ' ∧ ∃ l', ds = l' ++ r ∧ ∀ d ∈ l', C d = false := fun ρ' ⟨c, j⟩ => ⟨j, l ++ [d], by rw [e]; simp, fun x hx => (List.mem_append.mp hx).elim (hl x) fun z => by rw [List.mem_singleton.mp z]; exact c⟩
  exact is_mono (hs d hd ρ j) st (fun r ⟨c, er⟩ => by rw [er]; exact hr d hd c) (fun _ z => z.elim) st (fun _ _ z => z.elim)
end
section
variable {ρ : En}
@[simp] theorem of_ok' {α : Type} (a : α) (f : α → O) : oo ρ (.ok a) f = f a := rfl
@[simp] theorem of_exc' {α : Type} (k : String) (f : α → O) : oo ρ (.exc k : R α) f = .exc k ρ := rfl
@[simp] theorem of_bad' {α : Type} (f : α → O) : oo ρ (.bad : R α) f = .bad := rfl
@[simp ↓] theorem exs_nil : exs ρ [] = .nx ρ := by unfold exs; rfl
@[simp ↓] theorem exs_cons (s : St) (ss : List St) : exs ρ (s :: ss) = sq (exe ρ s) fun ρ' => exs ρ' ss := by
  (conv => lhs; unfold exs)
  cases exe ρ s <;> rfl
/-- a list of one's own alone -/
def geto (ρ : En) (i : Nat) : R D := match ρ[i]? with
  | some (.o ds) => .ok (.lst ds)
  | _ => .bad
def ownR (d : D) (f : List D → O) : K0 f O := match d with | .lst ds => f ds | _ => .bad
@[simp] theorem ownR_l (ds : List D) (f : List D → O) : ownR (.lst ds) f = f ds := rfl
@[simp ↓] theorem exe_asgv (i : Nat) (x : Ex) : exe ρ (.asg i false x) = oo ρ (ev ρ x) fun d => setS ρ i (.v d) := by unfold exe; rfl
@[simp ↓] theorem exe_asgo (i : Nat) (x : Ex) : exe ρ (.asg i true x) = oo ρ (ev ρ x) fun d => ownR d fun ds => setS ρ i (.o ds) := by unfold exe; rfl
@[simp ↓] theorem exe_unp (ts : List Tg) (x : Ex) : exe ρ (.unp ts x) = oo ρ (ev ρ x) fun d => oo ρ (setT (.tp ts) d ρ) .nx := by unfold exe; rfl
@[simp ↓] theorem exe_par (i j : Nat) (x y : Ex) : exe ρ (.par i j x y) = oo ρ (ev ρ x) fun a => oo ρ (ev ρ y) fun b => sq (setS ρ i (.v a)) fun ρ1 => setS ρ1 j (.v b) := by
  unfold exe
  cases ev ρ x <;> try rfl
  cases ev ρ y <;> try rfl
  unfold setS
  simp only [ofo_ok, of_ok']
  split
  · rename_i h; rw [if_pos h.1, sq_nx, if_pos (by simpa using h.2)]
  · split
    · rename_i h h1; rw [sq_nx, if_neg (by simpa using fun z => h ⟨h1, z⟩)]
    · rfl
@[simp ↓] theorem exe_aug (i : Nat) (op : Op) (x : Ex) : exe ρ (.aug i op x) = oo ρ (getv ρ i) fun a => oo ρ (ev ρ x) fun b => oo ρ (augD op a b) fun d => setS ρ i (.v d) := by unfold exe; rfl
@[simp] theorem aug_add (i j : Int) : augD .add (.int i) (.int j) = .ok (.int (i + j)) := rfl
@[simp] theorem aug_sub (i j : Int) : augD .sub (.int i) (.int j) = .ok (.int (i - j)) := rfl
@[simp ↓] theorem exe_ret (x : Ex) : exe ρ (.ret x) = oo ρ (ev ρ x) .rt := by unfold exe; rfl
@[simp ↓] theorem exe_retN : exe ρ .retN = .rt .non := by unfold exe; rfl
@[simp ↓] theorem exe_exp (x : Ex) : exe ρ (.exp x) = oo ρ (ev ρ x) fun _ => .nx ρ := by unfold exe; rfl
@[simp ↓] theorem exe_app (i : Nat) (x : Ex) : exe ρ (.app i x) = oo ρ (geto ρ i) fun l => ownR l fun ds => oo ρ (ev ρ x) fun d => ifO (decide (ds.length < 16777216)) (setS ρ i (.o (ds ++ [d]))) .bad := by
  unfold exe ownL geto
  cases h : ρ[i]? with
  | none => rfl
  | some s =>
    cases s <;> try rfl
    simp only [of_ok', ownR_l]
    cases ev ρ x <;> try rfl
    have hi : i < ρ.length := (List.getElem?_eq_some_iff.mp h).1
    unfold ifO setS
    simp [hi, ofo_ok]
@[simp ↓] theorem exe_rev (i : Nat) : exe ρ (.rev i) = oo ρ (geto ρ i) fun l => ownR l fun ds => setS ρ i (.o ds.reverse) := by
  unfold exe ownL geto
  cases h : ρ[i]? with
  | none => rfl
  | some s =>
    cases s <;> try rfl
    have hi : i < ρ.length := (List.getElem?_eq_some_iff.mp h).1
    unfold setS
    simp [hi]
@[simp ↓] theorem exe_clr (i : Nat) : exe ρ (.clr i) = oo ρ (geto ρ i) fun l => ownR l fun _ => setS ρ i (.o []) := by
  unfold exe ownL geto
  cases h : ρ[i]? with
  | none => rfl
  | some s =>
    cases s <;> try rfl
    have hi : i < ρ.length := (List.getElem?_eq_some_iff.mp h).1
    unfold setS
    simp [hi]
@[simp ↓] theorem exe_ife (c : Ex) (a b : List St) : exe ρ (.ife c a b) = oo ρ (rb (ev ρ c) truR) fun t => ifO t (exs ρ a) (exs ρ b) := by (conv => lhs; unfold exe) <;> rfl
@[simp ↓] theorem exe_whl (c : Ex) (b : List St) : exe ρ (.whl c b) = wlO c b ρ := by unfold exe wlO; rfl
@[simp ↓] theorem exe_for (t : Tg) (it : Ex) (b : List St) : exe ρ (.for t it b) = oo ρ (rb (ev ρ it) itemsOf) fun ds => foO t b ds ρ := by unfold exe foO; rfl
@[simp ↓] theorem exe_rai (c : String) : exe ρ (.rai c) = .exc c ρ := by unfold exe; rfl
def triO (o : O) (c : String) (h : En → O) : K0 h O := match o with | .exc k ρ => ifO (subX k c) (noX (h ρ)) (.exc k ρ) | o => o
@[simp] theorem tri_nx {c : String} {h : En → O} : triO (.nx ρ) c h = .nx ρ := rfl
@[simp] theorem tri_rt {c : String} {h : En → O} (d : D) : triO (.rt d) c h = .rt d := rfl
@[simp] theorem tri_rq {c : String} {h : En → O} (d : D) (o : List D) : triO (.rq d o) c h = .rq d o := rfl
@[simp] theorem tri_bk {c : String} {h : En → O} : triO (.bk ρ) c h = .bk ρ := rfl
@[simp] theorem tri_ct {c : String} {h : En → O} : triO (.ct ρ) c h = .ct ρ := rfl
@[simp] theorem tri_exc {c k : String} {h : En → O} : triO (.exc k ρ) c h = ifO (subX k c) (noX (h ρ)) (.exc k ρ) := rfl
@[simp] theorem tri_bad {c : String} {h : En → O} : triO .bad c h = .bad := rfl
@[simp ↓] theorem exe_tri (b : List St) (c : String) (h : List St) : exe ρ (.tri b c h) = triO (exs ρ b) c fun ρ' => exs ρ' h := by
  (conv => lhs; unfold exe)
  cases exs ρ b <;> rfl
def stR (ρ : En) (i : Nat) (s : Sl) : R En := match ρ[i]? with | some _ => .ok (ρ.set i s) | none => .bad
def tasO (o : O) (c : String) (i : Nat) (h : En → O) : K0 h O := match o with | .exc k ρ => ifO (subX k c) (oo ρ (stR ρ i (.v (.exc k))) fun ρ' => drO i (noX (h ρ'))) (.exc k ρ) | o => o
@[simp] theorem tas_nx {c : String} {i : Nat} {h : En → O} : tasO (.nx ρ) c i h = .nx ρ := rfl
@[simp] theorem tas_rt {c : String} {i : Nat} {h : En → O} (d : D) : tasO (.rt d) c i h = .rt d := rfl
@[simp] theorem tas_rq {c : String} {i : Nat} {h : En → O} (d : D) (o : List D) : tasO (.rq d o) c i h = .rq d o := rfl
@[simp] theorem tas_bk {c : String} {i : Nat} {h : En → O} : tasO (.bk ρ) c i h = .bk ρ := rfl
@[simp] theorem tas_ct {c : String} {i : Nat} {h : En → O} : tasO (.ct ρ) c i h = .ct ρ := rfl
@[simp] theorem tas_exc {c k : String} {i : Nat} {h : En → O} : tasO (.exc k ρ) c i h = ifO (subX k c) (oo ρ (stR ρ i (.v (.exc k))) fun ρ' => drO i (noX (h ρ'))) (.exc k ρ) := rfl
@[simp] theorem tas_bad {c : String} {i : Nat} {h : En → O} : tasO .bad c i h = .bad := rfl
@[simp ↓] theorem exe_tas (b : List St) (c : String) (i : Nat) (h : List St) : exe ρ (.tas b c i h) = tasO (exs ρ b) c i fun ρ' => exs ρ' h := by
  (conv => lhs; unfold exe)
  cases exs ρ b <;> try rfl
  rename_i k ρ'
  unfold tasO ifO
  by_cases hs : subX k c = true
  · simp only [hs, if_true]
    unfold stR
    by_cases hi : i < ρ'.length
    · rw [if_pos hi, List.getElem?_eq_getElem hi]; rfl
    · rw [if_neg hi, List.getElem?_eq_none (by omega)]; rfl
  · simp only [hs]; rfl
@[simp] theorem dr_rt {i : Nat} (d : D) : drO i (.rt d) = .rt d := rfl
@[simp] theorem dr_nx {i : Nat} : drO i (.nx ρ) = ifO (notOwn ρ i) (.nx (ρ.set i .n)) .bad := rfl
@[simp ↓] theorem exe_par3 (i j l : Nat) (x y z : Ex) : exe ρ (.par3 i j l x y z) = oo ρ (ev ρ x) fun a => oo ρ (ev ρ y) fun b => oo ρ (ev ρ z) fun c => sq (setS ρ i (.v a)) fun ρ1 => sq (setS ρ1 j (.v b)) fun ρ2 => setS ρ2 l (.v c) := by
  unfold exe
  cases ev ρ x <;> try rfl
  cases ev ρ y <;> try rfl
  cases ev ρ z <;> try rfl
  unfold setS
  simp only [ofo_ok, of_ok']
  by_cases h1 : i < ρ.length
  · by_cases h2 : j < ρ.length
    · by_cases h3 : l < ρ.length
      · simp [h1, h2, h3]
      · simp [h1, h2, h3]
    · simp [h1, h2]
  · simp [h1]
@[simp] theorem noX_nx : noX (.nx ρ) = .nx ρ := rfl
@[simp] theorem noX_rt (d : D) : noX (.rt d) = .rt d := rfl
@[simp ↓] theorem exe_frz (i : Nat) : exe ρ (.frz i) = oo ρ (geto ρ i) fun l => setS ρ i (.v l) := by
  unfold exe geto
  cases h : ρ[i]? with
  | none => rfl
  | some s =>
    cases s <;> try rfl
    have hi : i < ρ.length := (List.getElem?_eq_some_iff.mp h).1
    unfold setS
    simp [hi]
@[simp ↓] theorem exe_brk : exe ρ .brk = .bk ρ := by unfold exe; rfl
@[simp ↓] theorem exe_cnt : exe ρ .cnt = .ct ρ := by unfold exe; rfl
@[simp ↓] theorem exe_pas : exe ρ .pas = .nx ρ := by unfold exe; rfl
def stiR (ds : List D) (d : D) (kd : D) (f : List D → O) : K0 f O := match kd with
  | .int k => match ixN ds.length k with
    | some j => f (ds.set j d)
    | none => .bad
  | _ => .bad
theorem slsR_l {ds es : List D} {a c : Int} (f : List D → O) (h0 : 0 ≤ a) (h1 : a ≤ ds.length) (h2 : a ≤ c) (h3 : ds.length + es.length ≤ 16777216) : slsR ds (.lst es) (some a) (some c) f = f (ds.take a.toNat ++ es ++ ds.drop c.toNat) := if_pos ⟨h0, h1, h2, h3⟩
@[simp ↓] theorem exe_sls (i : Nat) (lo hi x : Ex) : exe ρ (.sls i lo hi x) = oo ρ (ev ρ x) fun d => oo ρ (geto ρ i) fun l => ownR l fun ds => oo ρ (rb (ev ρ lo) optI) fun l => oo ρ (rb (ev ρ hi) optI) fun h => slsR ds d l h fun es => setS ρ i (.o es) := by
  unfold exe ownL geto
  cases ev ρ x <;> try rfl
  simp only [of_ok']
  cases h : ρ[i]? with
  | none => rfl
  | some s =>
    cases s <;> try rfl
    simp only [of_ok', ownR_l]
    have hi : i < ρ.length := (List.getElem?_eq_some_iff.mp h).1
    have e : (fun es => setS ρ i (Sl.o es)) = fun es => O.nx (ρ.set i (Sl.o es)) := funext fun es => if_pos hi
    rw [e]
    rfl
@[simp ↓] theorem exe_sti (i : Nat) (k x : Ex) : exe ρ (.sti i k x) = oo ρ (ev ρ x) fun d => oo ρ (geto ρ i) fun l => ownR l fun ds => oo ρ (ev ρ k) fun kd => stiR ds d kd fun es => setS ρ i (.o es) := by
  unfold exe ownL geto
  cases ev ρ x <;> try rfl
  simp only [of_ok']
  cases h : ρ[i]? with
  | none => rfl
  | some s =>
    cases s <;> try rfl
    simp only [of_ok', ownR_l]
    cases ev ρ k <;> try rfl
    rename_i kd
    have hi : i < ρ.length := (List.getElem?_eq_some_iff.mp h).1
    unfold stiR setS
    simp only [ofo_ok, of_ok', hi, if_true]
    all_goals (cases kd <;> rfl)
end
section
variable {ρ : En}
def tupR (ds : List D) : R D := if ds.length ≤ 16777216 then .ok (.tup ds) else .bad
def lstR (ds : List D) : R D := if ds.length ≤ 16777216 then .ok (.lst ds) else .bad
@[simp] theorem tupR_0 : tupR [] = .ok (.tup []) := rfl
@[simp] theorem tupR_1 (a : D) : tupR [a] = .ok (.tup [a]) := rfl
@[simp] theorem tupR_2 (a b : D) : tupR [a, b] = .ok (.tup [a, b]) := rfl
@[simp] theorem tupR_3 (a b c : D) : tupR [a, b, c] = .ok (.tup [a, b, c]) := rfl
@[simp] theorem tupR_4 (a b c d : D) : tupR [a, b, c, d] = .ok (.tup [a, b, c, d]) := rfl
@[simp] theorem lstR_0 : lstR [] = .ok (.lst []) := rfl
@[simp] theorem lstR_1 (a : D) : lstR [a] = .ok (.lst [a]) := rfl
@[simp] theorem lstR_2 (a b : D) : lstR [a, b] = .ok (.lst [a, b]) := rfl
@[simp] theorem lstR_3 (a b c : D) : lstR [a, b, c] = .ok (.lst [a, b, c]) := rfl
@[simp] theorem lstR_4 (a b c d : D) : lstR [a, b, c, d] = .ok (.lst [a, b, c, d]) := rfl
theorem lstR_of {ds : List D} (h : ds.length ≤ 16777216) : lstR ds = .ok (.lst ds) := if_pos h
theorem tupR_of {ds : List D} (h : ds.length ≤ 16777216) : tupR ds = .ok (.tup ds) := if_pos h
@[simp] theorem lstR_n (a b c d e : D) (ds : List D) (h : ds.length ≤ 16000000) : lstR (a :: b :: c :: d :: e :: ds) = .ok (.lst (a :: b :: c :: d :: e :: ds)) := lstR_of (by simp only [List.length_cons]; omega)
@[simp] theorem tupR_n (a b c d e : D) (ds : List D) (h : ds.length ≤ 16000000) : tupR (a :: b :: c :: d :: e :: ds) = .ok (.tup (a :: b :: c :: d :: e :: ds)) := tupR_of (by simp only [List.length_cons]; omega)
@[simp ↓] theorem ev_var (i : Nat) : ev ρ (.var i) = getv ρ i := by unfold ev; rfl
@[simp ↓] theorem ev_bor (i : Nat) : ev ρ (.bor i) = getb ρ i := by unfold ev; rfl
@[simp ↓] theorem ev_lit (d : D) : ev ρ (.lit d) = .ok d := by unfold ev; rfl
@[simp ↓] theorem ev_glob (n : String) (d : D) : ev ρ (.glob n d) = .ok d := by unfold ev; rfl
@[simp ↓] theorem ev_tup (xs : List Ex) : ev ρ (.tup xs) = rb (evs ρ xs) tupR := by (conv => lhs; unfold ev) <;> rfl
@[simp ↓] theorem ev_lst (xs : List Ex) : ev ρ (.lst xs) = rb (evs ρ xs) lstR := by (conv => lhs; unfold ev) <;> rfl
@[simp ↓] theorem ev_bin (op : Op) (x y : Ex) : ev ρ (.bin op x y) = rb (ev ρ x) fun a => rb (ev ρ y) fun b => binD op a b := by (conv => lhs; unfold ev) <;> rfl
@[simp ↓] theorem ev_neg (x : Ex) : ev ρ (.neg x) = rb (ev ρ x) negD := by (conv => lhs; unfold ev) <;> rfl
@[simp ↓] theorem ev_cmp (op : Cp) (x y : Ex) : ev ρ (.cmp op x y) = rb (ev ρ x) fun a => rb (ev ρ y) fun b => cpD op a b := by (conv => lhs; unfold ev) <;> rfl
@[simp ↓] theorem ev_chain (op op' : Cp) (x y z : Ex) : ev ρ (.chain op op' x y z) = rb (ev ρ x) fun a => rb (ev ρ y) fun b => rb (cpD op a b) fun t => andR t (rb (ev ρ z) fun c => cpD op' b c) := by (conv => lhs; unfold ev) <;> rfl
@[simp ↓] theorem ev_and (xs : List Ex) : ev ρ (.and xs) = evAnd ρ xs := by (conv => lhs; unfold ev) <;> rfl
@[simp ↓] theorem ev_or (xs : List Ex) : ev ρ (.or xs) = evOr ρ xs := by (conv => lhs; unfold ev) <;> rfl
@[simp ↓] theorem ev_not (x : Ex) : ev ρ (.not x) = rb (rb (ev ρ x) truR) fun b => .ok (.bl (!b)) := by
  (conv => lhs; unfold ev)
  cases ev ρ x <;> try rfl
  simp only [rb_ok, truR]
  show (match truD _ with | some b => R.ok (D.bl (!b)) | none => .bad) = _
  cases truD _ <;> rfl
@[simp ↓] theorem ev_ite (c x y : Ex) : ev ρ (.ite c x y) = rb (rb (ev ρ c) truR) fun b => ifR b (ev ρ x) (ev ρ y) := by
  (conv => lhs; unfold ev)
  cases ev ρ c <;> try rfl
  simp only [rb_ok, truR]
  show (match truD _ with | some true => ev ρ x | some false => ev ρ y | none => .bad) = _
  cases truD _ with
  | none => rfl
  | some b => cases b <;> rfl
@[simp ↓] theorem ev_ix (x i : Ex) : ev ρ (.ix x i) = rb (ev ρ x) fun a => rb (ev ρ i) fun b => ixD a b := by (conv => lhs; unfold ev) <;> rfl
def optE (ρ : En) (x : Ex) : R (Option Int) := if isNop x then .ok none else (ev ρ x).bind optI
@[simp ↓] theorem optE_nop : optE ρ .nop = .ok none := rfl
@[simp] theorem optI_i (i : Int) : optI (.int i) = .ok (some i) := rfl
section
variable (i : Nat) (n : String) (d : D) (op : Op) (x y : Ex) (xs : List Ex) (b : Blt) (f : Fn) (fl : Bool)
@[simp ↓] theorem optE_var : optE ρ (.var i) = rb (ev ρ (.var i)) optI := rfl
@[simp ↓] theorem optE_lit : optE ρ (.lit d) = rb (ev ρ (.lit d)) optI := rfl
@[simp ↓] theorem optE_glob : optE ρ (.glob n d) = rb (ev ρ (.glob n d)) optI := rfl
@[simp ↓] theorem optE_bin : optE ρ (.bin op x y) = rb (ev ρ (.bin op x y)) optI := rfl
@[simp ↓] theorem optE_neg : optE ρ (.neg x) = rb (ev ρ (.neg x)) optI := rfl
@[simp ↓] theorem optE_ix : optE ρ (.ix x y) = rb (ev ρ (.ix x y)) optI := rfl
@[simp ↓] theorem optE_blt : optE ρ (.blt b xs) = rb (ev ρ (.blt b xs)) optI := rfl
@[simp ↓] theorem optE_call : optE ρ (.call f fl xs) = rb (ev ρ (.call f fl xs)) optI := rfl
end
@[simp ↓] theorem ev_sl (x lo hi : Ex) : ev ρ (.sl x lo hi) = rb (ev ρ x) fun a => rb (optE ρ lo) fun l => rb (optE ρ hi) fun h => slD a l h := by (conv => lhs; unfold ev) <;> rfl
def flR (fl : Bool) (d : D) : R D := if fl && !flat d then .bad else .ok d
@[simp] theorem flR_f (d : D) : flR false d = .ok d := rfl
@[simp] theorem flR_bl (fl : Bool) (b : Bool) : flR fl (.bl b) = .ok (.bl b) := by cases fl <;> rfl
@[simp] theorem flR_int (fl : Bool) (b : Int) : flR fl (.int b) = .ok (.int b) := by cases fl <;> rfl
@[simp] theorem flR_non (fl : Bool) : flR fl .non = .ok .non := by cases fl <;> rfl
@[simp ↓] theorem ev_call (f : Fn) (fl : Bool) (xs : List Ex) : ev ρ (.call f fl xs) = rb (evs ρ xs) fun ds => rb (f.run (ds ++ f.dfl)) (flR fl) := by (conv => lhs; unfold ev) <;> rfl
@[simp ↓] theorem ev_blt (b : Blt) (xs : List Ex) : ev ρ (.blt b xs) = rb (evs ρ xs) fun ds => bltD b ds := by (conv => lhs; unfold ev) <;> rfl
@[simp ↓] theorem ev_mth (m : Mth) (x : Ex) (xs : List Ex) : ev ρ (.mth m x xs) = rb (ev ρ x) fun d => rb (evs ρ xs) fun ds => mthD m d ds := by (conv => lhs; unfold ev) <;> rfl
@[simp ↓] theorem ev_isi (x : Ex) (cs : List String) : ev ρ (.isi x cs) = rb (ev ρ x) fun d => isiD d cs := by (conv => lhs; unfold ev) <;> rfl
@[simp ↓] theorem ev_isx (x : Ex) (cs : List String) : ev ρ (.isx x cs) = rb (ev ρ x) fun d => isxD d cs := by (conv => lhs; unfold ev) <;> rfl
@[simp ↓] theorem ev_rvl (x : Ex) : ev ρ (.rvl x) = rb (ev ρ x) rvlD := by (conv => lhs; unfold ev) <;> rfl
@[simp] theorem rvlD_l (xs : List D) : rvlD (.lst xs) = .ok (.lst xs.reverse) := rfl
@[simp] theorem isxD_e (k : String) (cs : List String) : isxD (.exc k) cs = .ok (.bl (cs.any (subY k))) := rfl
@[simp ↓] theorem ev_rng (xs : List Ex) : ev ρ (.rng xs) = rb (evs ρ xs) rngD := by (conv => lhs; unfold ev) <;> rfl
@[simp ↓] theorem evs_nil : evs ρ [] = .ok [] := by unfold evs; rfl
@[simp ↓] theorem evs_cons (x : Ex) (xs : List Ex) : evs ρ (x :: xs) = rb (ev ρ x) fun d => rb (evs ρ xs) fun ds => .ok (d :: ds) := by (conv => lhs; unfold evs) <;> rfl
@[simp ↓] theorem evAnd_1 (x : Ex) : evAnd ρ [x] = ev ρ x := by (conv => lhs; unfold evAnd) <;> rfl
@[simp ↓] theorem evAnd_2 (x y : Ex) (xs : List Ex) : evAnd ρ (x :: y :: xs) = rb (ev ρ x) fun d => andR d (evAnd ρ (y :: xs)) := by (conv => lhs; unfold evAnd) <;> rfl
@[simp ↓] theorem evOr_1 (x : Ex) : evOr ρ [x] = ev ρ x := by (conv => lhs; unfold evOr) <;> rfl
@[simp ↓] theorem evOr_2 (x y : Ex) (xs : List Ex) : evOr ρ (x :: y :: xs) = rb (ev ρ x) fun d => orR d (evOr ρ (y :: xs)) := by (conv => lhs; unfold evOr) <;> rfl
@[simp ↓] theorem tst_eq (x : Ex) : tst ρ x = rb (ev ρ x) truR := rfl
/-! the slots -/
section
variable (s s1 s2 s3 s4 : Sl) (d : D) (ds : List D) (n : Nat)
@[simp] theorem getv_0v : getv (.v d :: ρ) 0 = .ok d := rfl
@[simp] theorem getv_s : getv (s :: ρ) (n + 1) = getv ρ n := rfl
@[simp high] theorem getv_4 : getv (s1 :: s2 :: s3 :: s4 :: ρ) (n + 4) = getv ρ n := rfl
@[simp] theorem geto_0o : geto (.o ds :: ρ) 0 = .ok (.lst ds) := rfl
@[simp] theorem geto_s : geto (s :: ρ) (n + 1) = geto ρ n := rfl
@[simp high] theorem geto_4 : geto (s1 :: s2 :: s3 :: s4 :: ρ) (n + 4) = geto ρ n := rfl
@[simp] theorem getb_0q : getb (.q ds :: ρ) 0 = .ok (.lst ds) := rfl
@[simp] theorem getb_0o : getb (.o ds :: ρ) 0 = .ok (.lst ds) := rfl
@[simp] theorem getb_s : getb (s :: ρ) (n + 1) = getb ρ n := rfl
@[simp high] theorem getb_4 : getb (s1 :: s2 :: s3 :: s4 :: ρ) (n + 4) = getb ρ n := rfl
@[simp] theorem stR_0 : stR (s :: ρ) 0 s1 = .ok (s1 :: ρ) := rfl
theorem stR_s : stR (s :: ρ) (n + 1) s1 = rb (stR ρ n s1) fun ρ' => .ok (s :: ρ') := by
  unfold stR
  simp only [List.getElem?_cons_succ, List.set_cons_succ]
  cases ρ[n]? <;> rfl
@[simp ↓] theorem setS_eq (i : Nat) (s : Sl) : setS ρ i s = oo ρ (stR ρ i s) .nx := by
  unfold setS stR
  by_cases h : i < ρ.length
  · rw [if_pos h, List.getElem?_eq_getElem h]; rfl
  · rw [if_neg h, List.getElem?_eq_none (by omega)]; rfl
@[simp ↓] theorem setT_nm (i : Nat) (d : D) : setT (.nm i) d ρ = stR ρ i (.v d) := by (conv => lhs; unfold setT) <;> rfl
@[simp ↓] theorem setT_tp (ts : List Tg) (ds : List D) : setT (.tp ts) (.tup ds) ρ = setTs ts ds ρ := by (conv => lhs; unfold setT) <;> rfl
@[simp ↓] theorem setT_tl (ts : List Tg) (ds : List D) : setT (.tp ts) (.lst ds) ρ = setTs ts ds ρ := by (conv => lhs; unfold setT) <;> rfl
@[simp ↓] theorem setTs_nil : setTs [] [] ρ = .ok ρ := by (conv => lhs; unfold setTs) <;> rfl
@[simp ↓] theorem setTs_cons (t : Tg) (ts : List Tg) (d : D) (ds : List D) : setTs (t :: ts) (d :: ds) ρ = rb (setT t d ρ) (setTs ts ds) := by (conv => lhs; unfold setTs) <;> rfl
end
end
@[simp] theorem stR_l1 {ρ : En} (s0 s1 t : Sl) : stR (s0 :: s1 :: ρ) 1 t = .ok (s0 :: t :: ρ) := rfl
@[simp] theorem stR_l2 {ρ : En} (s0 s1 s2 t : Sl) : stR (s0 :: s1 :: s2 :: ρ) 2 t = .ok (s0 :: s1 :: t :: ρ) := rfl
@[simp] theorem stR_l3 {ρ : En} (s0 s1 s2 s3 t : Sl) : stR (s0 :: s1 :: s2 :: s3 :: ρ) 3 t = .ok (s0 :: s1 :: s2 :: t :: ρ) := rfl
@[simp] theorem stR_l4 {ρ : En} (s0 s1 s2 s3 s4 t : Sl) : stR (s0 :: s1 :: s2 :: s3 :: s4 :: ρ) 4 t = .ok (s0 :: s1 :: s2 :: s3 :: t :: ρ) := rfl
@[simp] theorem stR_l5 {ρ : En} (s0 s1 s2 s3 s4 s5 t : Sl) : stR (s0 :: s1 :: s2 :: s3 :: s4 :: s5 :: ρ) 5 t = .ok (s0 :: s1 :: s2 :: s3 :: s4 :: t :: ρ) := rfl
@[simp] theorem stR_l6 {ρ : En} (s0 s1 s2 s3 s4 s5 s6 t : Sl) : stR (s0 :: s1 :: s2 :: s3 :: s4 :: s5 :: s6 :: ρ) 6 t = .ok (s0 :: s1 :: s2 :: s3 :: s4 :: s5 :: t :: ρ) := rfl
@[simp] theorem stR_l7 {ρ : En} (s0 s1 s2 s3 s4 s5 s6 s7 t : Sl) : stR (s0 :: s1 :: s2 :: s3 :: s4 :: s5 :: s6 :: s7 :: ρ) 7 t = .ok (s0 :: s1 :: s2 :: s3 :: s4 :: s5 :: s6 :: t :: ρ) := rfl
@[simp] theorem stR_l8 {ρ : En} (s0 s1 s2 s3 s4 s5 s6 s7 s8 t : Sl) : stR (s0 :: s1 :: s2 :: s3 :: s4 :: s5 :: s6 :: s7 :: s8 :: ρ) 8 t = .ok (s0 :: s1 :: s2 :: s3 :: s4 :: s5 :: s6 :: s7 :: t :: ρ) := rfl
@[simp] theorem stR_l9 {ρ : En} (s0 s1 s2 s3 s4 s5 s6 s7 s8 s9 t : Sl) : stR (s0 :: s1 :: s2 :: s3 :: s4 :: s5 :: s6 :: s7 :: s8 :: s9 :: ρ) 9 t = .ok (s0 :: s1 :: s2 :: s3 :: s4 :: s5 :: s6 :: s7 :: s8 :: t :: ρ) := rfl
@[simp] theorem stR_l10 {ρ : En} (s0 s1 s2 s3 s4 s5 s6 s7 s8 s9 s10 t : Sl) : stR (s0 :: s1 :: s2 :: s3 :: s4 :: s5 :: s6 :: s7 :: s8 :: s9 :: s10 :: ρ) 10 t = .ok (s0 :: s1 :: s2 :: s3 :: s4 :: s5 :: s6 :: s7 :: s8 :: s9 :: t :: ρ) := rfl
@[simp] theorem stR_l11 {ρ : En} (s0 s1 s2 s3 s4 s5 s6 s7 s8 s9 s10 s11 t : Sl) : stR (s0 :: s1 :: s2 :: s3 :: s4 :: s5 :: s6 :: s7 :: s8 :: s9 :: s10 :: s11 :: ρ) 11 t = .ok (s0 :: s1 :: s2 :: s3 :: s4 :: s5 :: s6 :: s7 :: s8 :: s9 :: s10 :: t :: ρ) := rfl
@[simp] theorem stR_l12 {ρ : En} (s0 s1 s2 s3 s4 s5 s6 s7 s8 s9 s10 s11 s12 t : Sl) : stR (s0 :: s1 :: s2 :: s3 :: s4 :: s5 :: s6 :: s7 :: s8 :: s9 :: s10 :: s11 :: s12 :: ρ) 12 t = .ok (s0 :: s1 :: s2 :: s3 :: s4 :: s5 :: s6 :: s7 :: s8 :: s9 :: s10 :: s11 :: t :: ρ) := rfl
@[simp] theorem stR_l13 {ρ : En} (s0 s1 s2 s3 s4 s5 s6 s7 s8 s9 s10 s11 s12 s13 t : Sl) : stR (s0 :: s1 :: s2 :: s3 :: s4 :: s5 :: s6 :: s7 :: s8 :: s9 :: s10 :: s11 :: s12 :: s13 :: ρ) 13 t = .ok (s0 :: s1 :: s2 :: s3 :: s4 :: s5 :: s6 :: s7 :: s8 :: s9 :: s10 :: s11 :: s12 :: t :: ρ) := rfl
@[simp] theorem stR_l14 {ρ : En} (s0 s1 s2 s3 s4 s5 s6 s7 s8 s9 s10 s11 s12 s13 s14 t : Sl) : stR (s0 :: s1 :: s2 :: s3 :: s4 :: s5 :: s6 :: s7 :: s8 :: s9 :: s10 :: s11 :: s12 :: s13 :: s14 :: ρ) 14 t = .ok (s0 :: s1 :: s2 :: s3 :: s4 :: s5 :: s6 :: s7 :: s8 :: s9 :: s10 :: s11 :: s12 :: s13 :: t :: ρ) := rfl
@[simp] theorem stR_l15 {ρ : En} (s0 s1 s2 s3 s4 s5 s6 s7 s8 s9 s10 s11 s12 s13 s14 s15 t : Sl) : stR (s0 :: s1 :: s2 :: s3 :: s4 :: s5 :: s6 :: s7 :: s8 :: s9 :: s10 :: s11 :: s12 :: s13 :: s14 :: s15 :: ρ) 15 t = .ok (s0 :: s1 :: s2 :: s3 :: s4 :: s5 :: s6 :: s7 :: s8 :: s9 :: s10 :: s11 :: s12 :: s13 :: s14 :: t :: ρ) := rfl
@[simp] theorem stR_l16 {ρ : En} (s0 s1 s2 s3 s4 s5 s6 s7 s8 s9 s10 s11 s12 s13 s14 s15 s16 t : Sl) : stR (s0 :: s1 :: s2 :: s3 :: s4 :: s5 :: s6 :: s7 :: s8 :: s9 :: s10 :: s11 :: s12 :: s13 :: s14 :: s15 :: s16 :: ρ) 16 t = .ok (s0 :: s1 :: s2 :: s3 :: s4 :: s5 :: s6 :: s7 :: s8 :: s9 :: s10 :: s11 :: s12 :: s13 :: s14 :: s15 :: t :: ρ) := rfl
@[simp] theorem stR_l17 {ρ : En} (s0 s1 s2 s3 s4 s5 s6 s7 s8 s9 s10 s11 s12 s13 s14 s15 s16 s17 t : Sl) : stR (s0 :: s1 :: s2 :: s3 :: s4 :: s5 :: s6 :: s7 :: s8 :: s9 :: s10 :: s11 :: s12 :: s13 :: s14 :: s15 :: s16 :: s17 :: ρ) 17 t = .ok (s0 :: s1 :: s2 :: s3 :: s4 :: s5 :: s6 :: s7 :: s8 :: s9 :: s10 :: s11 :: s12 :: s13 :: s14 :: s15 :: s16 :: t :: ρ) := rfl
@[simp] theorem stR_l18 {ρ : En} (s0 s1 s2 s3 s4 s5 s6 s7 s8 s9 s10 s11 s12 s13 s14 s15 s16 s17 s18 t : Sl) : stR (s0 :: s1 :: s2 :: s3 :: s4 :: s5 :: s6 :: s7 :: s8 :: s9 :: s10 :: s11 :: s12 :: s13 :: s14 :: s15 :: s16 :: s17 :: s18 :: ρ) 18 t = .ok (s0 :: s1 :: s2 :: s3 :: s4 :: s5 :: s6 :: s7 :: s8 :: s9 :: s10 :: s11 :: s12 :: s13 :: s14 :: s15 :: s16 :: s17 :: t :: ρ) := rfl
@[simp] theorem stR_l19 {ρ : En} (s0 s1 s2 s3 s4 s5 s6 s7 s8 s9 s10 s11 s12 s13 s14 s15 s16 s17 s18 s19 t : Sl) : stR (s0 :: s1 :: s2 :: s3 :: s4 :: s5 :: s6 :: s7 :: s8 :: s9 :: s10 :: s11 :: s12 :: s13 :: s14 :: s15 :: s16 :: s17 :: s18 :: s19 :: ρ) 19 t = .ok (s0 :: s1 :: s2 :: s3 :: s4 :: s5 :: s6 :: s7 :: s8 :: s9 :: s10 :: s11 :: s12 :: s13 :: s14 :: s15 :: s16 :: s17 :: s18 :: t :: ρ) := rfl
@[simp] theorem stR_l20 {ρ : En} (s0 s1 s2 s3 s4 s5 s6 s7 s8 s9 s10 s11 s12 s13 s14 s15 s16 s17 s18 s19 s20 t : Sl) : stR (s0 :: s1 :: s2 :: s3 :: s4 :: s5 :: s6 :: s7 :: s8 :: s9 :: s10 :: s11 :: s12 :: s13 :: s14 :: s15 :: s16 :: s17 :: s18 :: s19 :: s20 :: ρ) 20 t = .ok (s0 :: s1 :: s2 :: s3 :: s4 :: s5 :: s6 :: s7 :: s8 :: s9 :: s10 :: s11 :: s12 :: s13 :: s14 :: s15 :: s16 :: s17 :: s18 :: s19 :: t :: ρ) := rfl
@[simp] theorem stR_l21 {ρ : En} (s0 s1 s2 s3 s4 s5 s6 s7 s8 s9 s10 s11 s12 s13 s14 s15 s16 s17 s18 s19 s20 s21 t : Sl) : stR (s0 :: s1 :: s2 :: s3 :: s4 :: s5 :: s6 :: s7 :: s8 :: s9 :: s10 :: s11 :: s12 :: s13 :: s14 :: s15 :: s16 :: s17 :: s18 :: s19 :: s20 :: s21 :: ρ) 21 t = .ok (s0 :: s1 :: s2 :: s3 :: s4 :: s5 :: s6 :: s7 :: s8 :: s9 :: s10 :: s11 :: s12 :: s13 :: s14 :: s15 :: s16 :: s17 :: s18 :: s19 :: s20 :: t :: ρ) := rfl
@[simp] theorem stR_l22 {ρ : En} (s0 s1 s2 s3 s4 s5 s6 s7 s8 s9 s10 s11 s12 s13 s14 s15 s16 s17 s18 s19 s20 s21 s22 t : Sl) : stR (s0 :: s1 :: s2 :: s3 :: s4 :: s5 :: s6 :: s7 :: s8 :: s9 :: s10 :: s11 :: s12 :: s13 :: s14 :: s15 :: s16 :: s17 :: s18 :: s19 :: s20 :: s21 :: s22 :: ρ) 22 t = .ok (s0 :: s1 :: s2 :: s3 :: s4 :: s5 :: s6 :: s7 :: s8 :: s9 :: s10 :: s11 :: s12 :: s13 :: s14 :: s15 :: s16 :: s17 :: s18 :: s19 :: s20 :: s21 :: t :: ρ) := rfl
@[simp] theorem stR_l23 {ρ : En} (s0 s1 s2 s3 s4 s5 s6 s7 s8 s9 s10 s11 s12 s13 s14 s15 s16 s17 s18 s19 s20 s21 s22 s23 t : Sl) : stR (s0 :: s1 :: s2 :: s3 :: s4 :: s5 :: s6 :: s7 :: s8 :: s9 :: s10 :: s11 :: s12 :: s13 :: s14 :: s15 :: s16 :: s17 :: s18 :: s19 :: s20 :: s21 :: s22 :: s23 :: ρ) 23 t = .ok (s0 :: s1 :: s2 :: s3 :: s4 :: s5 :: s6 :: s7 :: s8 :: s9 :: s10 :: s11 :: s12 :: s13 :: s14 :: s15 :: s16 :: s17 :: s18 :: s19 :: s20 :: s21 :: s22 :: t :: ρ) := rfl
@[simp] theorem end_nx (ρ : En) : (O.nx ρ).end = .ok .non := rfl
@[simp] theorem end_rt (d : D) : (O.rt d).end = .ok d := rfl
@[simp] theorem end_exc (k : String) (ρ : En) : (O.exc k ρ).end = .exc k := rfl
@[simp] theorem tru_bl (b : Bool) : truD (.bl b) = some b := rfl
@[simp] theorem add_ii (i j : Int) : binD .add (.int i) (.int j) = .ok (.int (i + j)) := rfl
@[simp] theorem sub_ii (i j : Int) : binD .sub (.int i) (.int j) = .ok (.int (i - j)) := rfl
@[simp] theorem mul_ii (i j : Int) : binD .mul (.int i) (.int j) = ifR (mulOk i j) (.ok (.int (i * j))) .bad := rfl
@[simp] theorem div_ii (i j : Int) : binD .div (.int i) (.int j) = ifR (divOk j) (.ok (.int (i.fdiv j))) .bad := rfl
@[simp] theorem mod_ii (i j : Int) : binD .mod (.int i) (.int j) = ifR (!decide (j = 0)) (.ok (.int (i.fmod j))) .bad := by
  show (if j ≠ 0 then _ else _) = _
  by_cases h : j = 0 <;> simp [h]
@[simp] theorem pow_ii (i j : Int) : binD .pow (.int i) (.int j) = ifR (pwOk i j) (.ok (.int (i ^ j.toNat))) .bad := rfl
@[simp] theorem shl_ii (i j : Int) : binD .shl (.int i) (.int j) = ifR (powOk i j) (.ok (.int (i * 2 ^ j.toNat))) .bad := rfl
@[simp] theorem add_ll (xs ys : List D) : binD .add (.lst xs) (.lst ys) = ifR (decide (xs.length + ys.length ≤ 16777216)) (.ok (.lst (xs ++ ys))) .bad := by
  show (if _ then _ else _) = _
  unfold ifR
  simp only [decide_eq_true_eq]
@[simp] theorem sl_l (xs : List D) (lo hi : Option Int) : slD (.lst xs) lo hi = .ok (.lst (cutD xs lo hi)) := rfl
@[simp] theorem sl_c (ns : List Int) (lo hi : Option Int) : slD (.scr ns) lo hi = .ok (.lst ((cutD ns lo hi).map .int)) := rfl
theorem cut_map {α β : Type} (f : α → β) (xs : List α) (lo hi : Option Int) : cutD (xs.map f) lo hi = (cutD xs lo hi).map f := by
  unfold cutD
  rw [List.length_map, List.map_take, List.map_drop]
@[simp] theorem lt_ii (i j : Int) : cpD .lt (.int i) (.int j) = .ok (.bl (decide (i < j))) := rfl
@[simp] theorem le_ii (i j : Int) : cpD .le (.int i) (.int j) = .ok (.bl (decide (i ≤ j))) := rfl
@[simp] theorem gt_ii (i j : Int) : cpD .gt (.int i) (.int j) = .ok (.bl (decide (j < i))) := rfl
@[simp] theorem ge_ii (i j : Int) : cpD .ge (.int i) (.int j) = .ok (.bl (decide (j ≤ i))) := rfl
theorem eqd_ii (i j : Int) : eqd (.int i) (.int j) = decide (i = j) := by unfold eqd toP; first | rfl | simp [PyData.eqv]
@[simp] theorem eq_ii (i j : Int) : cpD .eq (.int i) (.int j) = .ok (.bl (decide (i = j))) := by
  show (if shp (.int i) && shp (.int j) then (R.ok (D.bl (eqd (.int i) (.int j))) : R D) else .bad) = _
  rw [eqd_ii]; rfl
@[simp] theorem ne_ii (i j : Int) : cpD .ne (.int i) (.int j) = .ok (.bl (!decide (i = j))) := by
  show (if shp (.int i) && shp (.int j) then (R.ok (D.bl (!eqd (.int i) (.int j))) : R D) else .bad) = _
  rw [eqd_ii]; rfl
@[simp] theorem neg_i (i : Int) : negD (.int i) = .ok (.int (-i)) := rfl
@[simp] theorem abs_i (i : Int) : bltD .abs [.int i] = .ok (.int (i.natAbs : Int)) := by
  show R.ok (D.int (if i < 0 then -i else i)) = _
  rw [show (if i < 0 then -i else i) = (i.natAbs : Int) by split <;> omega]
@[simp] theorem int_bl (b : Bool) : bltD .int [.bl b] = .ok (.int (if b then 1 else 0)) := rfl
@[simp] theorem min_ii (i j : Int) : bltD .min [.int i, .int j] = .ok (.int (min i j)) := by
  show R.ok (D.int (if j < i then j else i)) = _
  rw [show (if j < i then j else i) = min i j by split <;> omega]
@[simp] theorem max_ii (i j : Int) : bltD .max [.int i, .int j] = .ok (.int (max i j)) := by
  show R.ok (D.int (if j > i then j else i)) = _
  rw [show (if j > i then j else i) = max i j by split <;> omega]
@[simp] theorem len_l (xs : List D) : bltD .len [.lst xs] = .ok (.int xs.length) := rfl
@[simp] theorem len_t (xs : List D) : bltD .len [.tup xs] = .ok (.int xs.length) := rfl
@[simp] theorem len_s (ns : List Int) : bltD .len [.scr ns] = .ok (.int ns.length) := rfl
@[simp] theorem items_l (xs : List D) : itemsOf (.lst xs) = .ok xs := rfl
@[simp] theorem items_t (xs : List D) : itemsOf (.tup xs) = .ok xs := rfl
@[simp] theorem items_s (ns : List Int) : itemsOf (.scr ns) = .ok (ns.map .int) := rfl
theorem atI_nat {α : Type} {xs : List α} {i : Nat} {d : α} (h : xs[i]? = some d) : L2.atI xs (i : Int) = some d := by
  have hl : i < xs.length := (List.getElem?_eq_some_iff.mp h).1
  unfold L2.atI ixN
  have h1 : ¬ (i : Int) < 0 := by omega
  have h2 : (i : Int) < xs.length := by omega
  simp [h1, h2, h]
theorem ix_tn {xs : List D} {i : Nat} {d : D} (h : xs[i]? = some d) : ixD (.tup xs) (.int (i : Int)) = .ok d := by
  show (match L2.atI xs (i : Int) with | some d => R.ok d | none => .bad) = _
  rw [atI_nat h]
theorem ix_ln {xs : List D} {i : Nat} {d : D} (h : xs[i]? = some d) : ixD (.lst xs) (.int (i : Int)) = .ok d := by
  show (match L2.atI xs (i : Int) with | some d => R.ok d | none => .bad) = _
  rw [atI_nat h]
theorem atI_lit {α : Type} (xs : List α) (n : Nat) : L2.atI xs (n : Int) = xs[n]? := by
  cases h : xs[n]? with
  | some d => exact atI_nat h
  | none =>
    have hl : xs.length ≤ n := List.getElem?_eq_none_iff.mp h
    unfold L2.atI ixN
    have h1 : ¬ (n : Int) < 0 := by omega
    have h2 : ¬ (n : Int) < xs.length := by omega
    simp [h1, h2, hl]
@[simp] theorem ix_tN (xs : List D) (n : Nat) : ixD (.tup xs) (.int (no_index (OfNat.ofNat n))) = match xs[n]? with | some d => .ok d | none => .bad := by
  show (match L2.atI xs (n : Int) with | some d => R.ok d | none => .bad) = _
  rw [atI_lit] <;> rfl
@[simp] theorem ix_lN (xs : List D) (n : Nat) : ixD (.lst xs) (.int (no_index (OfNat.ofNat n))) = match xs[n]? with | some d => .ok d | none => .bad := by
  show (match L2.atI xs (n : Int) with | some d => R.ok d | none => .bad) = _
  rw [atI_lit] <;> rfl
@[simp] theorem ix_tNn (xs : List D) (n : Nat) : ixD (.tup xs) (.int (n : Int)) = match xs[n]? with | some d => .ok d | none => .bad := ix_tN xs n
@[simp] theorem ix_lNn (xs : List D) (n : Nat) : ixD (.lst xs) (.int (n : Int)) = match xs[n]? with | some d => .ok d | none => .bad := ix_lN xs n
theorem ixN_of {n : Nat} {k : Nat} (h : k < n) : ixN n (k : Int) = some k := by
  unfold ixN
  have h1 : ¬ (k : Int) < 0 := by omega
  have h2 : (k : Int) < n := by omega
  simp [h1, h2]
def condR (ρ : En) (tg : Tg) (cond : Ex) (d : D) : R D := if isNop cond then .ok (.bl true) else (setT tg d (wipeN ρ (slotsT tg))).bind fun ρ' => ev ρ' cond
def eltR (ρ : En) (tg : Tg) (elt : Ex) (d : D) : R D := (setT tg d (wipeN ρ (slotsT tg))).bind fun ρ' => ev ρ' elt
@[simp ↓] theorem condR_nop {ρ : En} (tg : Tg) (d : D) : condR ρ tg .nop d = .ok (.bl true) := rfl
theorem condR_eq {ρ : En} (tg : Tg) {cond : Ex} (h : isNop cond = false) (d : D) : condR ρ tg cond d = rb (setT tg d (wipeN ρ (slotsT tg))) fun ρ' => ev ρ' cond := by unfold condR; rw [h]; rfl
@[simp ↓] theorem eltR_eq {ρ : En} (tg : Tg) (elt : Ex) (d : D) : eltR ρ tg elt d = rb (setT tg d (wipeN ρ (slotsT tg))) fun ρ' => ev ρ' elt := rfl
def lcI (ρ : En) (vs : List Nat) (r : R D) : K0 r (R D) := if !vs.all (notOwn ρ) then .bad else r
@[simp] theorem lcI_0 {ρ : En} {r : R D} : lcI ρ [] r = r := rfl
@[simp] theorem lcI_s {ρ : En} {r : R D} (v : Nat) (vs : List Nat) (h : notOwn ρ v = true) : lcI ρ (v :: vs) r = lcI ρ vs r := by unfold lcI; rw [List.all_cons, h, Bool.true_and]
section
variable {ρ : En} (s s1 s2 s3 s4 : Sl) (d : D) (n : Nat)
@[simp] theorem notOwn_v : notOwn (.v d :: ρ) 0 = true := rfl
@[simp] theorem notOwn_n : notOwn (.n :: ρ) 0 = true := rfl
@[simp] theorem notOwn_s : notOwn (s :: ρ) (n + 1) = notOwn ρ n := rfl
@[simp high] theorem notOwn_4 : notOwn (s1 :: s2 :: s3 :: s4 :: ρ) (n + 4) = notOwn ρ n := rfl
end
/-- lcT, its argument first -/
def lcU (ds : List D) (r : R (List D)) : R D := lcT ds r
@[simp] theorem lcU_ok (ds ys : List D) : lcU ds (.ok ys) = lstR ys := rfl
theorem lcU_exc {ds : List D} {k : String} (h : ds.length ≤ 16777216) : lcU ds (.exc k) = .exc k := if_pos h
@[simp ↓] theorem ev_lc {ρ : En} (elt : Ex) (tg : Tg) (it cond : Ex) : ev ρ (.lc elt tg it cond) = rb (rb (ev ρ it) itemsOf) fun ds => lcI ρ (slotsT tg) (lcU ds (lcR ds (condR ρ tg cond) (eltR ρ tg elt))) := by
  (conv => lhs; unfold ev)
  rfl
theorem lcR_nil (c e : D → R D) : lcR [] c e = .ok [] := rfl
@[simp] theorem noE_ok {α : Type} (a : α) : noE (.ok a) = .ok a := rfl
theorem lcR_cons (d : D) (r : List D) (c e : D → R D) : lcR (d :: r) c e = rb (rb (noE (c d)) truR) fun b => ifR b (rb (e d) fun y => rb (lcR r c e) fun ys => .ok (y :: ys)) (lcR r c e) := by
  (conv => lhs; unfold lcR)
  cases c d with
  | ok x =>
    simp only [noE_ok, rb_ok, truR]
    cases h : truD x with
    | none => simp
    | some b =>
      cases b with
      | false => simp
      | true =>
        simp only [rb_ok, ifR_t]
        cases e d <;> rfl
  | exc k => rfl
  | bad => rfl
/-- the first item that raises -/
theorem lcR_exc {α : Type} {en : α → D} {c e : D → R D} {g : α → D} {k : String} : ∀ {l : List α} {a : α} {r : List D}, (∀ x ∈ l, c (en x) = .ok (.bl true) ∧ e (en x) = .ok (g x)) → c (en a) = .ok (.bl true) → e (en a) = .exc k → lcR (l.map en ++ en a :: r) c e = .exc k
  | [], a, r, _, h1, h2 => by
    show lcR (en a :: r) c e = _
    unfold lcR
    rw [h1, h2]
    rfl
  | d :: ds, a, r, h, h1, h2 => by
    obtain ⟨g1, g2⟩ := h d List.mem_cons_self
    rw [List.map_cons, List.cons_append]
    unfold lcR
    rw [g1, g2, lcR_exc (fun x hx => h x (List.mem_cons_of_mem _ hx)) h1 h2]
    rfl
/-- each item is taken -/
theorem lcR_map {c e : D → R D} {g : D → D} : ∀ {ds : List D}, (∀ d ∈ ds, c d = .ok (.bl true) ∧ e d = .ok (g d)) → lcR ds c e = .ok (ds.map g)
  | [], _ => rfl
  | d :: ds, h => by
    obtain ⟨h1, h2⟩ := h d List.mem_cons_self
    unfold lcR
    rw [h1, h2, lcR_map fun x hx => h x (List.mem_cons_of_mem _ hx)]
    rfl
theorem lcR_mapA {α : Type} {en : α → D} {c e : D → R D} {g : α → D} : ∀ {l : List α}, (∀ a ∈ l, c (en a) = .ok (.bl true) ∧ e (en a) = .ok (g a)) → lcR (l.map en) c e = .ok (l.map g)
  | [], _ => rfl
  | d :: ds, h => by
    obtain ⟨h1, h2⟩ := h d List.mem_cons_self
    rw [List.map_cons]
    unfold lcR
    rw [h1, h2, lcR_mapA fun x hx => h x (List.mem_cons_of_mem _ hx)]
    rfl
theorem lcR_fil {α : Type} {en : α → D} {c e : D → R D} {p : α → Bool} {g : α → D} : ∀ {l : List α}, (∀ a ∈ l, c (en a) = .ok (.bl (p a)) ∧ (p a = true → e (en a) = .ok (g a))) → lcR (l.map en) c e = .ok ((l.filter p).map g)
  | [], _ => rfl
  | d :: ds, h => by
    obtain ⟨h1, h2⟩ := h d List.mem_cons_self
    rw [List.map_cons]
    unfold lcR
    rw [h1, lcR_fil fun x hx => h x (List.mem_cons_of_mem _ hx)]
    cases hp : p d with
    | true => rw [h2 hp, List.filter_cons_of_pos hp]; rfl
    | false => rw [List.filter_cons_of_neg (by rw [hp]; decide)]; rfl
@[simp] theorem slots_nm (i : Nat) : slotsT (.nm i) = [i] := by unfold slotsT; rfl
@[simp] theorem slots_tp (ts : List Tg) : slotsT (.tp ts) = slotsTs ts := by (conv => lhs; unfold slotsT) <;> rfl
@[simp] theorem slotsTs_nil : slotsTs [] = [] := by (conv => lhs; unfold slotsTs) <;> rfl
@[simp] theorem slotsTs_cons (t : Tg) (ts : List Tg) : slotsTs (t :: ts) = slotsT t ++ slotsTs ts := by (conv => lhs; unfold slotsTs) <;> rfl
@[simp] theorem wipe_nil (ρ : En) : wipeN ρ [] = ρ := rfl
@[simp] theorem wipe_cons (ρ : En) (v : Nat) (vs : List Nat) : wipeN ρ (v :: vs) = (wipeN ρ vs).set v .n := rfl
@[simp] theorem nop_nop : isNop .nop = true := rfl
@[simp] theorem isi_int (i : Int) (cs : List String) : isiD (.int i) cs = .ok (.bl (cs.any (isT "int"))) := rfl
@[simp] theorem isi_tup (ds : List D) (cs : List String) : isiD (.tup ds) cs = .ok (.bl (cs.any (isT "tuple"))) := rfl
@[simp] theorem isi_lst (ds : List D) (cs : List String) : isiD (.lst ds) cs = .ok (.bl (cs.any (isT "list"))) := rfl
@[simp] theorem isi_scr (ds : List Int) (cs : List String) : isiD (.scr ds) cs = .ok (.bl (cs.any (isT "list"))) := rfl
@[simp] theorem isi_str (z : Str) (cs : List String) : isiD (.str z) cs = .ok (.bl (cs.any (isT "str"))) := rfl
@[simp] theorem isi_non (cs : List String) : isiD .non cs = .ok (.bl (cs.any (isT "NoneType"))) := rfl
@[simp] theorem isi_bl (b : Bool) (cs : List String) : isiD (.bl b) cs = .ok (.bl (cs.any (isT "bool"))) := rfl
theorem eqd_bb (i j : Bool) : eqd (.bl i) (.bl j) = decide (i = j) := by unfold eqd toP; first | rfl | (cases i <;> cases j <;> rfl)
@[simp] theorem eq_bb (i j : Bool) : cpD .eq (.bl i) (.bl j) = .ok (.bl (decide (i = j))) := by
  show (if shp (.bl i) && shp (.bl j) then (R.ok (D.bl (eqd (.bl i) (.bl j))) : R D) else .bad) = _
  rw [eqd_bb]; rfl
@[simp] theorem ne_bb (i j : Bool) : cpD .ne (.bl i) (.bl j) = .ok (.bl (!decide (i = j))) := by
  show (if shp (.bl i) && shp (.bl j) then (R.ok (D.bl (!eqd (.bl i) (.bl j))) : R D) else .bad) = _
  rw [eqd_bb]; rfl
@[simp] theorem isn_bb (i j : Bool) : cpD .isn (.bl i) (.bl j) = .ok (.bl (!decide (i = j))) := rfl
@[simp] theorem is_bb (i j : Bool) : cpD .is (.bl i) (.bl j) = .ok (.bl (decide (i = j))) := rfl
theorem cut_from {α : Type} {xs : List α} {n : Nat} (h : n ≤ xs.length) : cutD xs (some (n : Int)) none = xs.drop n := by
  unfold cutD
  rw [HT.sIx_nat, HT.sIx_none, Nat.min_eq_left h, List.take_of_length_le]
  rw [List.length_drop]
  exact Nat.le_refl _
@[simp] theorem list_t (xs : List D) : bltD .list [.tup xs] = .ok (.lst xs) := rfl
@[simp] theorem list_l (xs : List D) : bltD .list [.lst xs] = .ok (.lst xs) := rfl
/-! sizes -/
theorem log2_lt {n k : Nat} (hk : 0 < k) (h : n < 2 ^ k) : n.log2 < k := by
  by_cases z : n = 0
  · subst z; simpa using hk
  · exact (Nat.log2_lt z).mpr h
theorem mulOk_l {i j : Int} (h : i.natAbs < 2 ^ 64) : mulOk i j = true := by unfold mulOk; rw [decide_eq_true h]; simp
theorem mulOk_r {i j : Int} (h : j.natAbs < 2 ^ 64) : mulOk i j = true := by unfold mulOk; rw [decide_eq_true h]; simp
theorem mulOk_of {i j : Int} (a b : Nat) (h1 : i.natAbs < 2 ^ a) (h2 : j.natAbs < 2 ^ b) (ha : 0 < a) (hb : 0 < b) (h : a + b ≤ 1000000) : mulOk i j = true := by
  have := log2_lt ha h1
  have := log2_lt hb h2
  unfold mulOk
  rw [decide_eq_true (by omega)]
  rfl
theorem divOk_of {j : Int} (h0 : j ≠ 0) (h : j.natAbs < 2 ^ 9000) : divOk j = true := by
  have := log2_lt (by decide) h
  unfold divOk
  rw [Bool.and_eq_true]
  exact ⟨decide_eq_true h0, decide_eq_true this⟩
theorem defR_eq {n k : Nat} {b : List St} {args : List D} (h : args.length = k) (hk : k ≤ n) : defR n k b args = (exs (args.map .v ++ List.replicate (n - k) .n) b).end := by
  unfold defR
  rw [if_pos ⟨h, hk⟩]
def zipR (d d2 : D) : R D := if lstOnly d && lstOnly d2 then (itemsOf d).bind fun ds => (itemsOf d2).bind fun es => .ok (.lst (zipD ds es)) else .bad
def enR (d : D) : R D := (if lstOnly d then itemsOf d else .bad).bind fun ds => .ok (.lst (enumD ds))
def revR (d : D) : R D := (if lstOnly d then itemsOf d else .bad).bind fun ds => .ok (.lst ds.reverse)
section
variable {ρ : En}
@[simp ↓] theorem ev_zip (x y : Ex) : ev ρ (.zip x y) = rb (ev ρ x) fun d => rb (ev ρ y) fun d2 => zipR d d2 := by (conv => lhs; unfold ev) <;> rfl
@[simp ↓] theorem ev_enum (x : Ex) : ev ρ (.enum x) = rb (ev ρ x) enR := by (conv => lhs; unfold ev) <;> rfl
@[simp ↓] theorem ev_revd (x : Ex) : ev ρ (.revd x) = rb (ev ρ x) revR := by (conv => lhs; unfold ev) <;> rfl
@[simp] theorem zipR_l (xs ys : List D) : zipR (.lst xs) (.lst ys) = .ok (.lst (zipD xs ys)) := rfl
@[simp] theorem enR_l (xs : List D) : enR (.lst xs) = .ok (.lst (enumD xs)) := rfl
@[simp] theorem revR_l (xs : List D) : revR (.lst xs) = .ok (.lst xs.reverse) := rfl
end
theorem zip_map {α β : Type} (f : α → D) (g : β → D) (xs : List α) (ys : List β) : zipD (xs.map f) (ys.map g) = (xs.zip ys).map fun p => .tup [f p.1, g p.2] := by
  unfold zipD
  induction xs generalizing ys with
  | nil => rfl
  | cons x xs ih =>
    cases ys with
    | nil => rfl
    | cons y ys => simp only [List.map_cons, List.zipWith_cons_cons, List.zip_cons_cons, ih]
@[simp ↓] theorem ev_sm {ρ : En} (m : Sm) (x : Ex) (xs : List Ex) : ev ρ (.sm m x xs) = rb (ev ρ x) fun d => ifR (isSt d) (rb (evs ρ xs) fun ds => smD m d ds) .bad := by
  (conv => lhs; unfold ev)
  cases ev ρ x <;> try rfl
  rename_i d
  show (if !isSt d then _ else _) = ifR (isSt d) _ _
  cases isSt d <;> rfl
@[simp] theorem isSt_s (a : Str) : isSt (.str a) = true := rfl
/-! ### expressions that change lists -/
def rx {α β : Type} (r : R (α × En)) (f : α → En → R β) : K0 f (R β) := R.bind r fun a => f a.1 a.2
section
variable {α β : Type} {f : α → En → R β} {ρ : En}
@[simp] theorem rx_ok (a : α) : rx (.ok (a, ρ)) f = f a ρ := rfl
@[simp] theorem rx_exc (k : String) : rx (.exc k) f = .exc k := rfl
@[simp] theorem rx_bad : rx .bad f = .bad := rfl
end
def unqK (r : D) (f : D → List D → R (D × En)) : K0 f (R (D × En)) := unq r f
@[simp] theorem unqK_ok (d : D) (out : List D) (f : D → List D → R (D × En)) : unqK (.tup [d, .lst out]) f = f d out := rfl
@[simp] theorem isLD_l (ds : List D) : isLD (.lst ds) = true := rfl
section
variable {ρ : En}
theorem bind_rx {α β : Type} (r : R (α × En)) (f : α → En → R β) : (r.bind fun p => f p.1 p.2) = rx r f := by cases r <;> rfl
@[simp ↓] theorem evx_p (x : Ex) : evx ρ (.p x) = rb (ev ρ x) fun d => .ok (d, ρ) := by (conv => lhs; unfold evx) <;> rfl
@[simp ↓] theorem evx_io (f : Fn) (i : Nat) (xs : List Fx) : evx ρ (.io f i xs) = rb (getb ρ i) fun _ => rx (evxs ρ xs) fun ds ρ1 => rb (getb ρ1 i) fun l => rb (f.run (l :: (ds ++ f.dfl))) fun r => unqK r fun d out => rb (putk ρ1 i out) fun ρ2 => .ok (d, ρ2) := by (conv => lhs; unfold evx) <;> rfl
@[simp ↓] theorem evx_iot (f : Fn) (x : Ex) (xs : List Ex) : evx ρ (.iot f x xs) = rb (ev ρ x) fun l => ifR (isLD l) (rb (evs ρ xs) fun ds => rb (f.run (l :: (ds ++ f.dfl))) fun r => unqK r fun d _ => .ok (d, ρ)) .bad := by
  (conv => lhs; unfold evx)
  cases ev ρ x <;> try rfl
  rename_i d
  show (if !isLD d then _ else _) = ifR (isLD d) _ _
  cases isLD d <;> rfl
@[simp ↓] theorem evx_call (f : Fn) (xs : List Fx) : evx ρ (.call f xs) = rx (evxs ρ xs) fun ds ρ1 => rb (f.run (ds ++ f.dfl)) fun d => .ok (d, ρ1) := by (conv => lhs; unfold evx) <;> rfl
theorem evx_tl {α : Type} (r : R (List D × En)) (g : List D → D) : (r.bind fun p => if p.1.length ≤ 16777216 then R.ok (g p.1, p.2) else .bad) = rx r fun ds ρ1 => rb (if ds.length ≤ 16777216 then R.ok (g ds) else .bad) fun d => .ok (d, ρ1) := by
  cases r <;> try rfl
  rename_i p
  show (if p.1.length ≤ 16777216 then R.ok (g p.1, p.2) else .bad) = rb (if p.1.length ≤ 16777216 then R.ok (g p.1) else .bad) _
  split <;> rfl
@[simp ↓] theorem evx_tup (xs : List Fx) : evx ρ (.tup xs) = rx (evxs ρ xs) fun ds ρ1 => rb (tupR ds) fun d => .ok (d, ρ1) := by (conv => lhs; unfold evx); exact evx_tl (α := D) _ D.tup
@[simp ↓] theorem evx_lst (xs : List Fx) : evx ρ (.lst xs) = rx (evxs ρ xs) fun ds ρ1 => rb (lstR ds) fun d => .ok (d, ρ1) := by (conv => lhs; unfold evx); exact evx_tl (α := D) _ D.lst
@[simp ↓] theorem evx_bin (op : Op) (x y : Fx) : evx ρ (.bin op x y) = rx (evx ρ x) fun a ρ1 => rx (evx ρ1 y) fun b ρ2 => rb (binD op a b) fun d => .ok (d, ρ2) := by (conv => lhs; unfold evx) <;> rfl
@[simp ↓] theorem evx_cmp (op : Cp) (x y : Fx) : evx ρ (.cmp op x y) = rx (evx ρ x) fun a ρ1 => rx (evx ρ1 y) fun b ρ2 => rb (cpD op a b) fun d => .ok (d, ρ2) := by (conv => lhs; unfold evx) <;> rfl
@[simp ↓] theorem evx_neg (x : Fx) : evx ρ (.neg x) = rx (evx ρ x) fun a ρ1 => rb (negD a) fun d => .ok (d, ρ1) := by (conv => lhs; unfold evx) <;> rfl
@[simp ↓] theorem evx_not (x : Fx) : evx ρ (.not x) = rx (evx ρ x) fun a ρ1 => rb (truR a) fun b => .ok (.bl (!b), ρ1) := by
  (conv => lhs; unfold evx)
  cases evx ρ x <;> try rfl
  rename_i p
  show (match truD p.1 with | some b => R.ok (D.bl (!b), p.2) | none => .bad) = rb (truR p.1) _
  unfold truR
  cases truD p.1 <;> rfl
@[simp ↓] theorem evx_and (xs : List Fx) : evx ρ (.and xs) = evxAnd ρ xs := by (conv => lhs; unfold evx) <;> rfl
@[simp ↓] theorem evx_or (xs : List Fx) : evx ρ (.or xs) = evxOr ρ xs := by (conv => lhs; unfold evx) <;> rfl
@[simp ↓] theorem evx_ix (x i : Fx) : evx ρ (.ix x i) = rx (evx ρ x) fun a ρ1 => rx (evx ρ1 i) fun b ρ2 => rb (ixD a b) fun d => .ok (d, ρ2) := by (conv => lhs; unfold evx) <;> rfl
@[simp ↓] theorem evx_blt (b : Blt) (xs : List Fx) : evx ρ (.blt b xs) = rx (evxs ρ xs) fun ds ρ1 => rb (bltD b ds) fun d => .ok (d, ρ1) := by (conv => lhs; unfold evx) <;> rfl
@[simp ↓] theorem evx_rng (xs : List Fx) : evx ρ (.rng xs) = rx (evxs ρ xs) fun ds ρ1 => rb (rngD ds) fun d => .ok (d, ρ1) := by (conv => lhs; unfold evx) <;> rfl
@[simp ↓] theorem evxs_nil : evxs ρ [] = .ok ([], ρ) := by unfold evxs; rfl
@[simp ↓] theorem evxs_cons (x : Fx) (xs : List Fx) : evxs ρ (x :: xs) = rx (evx ρ x) fun d ρ1 => rx (evxs ρ1 xs) fun ds ρ2 => .ok (d :: ds, ρ2) := by (conv => lhs; unfold evxs) <;> rfl
def andX (d : D) (ρ : En) (r : R (D × En)) : K0 r (R (D × En)) := match d with | .bl true => r | .bl false => .ok (.bl false, ρ) | _ => .bad
@[simp] theorem andX_t (r : R (D × En)) : andX (.bl true) ρ r = r := rfl
@[simp] theorem andX_f (r : R (D × En)) : andX (.bl false) ρ r = .ok (.bl false, ρ) := rfl
def orX (d : D) (ρ : En) (r : R (D × En)) : K0 r (R (D × En)) := match d with | .bl true => .ok (.bl true, ρ) | .bl false => r | _ => .bad
@[simp] theorem orX_t (r : R (D × En)) : orX (.bl true) ρ r = .ok (.bl true, ρ) := rfl
@[simp] theorem orX_f (r : R (D × En)) : orX (.bl false) ρ r = r := rfl
@[simp ↓] theorem evxAnd_1 (x : Fx) : evxAnd ρ [x] = evx ρ x := by (conv => lhs; unfold evxAnd) <;> rfl
@[simp ↓] theorem evxAnd_2 (x y : Fx) (xs : List Fx) : evxAnd ρ (x :: y :: xs) = rx (evx ρ x) fun d ρ1 => andX d ρ1 (evxAnd ρ1 (y :: xs)) := by (conv => lhs; unfold evxAnd) <;> rfl
@[simp ↓] theorem evxOr_1 (x : Fx) : evxOr ρ [x] = evx ρ x := by (conv => lhs; unfold evxOr) <;> rfl
@[simp ↓] theorem evxOr_2 (x y : Fx) (xs : List Fx) : evxOr ρ (x :: y :: xs) = rx (evx ρ x) fun d ρ1 => orX d ρ1 (evxOr ρ1 (y :: xs)) := by (conv => lhs; unfold evxOr) <;> rfl
def evoR (ρ : En) (x : Fx) : R (Option Int × En) := if isNopF x then .ok (none, ρ) else (evx ρ x).bind fun b => (optI b.1).bind fun o => .ok (o, b.2)
@[simp ↓] theorem evoR_nop : evoR ρ (.p .nop) = .ok (none, ρ) := rfl
theorem evoR_of {x : Fx} (h : isNopF x = false) : evoR ρ x = rx (evx ρ x) fun b ρ1 => rb (optI b) fun o => .ok (o, ρ1) := by unfold evoR; rw [h]; rfl
section
variable (i : Nat) (d : D) (op : Op) (x y : Ex) (xs : List Ex) (b : Blt) (f : Fn) (fs : List Fx) (g h : Fx)
@[simp ↓] theorem evoR_var : evoR ρ (.p (.var i)) = rx (evx ρ (.p (.var i))) fun b ρ1 => rb (optI b) fun o => .ok (o, ρ1) := evoR_of rfl
@[simp ↓] theorem evoR_lit : evoR ρ (.p (.lit d)) = rx (evx ρ (.p (.lit d))) fun b ρ1 => rb (optI b) fun o => .ok (o, ρ1) := evoR_of rfl
@[simp ↓] theorem evoR_binp : evoR ρ (.p (.bin op x y)) = rx (evx ρ (.p (.bin op x y))) fun b ρ1 => rb (optI b) fun o => .ok (o, ρ1) := evoR_of rfl
@[simp ↓] theorem evoR_bin : evoR ρ (.bin op g h) = rx (evx ρ (.bin op g h)) fun b ρ1 => rb (optI b) fun o => .ok (o, ρ1) := evoR_of rfl
@[simp ↓] theorem evoR_io : evoR ρ (.io f i fs) = rx (evx ρ (.io f i fs)) fun b ρ1 => rb (optI b) fun o => .ok (o, ρ1) := evoR_of rfl
end
@[simp ↓] theorem evx_sl (x lo hi : Fx) : evx ρ (.sl x lo hi) = rx (evx ρ x) fun a ρ1 => rx (evoR ρ1 lo) fun l ρ2 => rx (evoR ρ2 hi) fun h ρ3 => rb (slD a l h) fun d => .ok (d, ρ3) := by (conv => lhs; unfold evx) <;> rfl
def lcXI (ρ : En) (vs : List Nat) (r : R (D × En)) : K0 r (R (D × En)) := if !vs.all (notOwn ρ) then .bad else r
@[simp] theorem lcXI_0 {r : R (D × En)} : lcXI ρ [] r = r := rfl
@[simp] theorem lcXI_s {r : R (D × En)} (v : Nat) (vs : List Nat) (h : notOwn ρ v = true) : lcXI ρ (v :: vs) r = lcXI ρ vs r := by unfold lcXI; rw [List.all_cons, h, Bool.true_and]
theorem evx_bk (r : R (List D × En)) (g : En → En) : (r.bind fun q => if q.1.length ≤ 16777216 then R.ok (D.lst q.1, g q.2) else .bad) = rx r fun ys ρ2 => rb (lstR ys) fun l => .ok (l, g ρ2) := by
  cases r <;> try rfl
  rename_i q
  show (if q.1.length ≤ 16777216 then R.ok (D.lst q.1, g q.2) else .bad) = rb (if q.1.length ≤ 16777216 then R.ok (D.lst q.1) else .bad) _
  split <;> rfl
/-- an item, by the state -/
def evF (elt : Fx) (ρ : En) : R (D × En) := evx ρ elt
@[simp] theorem evF_ap (elt : Fx) (ρ : En) : evF elt ρ = evx ρ elt := rfl
@[simp ↓] theorem evx_lc (elt : Fx) (tg : Tg) (it : Fx) : evx ρ (.lc elt tg it) = rx (evx ρ it) fun d ρ1 => rb (itemsOf d) fun ds => lcXI ρ1 (slotsT tg) (rx (lcX tg ρ1 (evF elt) ds ρ1) fun ys ρ2 => rb (lstR ys) fun l => .ok (l, bk ρ1 ρ2 (slotsT tg))) := by
  (conv => lhs; unfold evx)
  cases evx ρ it <;> try rfl
  rename_i p
  show ((itemsOf p.1).bind fun ds => _) = rb (itemsOf p.1) fun ds => _
  cases itemsOf p.1 <;> try rfl
  rename_i ds
  show (if !(slotsT tg).all (notOwn p.2) then R.bad else _) = lcXI p.2 (slotsT tg) _
  unfold lcXI
  split
  · rfl
  · exact evx_bk (lcX tg p.2 (fun ρ => evx ρ elt) ds p.2) fun ρ => bk p.2 ρ (slotsT tg)
theorem lcX_nil (tg : Tg) (ρ0 : En) (g : En → R (D × En)) : lcX tg ρ0 g [] ρ = .ok ([], ρ) := rfl
theorem lcX_step (tg : Tg) (ρ0 : En) (g : En → R (D × En)) (d : D) (ds : List D) : lcX tg ρ0 g (d :: ds) ρ = rb (setT tg d (wipeN ρ (slotsT tg))) fun ρ1 => rx (noE (g ρ1)) fun y ρ2 => rx (lcX tg ρ0 g ds ρ2) fun ys ρ3 => .ok (y :: ys, ρ3) := rfl
/-- a comprehension that keeps I: its items have P -/
theorem lcX_keep {tg : Tg} {ρ0 : En} {g : En → R (D × En)} (I : En → Prop) (P : D → Prop) : ∀ {ds : List D} {ρ : En}, I ρ → (∀ d ∈ ds, ∀ ρ, I ρ → ∃ ρ1 y ρ2, setT tg d (wipeN ρ (slotsT tg)) = .ok ρ1 ∧ g ρ1 = .ok (y, ρ2) ∧ P y ∧ I ρ2) →
    ∃ ys ρ', lcX tg ρ0 g ds ρ = .ok (ys, ρ') ∧ ys.length = ds.length ∧ (∀ y ∈ ys, P y) ∧ I ρ'
  | [], ρ, i, _ => ⟨[], ρ, rfl, rfl, fun _ z => (by cases z), i⟩
  | d :: ds, ρ, i, h => by
    obtain ⟨ρ1, y, ρ2, e1, e2, p, i2⟩ := h d List.mem_cons_self ρ i
    obtain ⟨ys, ρ3, e3, l, ps, i3⟩ := lcX_keep I P i2 fun x hx => h x (List.mem_cons_of_mem _ hx)
    refine ⟨y :: ys, ρ3, ?_, by simp [l], fun z hz => ?_, i3⟩
    · rw [lcX_step, e1, rb_ok, e2]
      show (lcX tg ρ0 g ds ρ2).bind _ = _
      rw [e3]
    · rcases List.mem_cons.mp hz with w | w
      · rw [w]; exact p
      · exact ps z w
@[simp] theorem putk_0o (ds out : List D) : putk (.o ds :: ρ) 0 out = .ok (.o out :: ρ) := rfl
@[simp] theorem putk_0q (ds out : List D) : putk (.q ds :: ρ) 0 out = .ok (.q out :: ρ) := rfl
@[simp] theorem putk_s (s : Sl) (n : Nat) (out : List D) : putk (s :: ρ) (n + 1) out = rb (putk ρ n out) fun ρ' => .ok (s :: ρ') := by
  unfold putk
  rw [List.getElem?_cons_succ]
  cases ρ[n]? with
  | none => rfl
  | some t => cases t <;> rfl
def ox (ρ : En) (r : R (D × En)) (f : D → En → O) : K0 f O := O.ofx ρ r f
@[simp] theorem ox_ok (ρ' : En) (d : D) (f : D → En → O) : ox ρ (.ok (d, ρ')) f = f d ρ' := rfl
@[simp] theorem ox_exc (k : String) (f : D → En → O) : ox ρ (.exc k) f = .exc k (xen ρ) := rfl
@[simp] theorem ox_bad (f : D → En → O) : ox ρ .bad f = .bad := rfl
theorem ofo (ρ : En) (r : R (D × En)) (f : D → En → O) : O.ofx ρ r f = ox ρ r f := rfl
theorem ownL_oo (ρ : En) (i : Nat) (f : List D → O) : ownL ρ i f = oo ρ (geto ρ i) fun l => ownR l f := by
  unfold ownL geto
  cases ρ[i]? with
  | none => rfl
  | some s => cases s <;> rfl
theorem geto_lt {i : Nat} {ds : List D} (h : geto ρ i = .ok (.lst ds)) : i < ρ.length := by
  unfold geto at h
  cases e : ρ[i]? with
  | none => rw [e] at h; cases h
  | some s => exact (List.getElem?_eq_some_iff.mp e).1
theorem own_set_eq (ρ : En) (i : Nat) (g : List D → Bool) (h : List D → List D) : (ownL ρ i fun ds => if g ds = true then .nx (ρ.set i (.o (h ds))) else .bad) = oo ρ (geto ρ i) fun l => ownR l fun ds => ifO (g ds) (setS ρ i (.o (h ds))) .bad := by
  unfold ownL geto
  cases e : ρ[i]? with
  | none => rfl
  | some s =>
    cases s <;> try rfl
    rename_i ds
    have hi : i < ρ.length := (List.getElem?_eq_some_iff.mp e).1
    show (if g ds = true then O.nx (ρ.set i (.o (h ds))) else .bad) = ifO (g ds) (setS ρ i (.o (h ds))) .bad
    unfold ifO setS
    simp [hi]
@[simp ↓] theorem exe_asgFv (i : Nat) (x : Fx) : exe ρ (.asgF i false x) = ox ρ (evx ρ x) fun d ρ' => setS ρ' i (.v d) := by unfold exe; rfl
@[simp ↓] theorem exe_asgFo (i : Nat) (x : Fx) : exe ρ (.asgF i true x) = ox ρ (evx ρ x) fun d ρ' => ownR d fun ds => setS ρ' i (.o ds) := by unfold exe; rfl
@[simp ↓] theorem exe_appF (i : Nat) (x : Fx) : exe ρ (.appF i x) = oo ρ (geto ρ i) fun l => ownR l fun _ => ox ρ (evx ρ x) fun d ρ' => oo ρ' (geto ρ' i) fun l => ownR l fun ds => ifO (decide (ds.length < 16777216)) (setS ρ' i (.o (ds ++ [d]))) .bad := by
  unfold exe
  rw [ownL_oo]
  congr 1
  funext l
  congr 1
  funext _
  show O.ofx ρ _ _ = O.ofx ρ _ _
  congr 1
  funext d ρ'
  have := own_set_eq ρ' i (fun ds => decide (ds.length < 16777216)) (fun ds => ds ++ [d])
  simp only [decide_eq_true_eq] at this
  exact this
@[simp ↓] theorem exe_expF (x : Fx) : exe ρ (.expF x) = ox ρ (evx ρ x) fun _ ρ' => .nx ρ' := by unfold exe; rfl
@[simp ↓] theorem exe_ifeF (c : Fx) (a b : List St) : exe ρ (.ifeF c a b) = ox ρ (evx ρ c) fun d ρ' => oo ρ' (truR d) fun t => ifO t (exs ρ' a) (exs ρ' b) := by
  (conv => lhs; unfold exe)
  show O.ofx ρ _ _ = O.ofx ρ _ _
  congr 1
  funext d ρ'
  unfold truR
  cases truD d with
  | none => rfl
  | some b => cases b <;> rfl
@[simp ↓] theorem exe_forF (t : Tg) (it : Fx) (b : List St) : exe ρ (.forF t it b) = ox ρ (evx ρ it) fun d ρ' => oo ρ' (itemsOf d) fun ds => foO t b ds ρ' := by unfold exe foO; rfl
@[simp ↓] theorem exe_retF (x : Fx) : exe ρ (.retF x) = ox ρ (evx ρ x) fun d _ => .rt d := by unfold exe; rfl
@[simp ↓] theorem exe_unpF (ts : List Tg) (x : Fx) : exe ρ (.unpF ts x) = ox ρ (evx ρ x) fun d ρ' => oo ρ' (setT (.tp ts) d ρ') .nx := by unfold exe; rfl
@[simp ↓] theorem exe_stiF (i : Nat) (k : Ex) (x : Fx) : exe ρ (.stiF i k x) = ox ρ (evx ρ x) fun d ρ' => oo ρ' (geto ρ' i) fun l => ownR l fun ds => oo ρ' (ev ρ' k) fun kd => stiR ds d kd fun es => setS ρ' i (.o es) := by
  (conv => lhs; unfold exe)
  show O.ofx ρ _ _ = O.ofx ρ _ _
  congr 1
  funext d ρ'
  unfold ownL geto
  cases h : ρ'[i]? with
  | none => rfl
  | some s =>
    cases s <;> try rfl
    simp only [of_ok', ownR_l]
    cases ev ρ' k <;> try rfl
    rename_i kd
    have hi : i < ρ'.length := (List.getElem?_eq_some_iff.mp h).1
    unfold stiR setS
    simp only [ofo_ok, of_ok', hi, if_true]
    all_goals (cases kd <;> rfl)
@[simp ↓] theorem exe_retQ (x : Fx) : exe ρ (.retQ x) = ox ρ (evx ρ x) fun d ρ' => qret ρ' d := by unfold exe; rfl
@[simp ↓] theorem exe_retQN : exe ρ .retQN = qret ρ .non := by unfold exe; rfl
@[simp] theorem qret_q (out : List D) (d : D) : qret (.q out :: ρ) d = .rq d out := rfl
def getq (ρ : En) : R D := match ρ[(0 : Nat)]? with
  | some (.q ds) => .ok (.lst ds)
  | _ => .bad
@[simp] theorem getq_q (ds : List D) : getq (.q ds :: ρ) = .ok (.lst ds) := rfl
@[simp ↓] theorem exe_stq (k x : Ex) : exe ρ (.stq k x) = oo ρ (ev ρ x) fun d => oo ρ (getq ρ) fun l => ownR l fun ds => oo ρ (ev ρ k) fun kd => stiR ds d kd fun es => setS ρ 0 (.q es) := by
  unfold exe getq
  cases ev ρ x <;> try rfl
  simp only [of_ok']
  cases h : ρ[(0 : Nat)]? with
  | none => rfl
  | some s =>
    cases s <;> try rfl
    simp only [of_ok', ownR_l]
    cases ev ρ k <;> try rfl
    rename_i kd
    have hi : 0 < ρ.length := (List.getElem?_eq_some_iff.mp h).1
    unfold stiR setS
    simp only [ofo_ok, of_ok', hi, if_true]
    all_goals (cases kd <;> rfl)
def intR (d : D) (f : Int → O) : K0 f O := match d with | .int k => f k | _ => .bad
@[simp] theorem intR_i (k : Int) (f : Int → O) : intR (.int k) f = f k := rfl
@[simp ↓] theorem exe_insF (i : Nat) (k x : Fx) : exe ρ (.insF i k x) = oo ρ (geto ρ i) fun l => ownR l fun _ => ox ρ (evx ρ k) fun k ρ1 => ox ρ1 (evx ρ1 x) fun d ρ' => intR k fun k => oo ρ' (geto ρ' i) fun l => ownR l fun ds => ifO (decide (ds.length < 16777216 ∧ 0 ≤ k ∧ k < 2 ^ 63)) (setS ρ' i (.o (ds.take k.toNat ++ [d] ++ ds.drop k.toNat))) .bad := by
  unfold exe
  rw [ownL_oo]
  congr 1
  funext l
  congr 1
  funext _
  show O.ofx ρ _ _ = O.ofx ρ _ _
  congr 1
  funext k ρ1
  show O.ofx ρ1 _ _ = O.ofx ρ1 _ _
  congr 1
  funext d ρ'
  cases k with
  | int k =>
    have := own_set_eq ρ' i (fun ds => decide (ds.length < 16777216 ∧ 0 ≤ k ∧ k < 2 ^ 63)) (fun ds => ds.take k.toNat ++ [d] ++ ds.drop k.toNat)
    simp only [decide_eq_true_eq] at this
    exact this
  | _ =>
    show ownL ρ' i (fun _ => .bad) = .bad
    unfold ownL
    split <;> rfl
@[simp ↓] theorem exe_popF (i : Nat) (k : Fx) : exe ρ (.popF i k) = oo ρ (geto ρ i) fun l => ownR l fun _ => ox ρ (evx ρ k) fun k ρ' => intR k fun k => oo ρ' (geto ρ' i) fun l => ownR l fun ds => ifO (decide (0 ≤ k ∧ k < ds.length ∧ k < 2 ^ 63)) (setS ρ' i (.o (ds.eraseIdx k.toNat))) .bad := by
  unfold exe
  rw [ownL_oo]
  congr 1
  funext l
  congr 1
  funext _
  show O.ofx ρ _ _ = O.ofx ρ _ _
  congr 1
  funext k ρ'
  cases k with
  | int k =>
    have := own_set_eq ρ' i (fun ds => decide (0 ≤ k ∧ k < ds.length ∧ k < 2 ^ 63)) (fun ds => ds.eraseIdx k.toNat)
    simp only [decide_eq_true_eq] at this
    exact this
  | _ =>
    show ownL ρ' i (fun _ => .bad) = .bad
    unfold ownL
    split <;> rfl
def lstQ (d : D) (f : List D → O) : K0 f O := match d with | .lst k => f k | _ => .bad
@[simp] theorem lstQ_l (k : List D) (f : List D → O) : lstQ (.lst k) f = f k := rfl
@[simp ↓] theorem exe_extF (i : Nat) (x : Fx) : exe ρ (.extF i x) = oo ρ (geto ρ i) fun l => ownR l fun _ => ox ρ (evx ρ x) fun d ρ' => lstQ d fun es => oo ρ' (geto ρ' i) fun l => ownR l fun ds => ifO (decide (ds.length + es.length ≤ 16777216)) (setS ρ' i (.o (ds ++ es))) .bad := by
  unfold exe
  rw [ownL_oo]
  congr 1
  funext l
  congr 1
  funext _
  show O.ofx ρ _ _ = O.ofx ρ _ _
  congr 1
  funext d ρ'
  cases d with
  | lst es =>
    have := own_set_eq ρ' i (fun ds => decide (ds.length + es.length ≤ 16777216)) (fun ds => ds ++ es)
    simp only [decide_eq_true_eq] at this
    exact this
  | _ =>
    show ownL ρ' i (fun _ => .bad) = .bad
    unfold ownL
    split <;> rfl
@[simp] theorem endQ_rq (d : D) (out : List D) : (O.rq d out).endQ = .ok (.tup [d, .lst out]) := rfl
@[simp] theorem endQ_nx (out : List D) : (O.nx (.q out :: ρ)).endQ = .ok (.tup [.non, .lst out]) := rfl
@[simp] theorem endQ_exc (k : String) : (O.exc k ρ).endQ = .exc k := rfl
end
theorem endQ_is {o : O} {v : D} {out : List D} (h : Pr (o.is { N := fun ρ => v = .non ∧ ∃ ρ', ρ = .q out :: ρ', Qr := fun d q => d = v ∧ q = out })) : o.endQ = .ok (.tup [v, .lst out]) := by
  cases o
  · obtain ⟨rfl, ρ', rfl⟩ : v = .non ∧ ∃ ρ', _ = Sl.q out :: ρ' := h
    rfl
  case rq d q =>
    obtain ⟨rfl, rfl⟩ : d = v ∧ q = out := h
    rfl
  all_goals exact h.elim
theorem endQ_ex {o : O} {P : D → List D → Prop} (h : Pr (o.is { N := fun ρ => ∃ out ρ', ρ = .q out :: ρ' ∧ P .non out, Qr := P })) : ∃ v out, o.endQ = .ok (.tup [v, .lst out]) ∧ P v out := by
  cases o
  · obtain ⟨out, ρ', rfl, p⟩ : ∃ out ρ', _ = Sl.q out :: ρ' ∧ P .non out := h
    exact ⟨_, _, rfl, p⟩
  case rq d q => exact ⟨_, _, rfl, h⟩
  all_goals exact h.elim
theorem defQ_eq {n k : Nat} {b : List St} {l as : List D} (h : as.length + 1 = k) (hk : k ≤ n) : defQ n k b (.lst l :: as) = (exs (.q l :: (as.map .v ++ List.replicate (n - k) .n)) b).endQ := by
  show (if (D.lst l :: as).length = k ∧ k ≤ n then _ else _) = _
  rw [if_pos ⟨by rw [List.length_cons]; exact h, hk⟩]
end OL
namespace OL
open PySem PySem.Spec PyProof.Rows L2
theorem emod_gcd (b a : Int) (hb : 0 ≤ b) : Int.gcd (b % a) a = Int.gcd a b := by
  unfold Int.gcd
  rw [Int.natAbs_emod_of_nonneg hb, ← Nat.gcd_rec]
def rn (a b : Int) : Int := if b < 0 then a.fdiv (0 - (Int.gcd a b : Int)) else a.fdiv (Int.gcd a b)
def rd (a b : Int) : Int := if b < 0 then b.fdiv (0 - (Int.gcd a b : Int)) else b.fdiv (Int.gcd a b)
theorem gcd_pos {a b : Int} (h : b ≠ 0) : 0 < Int.gcd a b := by
  rcases Nat.eq_zero_or_pos (Int.gcd a b) with z | z
  · exact absurd (Int.gcd_eq_zero_iff.mp z).2 h
  · exact z
theorem gcd_le {a b : Int} (h : b ≠ 0) : Int.gcd a b ≤ b.natAbs := Nat.le_of_dvd (by omega) (Nat.gcd_dvd_right _ _)
theorem rat_facts {a b : Int} (h : b ≠ 0) : 1 ≤ rd a b ∧ Int.gcd (rn a b) (rd a b) = 1 ∧ a * rd a b = rn a b * b ∧ (rn a b).natAbs ≤ a.natAbs ∧ (rd a b).natAbs ≤ b.natAbs := by
  have hg : 0 < Int.gcd a b := gcd_pos h
  obtain ⟨a', ea⟩ := Int.gcd_dvd_left (a := a) (b := b)
  obtain ⟨b', eb⟩ := Int.gcd_dvd_right (a := a) (b := b)
  have hc : Int.gcd a' b' = 1 := by
    have e := Int.gcd_mul_left (Int.gcd a b : Int) a' b'
    rw [← ea, ← eb, Int.natAbs_natCast] at e
    exact Nat.eq_of_mul_eq_mul_left hg (by omega)
  generalize hgg : Int.gcd a b = g at *
  have hg0 : (g : Int) ≠ 0 := by omega
  have hg1 : (0 - (g : Int)) ≠ 0 := by omega
  have la : a'.natAbs ≤ a.natAbs := by
    rw [ea, Int.natAbs_mul, Int.natAbs_natCast]
    exact Nat.le_mul_of_pos_left _ hg
  have lb : b'.natAbs ≤ b.natAbs := by
    rw [eb, Int.natAbs_mul, Int.natAbs_natCast]
    exact Nat.le_mul_of_pos_left _ hg
  unfold rn rd
  rw [hgg]
  have nn : (0 - (g : Int)) * (-a') = a ∧ (0 - (g : Int)) * (-b') = b := by
    rw [Int.zero_sub, Int.neg_mul_neg, Int.neg_mul_neg]
    exact ⟨ea.symm, eb.symm⟩
  by_cases hb : b < 0
  · rw [if_pos hb, if_pos hb]
    have e1 : a.fdiv (0 - (g : Int)) = -a' := by
      conv => lhs; rw [← nn.1]
      exact Int.mul_fdiv_cancel_left _ hg1
    have e2 : b.fdiv (0 - (g : Int)) = -b' := by
      conv => lhs; rw [← nn.2]
      exact Int.mul_fdiv_cancel_left _ hg1
    rw [e1, e2]
    refine ⟨?_, by simpa using hc, ?_, by rw [Int.natAbs_neg]; exact la, by rw [Int.natAbs_neg]; exact lb⟩
    · have : ¬ 0 ≤ b' := fun z => by
        have := Int.mul_nonneg (show (0 : Int) ≤ g by omega) z
        omega
      omega
    · rw [ea, eb, Int.mul_neg, Int.neg_mul]
      congr 1
      rw [Int.mul_assoc, Int.mul_left_comm]
  · rw [if_neg hb, if_neg hb]
    have e1 : a.fdiv (g : Int) = a' := by
      conv => lhs; rw [ea]
      exact Int.mul_fdiv_cancel_left _ hg0
    have e2 : b.fdiv (g : Int) = b' := by
      conv => lhs; rw [eb]
      exact Int.mul_fdiv_cancel_left _ hg0
    rw [e1, e2]
    refine ⟨?_, hc, ?_, la, lb⟩
    · have h1 : 0 < b := by omega
      have : 0 < b' := Int.pos_of_mul_pos_right (a := (g : Int)) (by rw [← eb]; exact h1) (by omega)
      omega
    · rw [ea, eb]
      rw [Int.mul_assoc, Int.mul_left_comm]
theorem dvo_gcd {a b : Int} (h : b ≠ 0) (hb : b.natAbs < 2 ^ 9000) : divOk (Int.gcd a b : Int) = true ∧ divOk (0 - (Int.gcd a b : Int)) = true := by
  have h1 := gcd_pos (a := a) h
  have h2 := gcd_le (a := a) h
  exact ⟨divOk_of (by omega) (by rw [Int.natAbs_natCast]; omega), divOk_of (by omega) (by rw [Int.zero_sub, Int.natAbs_neg, Int.natAbs_natCast]; omega)⟩
theorem mulOk_le {i j : Int} (a b : Int) (h1 : i.natAbs ≤ a.natAbs) (h2 : j.natAbs ≤ b.natAbs) (h : a.natAbs.log2 + b.natAbs.log2 < 999998) : mulOk i j = true := by
  have l1 : i.natAbs < 2 ^ (a.natAbs.log2 + 1) := Nat.lt_of_le_of_lt h1 Nat.lt_log2_self
  have l2 : j.natAbs < 2 ^ (b.natAbs.log2 + 1) := Nat.lt_of_le_of_lt h2 Nat.lt_log2_self
  exact mulOk_of _ _ l1 l2 (by omega) (by omega) (by omega)
theorem fmod_b (x : Int) {m : Int} (h : 0 < m) : 0 ≤ x.fmod m ∧ x.fmod m < m := ⟨Int.fmod_nonneg_of_pos x h, Int.fmod_lt_of_pos x h⟩
theorem bitlen_i (i : Int) : mthD .bitlen (.int i) [] = .ok (.int ((Builtin.Int.intBits i : Nat) : Int)) := rfl
theorem rng_1 {j : Int} (h0 : 0 ≤ j) (h : j ≤ 1000000) : rngD [.int j] = .ok (.lst ((List.range j.toNat).map fun (k : Nat) => D.int k)) := by
  show (if -(2 ^ 62) ≤ j ∧ j < 2 ^ 62 then _ else _) = _
  rw [if_pos ⟨by omega, by omega⟩]
theorem rng_2 {i j : Int} (h0 : -1000000 ≤ i) (h1 : i ≤ 1000000) (h2 : -1000000 ≤ j) (h : j ≤ 1000000) : rngD [.int i, .int j] = .ok (.lst ((List.range (j - i).toNat).map fun (k : Nat) => D.int (i + k))) := by
  show (if -(2 ^ 62) ≤ i ∧ i < 2 ^ 62 ∧ -(2 ^ 62) ≤ j ∧ j < 2 ^ 62 then _ else _) = _
  rw [if_pos ⟨by omega, by omega, by omega, by omega⟩]
theorem ne_t2 (a b c d : Int) : cpD .ne (.tup [.int a, .int b]) (.tup [.int c, .int d]) = .ok (.bl (!(decide (a = c) && decide (b = d)))) := by
  have e : eqd (.tup [.int a, .int b]) (.tup [.int c, .int d]) = (decide (a = c) && decide (b = d)) := by
    unfold eqd toP
    simp [toPL, toP, PyData.eqv, PyData.eqvAll]
    rfl
  show (if shp (.tup [.int a, .int b]) && shp (.tup [.int c, .int d]) then (R.ok (D.bl (!eqd (.tup [.int a, .int b]) (.tup [.int c, .int d]))) : R D) else .bad) = _
  rw [e]
  rfl
theorem mul_b {x y : Int} (a b : Nat) (h1 : x.natAbs ≤ a) (h2 : y.natAbs ≤ b) : (x * y).natAbs ≤ a * b := by
  rw [Int.natAbs_mul]
  exact Nat.mul_le_mul h1 h2
theorem one_facts (a : Int) : rn a 1 = a ∧ rd a 1 = 1 := by
  unfold rn rd
  simp
end OL
namespace OL
open PySem PySem.Spec PyProof.Rows L2
/-! ### fractions as rational numbers -/
def frD (q : Rat) : D := .tup [.int q.num, .int q.den]
def Sz (k : Nat) (q : Rat) : Prop := q.num.natAbs < 2 ^ k ∧ q.den < 2 ^ k
theorem rat_eq {a b : Int} (h : b ≠ 0) : (Rat.divInt a b).num = rn a b ∧ ((Rat.divInt a b).den : Int) = rd a b := by
  obtain ⟨f1, f2, f3, _⟩ := rat_facts (a := a) h
  have hd : ((rd a b).toNat : Int) = rd a b := by omega
  have hq : Nat.Coprime (rn a b).natAbs (rd a b).toNat := by
    have e : (rd a b).toNat = (rd a b).natAbs := by omega
    rw [e]
    exact f2
  have hz : (rd a b).toNat ≠ 0 := by omega
  have e : (⟨rn a b, (rd a b).toNat, hz, hq⟩ : Rat) = Rat.divInt a b := by
    rw [Rat.mk_eq_divInt, hd]
    exact (Rat.divInt_eq_divInt_iff (by omega) h).mpr f3.symm
  rw [← e]
  exact ⟨rfl, hd⟩
theorem sz_div {a b : Int} {k : Nat} (h : b ≠ 0) (ha : a.natAbs < 2 ^ k) (hb : b.natAbs < 2 ^ k) : Sz k (Rat.divInt a b) := by
  obtain ⟨f1, f2, f3, f4, f5⟩ := rat_facts (a := a) h
  obtain ⟨e1, e2⟩ := rat_eq (a := a) h
  refine ⟨by rw [e1]; exact Nat.lt_of_le_of_lt f4 ha, Nat.lt_of_le_of_lt ?_ hb⟩
  omega
theorem sz_mono {k l : Nat} {q : Rat} (h : Sz k q) (hl : k ≤ l) : Sz l q := ⟨Nat.lt_of_lt_of_le h.1 (Nat.pow_le_pow_right (by decide) hl), Nat.lt_of_lt_of_le h.2 (Nat.pow_le_pow_right (by decide) hl)⟩
theorem den_pos (q : Rat) : (0 : Int) < q.den := by have := q.den_pos; omega
theorem frD_inj {p q : Rat} : frD p = frD q ↔ p = q := by
  constructor
  · intro h
    unfold frD at h
    simp at h
    exact Rat.ext h.1 (by have := h.2; omega)
  · intro h
    rw [h]
@[simp] theorem ix_f0 (q : Rat) : ixD (frD q) (.int 0) = .ok (.int q.num) := by unfold frD; simp
@[simp] theorem ix_f1 (q : Rat) : ixD (frD q) (.int 1) = .ok (.int q.den) := by unfold frD; simp
theorem eqd_t2 (a b c d : Int) : eqd (.tup [.int a, .int b]) (.tup [.int c, .int d]) = (decide (a = c) && decide (b = d)) := by
  unfold eqd toP
  simp [toPL, toP, PyData.eqv, PyData.eqvAll]
  rfl
theorem eqd_f (p q : Rat) : eqd (frD p) (frD q) = decide (p = q) := by
  unfold frD
  rw [eqd_t2]
  by_cases h : p = q
  · subst h; simp
  · rw [decide_eq_false h]
    have : ¬ (p.num = q.num ∧ (p.den : Int) = q.den) := fun z => h (Rat.ext z.1 (by have := z.2; omega))
    simp only [Bool.and_eq_false_iff, decide_eq_false_iff_not]
    by_cases h1 : p.num = q.num
    · exact .inr fun z => this ⟨h1, z⟩
    · exact .inl h1
@[simp] theorem eq_f (p q : Rat) : cpD .eq (frD p) (frD q) = .ok (.bl (decide (p = q))) := by
  show (if shp (frD p) && shp (frD q) then (R.ok (D.bl (eqd (frD p) (frD q))) : R D) else .bad) = _
  rw [eqd_f]; rfl
@[simp] theorem ne_f (p q : Rat) : cpD .ne (frD p) (frD q) = .ok (.bl (!decide (p = q))) := by
  show (if shp (frD p) && shp (frD q) then (R.ok (D.bl (!eqd (frD p) (frD q))) : R D) else .bad) = _
  rw [eqd_f]; rfl
theorem mul_lt2 {x y : Int} {k l : Nat} (h1 : x.natAbs < 2 ^ k) (h2 : y.natAbs < 2 ^ l) : (x * y).natAbs < 2 ^ (k + l) := by
  rw [Int.natAbs_mul, Nat.pow_add]
  exact Nat.mul_lt_mul'' h1 h2
theorem add_lt2 {x y : Int} {k : Nat} (h1 : x.natAbs < 2 ^ k) (h2 : y.natAbs < 2 ^ k) : (x + y).natAbs < 2 ^ (k + 1) ∧ (x - y).natAbs < 2 ^ (k + 1) := by
  rw [Nat.pow_succ]
  omega
/-- the numbers that the four operations make -/
theorem rat_add (p q : Rat) : Rat.divInt (p.num * q.den + q.num * p.den) (p.den * q.den) = p + q := by
  have h := Rat.divInt_add_divInt p.num q.num (d₁ := p.den) (d₂ := q.den) (by have := den_pos p; omega) (by have := den_pos q; omega)
  rw [Rat.num_divInt_den, Rat.num_divInt_den] at h
  exact h.symm
theorem rat_sub (p q : Rat) : Rat.divInt (p.num * q.den - q.num * p.den) (p.den * q.den) = p - q := by
  have h := Rat.divInt_sub_divInt p.num q.num (d₁ := p.den) (d₂ := q.den) (by have := den_pos p; omega) (by have := den_pos q; omega)
  rw [Rat.num_divInt_den, Rat.num_divInt_den] at h
  exact h.symm
theorem rat_mul (p q : Rat) : Rat.divInt (p.num * q.num) (p.den * q.den) = p * q := by
  have h := Rat.divInt_mul_divInt p.num q.num (d₁ := p.den) (d₂ := q.den)
  rw [Rat.num_divInt_den, Rat.num_divInt_den] at h
  exact h.symm
theorem rat_div (p q : Rat) : Rat.divInt (p.num * q.den) (p.den * q.num) = p / q := by
  have h := Rat.divInt_mul_divInt p.num (q.den : Int) (d₁ := p.den) (d₂ := q.num)
  rw [Rat.num_divInt_den, ← Rat.inv_divInt, Rat.num_divInt_den] at h
  rw [Rat.div_def]
  exact h.symm
theorem dd_ne (p q : Rat) : ((p.den : Int) * q.den) ≠ 0 := by
  have := Int.mul_pos (den_pos p) (den_pos q)
  omega
/-- sizes of them -/
theorem sz_nd {k l m : Nat} {p q : Rat} (hp : Sz k p) (hq : Sz l q) (hm : k + l ≤ m) : (p.num * q.den).natAbs < 2 ^ m ∧ (q.num * p.den).natAbs < 2 ^ m ∧ ((p.den : Int) * q.den).natAbs < 2 ^ m ∧ (p.num * q.num).natAbs < 2 ^ m ∧ ((p.den : Int) * q.num).natAbs < 2 ^ m := by
  have up : ∀ z : Int, z.natAbs < 2 ^ (k + l) → z.natAbs < 2 ^ m := fun z h => Nat.lt_of_lt_of_le h (Nat.pow_le_pow_right (by decide) hm)
  have a1 : ((p.den : Int)).natAbs < 2 ^ k := by rw [Int.natAbs_natCast]; exact hp.2
  have a2 : ((q.den : Int)).natAbs < 2 ^ l := by rw [Int.natAbs_natCast]; exact hq.2
  refine ⟨up _ (mul_lt2 hp.1 a2), up _ ?_, up _ (mul_lt2 a1 a2), up _ (mul_lt2 hp.1 hq.1), up _ (mul_lt2 a1 hq.1)⟩
  rw [Nat.add_comm]
  exact mul_lt2 hq.1 a1
theorem sz_ok {k l : Nat} {p q : Rat} (hp : Sz k p) (hq : Sz l q) (hk : 0 < k) (hl : 0 < l) (h : k + l ≤ 1000000) : mulOk p.num q.den = true ∧ mulOk q.num p.den = true ∧ mulOk p.den q.den = true ∧ mulOk p.num q.num = true ∧ mulOk p.den q.num = true := by
  have a1 : ((p.den : Int)).natAbs < 2 ^ k := by rw [Int.natAbs_natCast]; exact hp.2
  have a2 : ((q.den : Int)).natAbs < 2 ^ l := by rw [Int.natAbs_natCast]; exact hq.2
  exact ⟨mulOk_of k l hp.1 a2 hk hl h, mulOk_of l k hq.1 a1 hl hk (by omega), mulOk_of k l a1 a2 hk hl h, mulOk_of k l hp.1 hq.1 hk hl h, mulOk_of k l a1 hq.1 hk hl h⟩
theorem gcd_abs (a b : Int) : Int.gcd (a.natAbs : Int) b = Int.gcd a b := by unfold Int.gcd; rw [Int.natAbs_natCast]
/-- a fraction over a number above nought -/
theorem fr_pos {a b : Int} (h : 0 < b) : frD (Rat.divInt a b) = .tup [.int (a.fdiv (Int.gcd a b)), .int (b.fdiv (Int.gcd a b))] := by
  obtain ⟨e1, e2⟩ := rat_eq (a := a) (b := b) (by omega)
  unfold frD
  rw [e1, e2]
  unfold rn rd
  rw [if_neg (by omega), if_neg (by omega)]
theorem rat_cross {a b : Int} (h : b ≠ 0) : a * ((Rat.divInt a b).den : Int) = (Rat.divInt a b).num * b := by
  obtain ⟨e1, e2⟩ := rat_eq (a := a) h
  rw [e1, e2]
  exact (rat_facts h).2.2.1
theorem isi_f (q : Rat) (cs : List String) : isiD (frD q) cs = .ok (.bl (cs.any (isT "tuple"))) := rfl
theorem frD_neg (q : Rat) : frD (-q) = .tup [.int (-q.num), .int q.den] := by
  unfold frD
  rw [Rat.neg_num, Rat.neg_den]
theorem sz_neg {k : Nat} {q : Rat} (h : Sz k q) : Sz k (-q) := ⟨by rw [Rat.neg_num, Int.natAbs_neg]; exact h.1, by rw [Rat.neg_den]; exact h.2⟩
theorem divOk_1 : divOk 1 = true := by decide
/-- the cells that a law walks: some of the script's first ones, and the count of all -/
theorem cells_for {t : Tg} {b : List St} (m : Int) (I : En → Prop) {ns : List Int} {ρ : En} (st : I ρ)
    (h : ∀ (k : Int) (ρ : En), I ρ → ∃ ρ1 ρ', setT t (.int k) ρ = .ok ρ1 ∧ exs ρ1 b = .nx ρ' ∧ I ρ') : ∃ ρ', foO t b ((cutD ns none (some m)).map D.int ++ [.int ns.length]) ρ = .nx ρ' ∧ I ρ' := by
  have go := fo_inv (t := t) (b := b) (fun r ρ => I ρ ∧ ∀ d ∈ r, ∃ k : Int, d = .int k) (ds := (cutD ns none (some m)).map D.int ++ [.int ns.length]) ⟨st, fun d hd => by
    rcases List.mem_append.mp hd with z | z
    · obtain ⟨k, _, rfl⟩ := List.mem_map.mp z
      exact ⟨k, rfl⟩
    · exact ⟨_, List.mem_singleton.mp z⟩⟩ fun d r ρ ⟨i, hr⟩ => by
      obtain ⟨k, rfl⟩ := hr d List.mem_cons_self
      obtain ⟨ρ1, ρ2, e1, e2, i2⟩ := h k ρ i
      exact ⟨ρ1, ρ2, e1, e2, i2, fun d hd => hr d (List.mem_cons_of_mem _ hd)⟩
  obtain ⟨ρ', e, i, _⟩ := go
  exact ⟨ρ', e, i⟩
theorem cut_len {ns : List Int} (hn : ns.length ≤ 63) (m : Int) : (cutD ns none (some m)).length + 1 ≤ 16777216 := by
  unfold cutD
  rw [List.length_take, List.length_drop]
  omega
@[simp] theorem list_f (q : Rat) : bltD .list [frD q] = .ok (.lst [.int q.num, .int q.den]) := rfl
@[simp] theorem len_f (q : Rat) : bltD .len [frD q] = .ok (.int 2) := rfl
theorem floor_facts {n d : Int} (h : 0 < d) : n.fdiv d * d ≤ n ∧ n < (n.fdiv d + 1) * d ∧ (n.fdiv d).natAbs ≤ n.natAbs := by
  rw [Int.fdiv_eq_ediv_of_nonneg n (by omega)]
  exact ⟨Int.ediv_mul_le n (by omega), Int.lt_ediv_add_one_mul_self n h, Int.natAbs_ediv_le_natAbs n d⟩
def isI : D → Bool
  | .int _ => true
  | _ => false
/-- both whole, the lower one from 1 on, lowest terms -/
def frB : D → D → Bool
  | .int n, .int d => decide (1 ≤ d) && decide (Int.gcd n d = 1)
  | _, _ => false
theorem frB_l {x y : D} (h : isI x = false) : frB x y = false := by cases x <;> first | rfl | cases h
theorem frB_r {x y : D} (h : isI y = false) : frB x y = false := by cases x <;> cases y <;> first | rfl | cases h
/-- a corner -/
def crD (p : Int × Int) : D := .tup [.int p.1, .int p.2]
theorem ix_at {α : Type} {f : α → D} {l : List α} {n : Nat} {x : α} (h : l[n]? = some x) {i : Int} (hi : i = n) : ixD (.lst (l.map f)) (.int i) = .ok (f x) := by
  subst hi
  exact ix_ln (by rw [List.getElem?_map, h]; rfl)
theorem four {v : Int} (h0 : 0 ≤ v) (h1 : v < 4) : v = 0 ∨ v = 1 ∨ v = 2 ∨ v = 3 := by omega
/-- a fraction on a line of so many corners -/
def On (n : Nat) (q : Rat) : Prop := 0 ≤ q.num ∧ q.num ≤ ((n : Int) - 1) * q.den
theorem on_div {n : Nat} {a b : Int} (hb : 0 < b) (h0 : 0 ≤ a) (h1 : a ≤ ((n : Int) - 1) * b) : On n (Rat.divInt a b) := by
  have c := rat_cross (a := a) (b := b) (by omega)
  have d := den_pos (Rat.divInt a b)
  generalize Rat.divInt a b = q at *
  refine ⟨?_, ?_⟩
  · have : 0 ≤ q.num * b := by rw [← c]; exact Int.mul_nonneg h0 (by omega)
    exact Int.le_of_mul_le_mul_right (by rw [Int.zero_mul]; exact this) hb
  · refine Int.le_of_mul_le_mul_right ?_ hb
    rw [← c, Int.mul_assoc, Int.mul_comm (q.den : Int) b, ← Int.mul_assoc]
    exact Int.mul_le_mul_of_nonneg_right h1 (by omega)
theorem frD_int (m : Int) : frD (m : Rat) = .tup [.int m, .int 1] := rfl
theorem sz_int {k : Nat} {m : Int} (h : m.natAbs < 2 ^ k) (hk : 0 < k) : Sz k (m : Rat) := ⟨h, by
  show 1 < 2 ^ k
  exact Nat.one_lt_two_pow (by omega)⟩
theorem on_int {n : Nat} {m : Int} (h0 : 0 ≤ m) (h1 : m ≤ (n : Int) - 1) : On n (m : Rat) := ⟨h0, by show m ≤ ((n : Int) - 1) * ((1 : Nat) : Int); omega⟩
/-- a whole number and a fraction -/
theorem frD_addi (m : Int) (q : Rat) : frD ((m : Rat) + q) = .tup [.int (m * q.den + q.num), .int q.den] := by
  have d := den_pos q
  have e : Rat.divInt (m * q.den + q.num) q.den = (m : Rat) + q := by
    have h := rat_add (m : Rat) q
    rw [← h]
    show Rat.divInt (m * q.den + q.num) q.den = Rat.divInt (m * q.den + q.num * ((1 : Nat) : Int)) (((1 : Nat) : Int) * q.den)
    simp
  have g : Int.gcd (m * q.den + q.num) q.den = 1 := by
    have h : Int.gcd q.num q.den = 1 := q.reduced
    rw [Int.add_comm, Int.gcd_add_mul_right_left]
    exact h
  rw [← e, fr_pos d, g]
  simp
theorem num_addi (m : Int) (q : Rat) : ((m : Rat) + q).num = m * q.den + q.num ∧ ((m : Rat) + q).den = q.den := by
  have h := frD_addi m q
  unfold frD at h
  simp at h
  exact ⟨h.1, by have := h.2; omega⟩
/-- a loop over a count that ends at the first that fits -/
theorem fo_find {t : Tg} {b : List St} {C : Nat → Bool} {r : D} (I : En → Prop) : ∀ (c a : Nat) {ρ : En}, I ρ →
    (∀ k ρ, I ρ → a ≤ k → k < a + c → ∃ ρ1, setT t (.int (k : Int)) ρ = .ok ρ1 ∧ (if C k then exs ρ1 b = .rt r else ∃ ρ', exs ρ1 b = .nx ρ' ∧ I ρ')) →
    (∃ k, a ≤ k ∧ k < a + c ∧ C k = true ∧ foO t b ((List.range' a c).map fun (k : Nat) => D.int k) ρ = .rt r) ∨ ((∀ k, a ≤ k → k < a + c → C k = false) ∧ ∃ ρ', foO t b ((List.range' a c).map fun (k : Nat) => D.int k) ρ = .nx ρ' ∧ I ρ')
  | 0, a, ρ, i, h => .inr ⟨fun k h1 h2 => by omega, ρ, rfl, i⟩
  | c + 1, a, ρ, i, h => by
    obtain ⟨ρ1, e1, e2⟩ := h a ρ i (Nat.le_refl _) (by omega)
    rw [List.range'_succ, List.map_cons]
    cases hc : C a with
    | true =>
      rw [hc, if_pos rfl] at e2
      exact .inl ⟨a, Nat.le_refl _, by omega, hc, fo_rt e1 e2⟩
    | false =>
      rw [hc] at e2
      obtain ⟨ρ2, e3, i2⟩ := e2
      rcases fo_find I c (a + 1) i2 (fun k ρ i h1 h2 => h k ρ i (by omega) (by omega)) with ⟨k, h1, h2, h3, h4⟩ | ⟨h1, ρ3, h2, h3⟩
      · exact .inl ⟨k, by omega, by omega, h3, by rw [fo_nx e1 e3]; exact h4⟩
      · refine .inr ⟨fun k h4 h5 => ?_, ρ3, by rw [fo_nx e1 e3]; exact h2, h3⟩
        by_cases q : k = a
        · rw [q]; exact hc
        · exact h1 k (by omega) (by omega)
/-! ### both in one stretch -/
theorem int_le {k : Int} {p : Rat} : (k : Rat) ≤ p ↔ k * p.den ≤ p.num := by
  rw [Rat.le_iff]
  show k * (p.den : Int) ≤ p.num * ((1 : Nat) : Int) ↔ _
  simp
theorem le_int {k : Int} {p : Rat} : p ≤ (k : Rat) ↔ p.num ≤ k * p.den := by
  rw [Rat.le_iff]
  show p.num * ((1 : Nat) : Int) ≤ k * (p.den : Int) ↔ _
  simp
/-- the k-th stretch has both -/
def inK (p q : Rat) (k : Nat) : Bool := decide ((k : Int) * p.den ≤ p.num) && decide (p.num ≤ ((k : Int) + 1) * p.den) && (decide ((k : Int) * q.den ≤ q.num) && decide (q.num ≤ ((k : Int) + 1) * q.den))
theorem inK_iff {p q : Rat} {k : Nat} : inK p q k = true ↔ (((k : Int) : Rat) ≤ p ∧ p ≤ ((((k : Int) + 1 : Int)) : Rat)) ∧ (((k : Int) : Rat) ≤ q ∧ q ≤ ((((k : Int) + 1 : Int)) : Rat)) := by
  unfold inK
  simp only [Bool.and_eq_true, decide_eq_true_eq]
  rw [int_le, le_int, int_le, le_int]
def strB (p q : Rat) : Bool := if q < p then !decide (((q.floor + 1 : Int) : Rat) < p) else !decide (((p.floor + 1 : Int) : Rat) < q)
theorem str_iff0 {n : Nat} {p q : Rat} (hp : On n p) (h : p ≤ q) (hn : 1 ≤ n) : (∃ k : Nat, k < n ∧ inK p q k = true) ↔ ¬ ((p.floor + 1 : Int) : Rat) < q := by
  have f1 := Rat.floor_le p
  have f2 := Rat.lt_floor_add_one p
  rw [Rat.not_lt]
  constructor
  · rintro ⟨k, hk, e⟩
    obtain ⟨⟨a1, a2⟩, a3, a4⟩ := inK_iff.mp e
    have z := Rat.le_floor_iff.mpr a1
    have z2 : (((k : Int) + 1 : Int) : Rat) ≤ ((p.floor + 1 : Int) : Rat) := Rat.intCast_le_intCast.mpr (by omega)
    exact Rat.le_trans a4 z2
  · intro e
    have z0 : 0 ≤ p.floor := Rat.le_floor_iff.mpr (int_le.mpr (by rw [Int.zero_mul]; exact hp.1))
    have z1 : p ≤ (((n : Int) - 1 : Int) : Rat) := le_int.mpr hp.2
    have z2 : p.floor ≤ (n : Int) - 1 := Rat.intCast_le_intCast.mp (Rat.le_trans f1 z1)
    refine ⟨p.floor.toNat, by omega, inK_iff.mpr ?_⟩
    have c : ((p.floor.toNat : Nat) : Int) = p.floor := by omega
    rw [c]
    exact ⟨⟨f1, Rat.le_of_lt f2⟩, Rat.le_trans f1 h, e⟩
theorem inK_comm (p q : Rat) (k : Nat) : inK p q k = inK q p k := by unfold inK; rw [Bool.and_comm]
theorem str_iff {n : Nat} {p q : Rat} (hp : On n p) (hq : On n q) (hn : 1 ≤ n) : (∃ k : Nat, k < n ∧ inK p q k = true) ↔ strB p q = true := by
  unfold strB
  by_cases h : q < p
  · rw [if_pos h]
    have e := str_iff0 hq (Rat.le_of_lt h) hn
    simp only [inK_comm q p] at e
    rw [e]
    simp
  · rw [if_neg h, str_iff0 hp (Rat.not_lt.mp h) hn]
    simp
theorem str_comm {n : Nat} {p q : Rat} (hp : On n p) (hq : On n q) (hn : 1 ≤ n) : strB p q = strB q p := by
  rw [Bool.eq_iff_iff, ← str_iff hp hq hn, ← str_iff hq hp hn]
  simp only [inK_comm q p]
theorem str_self (p : Rat) : strB p p = true := by
  have f2 := Rat.lt_floor_add_one p
  unfold strB
  rw [if_neg (by grind)]
  simp only [Bool.not_eq_true', decide_eq_false_iff_not]
  grind
end OL
/-! Sizes found by themselves. -/
namespace OL
open PySem PySem.Spec PyProof.Rows L2
/-- a whole number of at most n bits -/
class Bi (i : Int) (n : outParam Nat) : Prop where
  le : i.natAbs < 2 ^ n
/-- a fraction of at most a bits over b bits -/
class Bq (q : Rat) (a b : outParam Nat) : Prop where
  nu : q.num.natAbs < 2 ^ a
  de : q.den ≤ 2 ^ b
theorem lt_up {x a b : Nat} (h : x < 2 ^ a) (hb : a ≤ b) : x < 2 ^ b := Nat.lt_of_lt_of_le h (Nat.pow_le_pow_right (by decide) hb)
theorem Bi.up {i : Int} {m n : Nat} (h : Bi i m) (l : m ≤ n) : Bi i n := ⟨lt_up h.le l⟩
theorem le_up {x a b : Nat} (h : x ≤ 2 ^ a) (hb : a ≤ b) : x ≤ 2 ^ b := Nat.le_trans h (Nat.pow_le_pow_right (by decide) hb)
theorem Bq.up {q : Rat} {a b c d : Nat} (h : Bq q a b) (l : a ≤ c) (l2 : b ≤ d) : Bq q c d := ⟨lt_up h.nu l, le_up h.de l2⟩
theorem Bq.of {q : Rat} {k : Nat} (h : Sz k q) : Bq q k k := ⟨h.1, Nat.le_of_lt h.2⟩
theorem Bq.szz {q : Rat} {a b k : Nat} (h : Bq q a b) (l : a ≤ k) (l2 : b + 1 ≤ k) : Sz k q := ⟨lt_up h.nu l, Nat.lt_of_le_of_lt h.de (Nat.pow_lt_pow_right (by decide) (by omega))⟩
theorem Bq.den1 {q : Rat} {a b : Nat} (h : Bq q a b) : ((q.den : Int)).natAbs < 2 ^ (b + 1) := by rw [Int.natAbs_natCast]; exact Nat.lt_of_le_of_lt h.de (Nat.pow_lt_pow_right (by decide) (by omega))
section
variable {i j : Int} {m n : Nat}
class Tr (b : Bool) : Prop where
  h : b = true
instance : Tr (no_index true) := ⟨rfl⟩
theorem bi_le {k c : Nat} (n : Nat) (t : Tr (Nat.ble k c)) (h : c < 2 ^ n) : (OfNat.ofNat k : Int).natAbs < 2 ^ n := by
  have := Nat.le_of_ble_eq_true t.h
  show k < 2 ^ n
  omega
instance (priority := 500) bi_lit4 (k : Nat) [t : Tr (Nat.ble k 15)] : Bi (no_index (OfNat.ofNat k : Int)) 4 := ⟨bi_le 4 t (by decide)⟩
instance (priority := 400) bi_lit16 (k : Nat) [t : Tr (Nat.ble k 65535)] : Bi (no_index (OfNat.ofNat k : Int)) 16 := ⟨bi_le 16 t (by decide)⟩
instance (priority := 300) bi_lit64 (k : Nat) [t : Tr (Nat.ble k 18446744073709551615)] : Bi (no_index (OfNat.ofNat k : Int)) 64 := ⟨bi_le 64 t (by decide)⟩
instance (priority := 200) bi_lit150 (k : Nat) [t : Tr (Nat.ble k 1427247692705959881058285969449495136382746623)] : Bi (no_index (OfNat.ofNat k : Int)) 150 := ⟨bi_le 150 t (by decide)⟩
instance (priority := 100) bi_lit600 (k : Nat) [t : Tr (Nat.ble k 4149515568880992958512407863691161151012446232242436899995657329690652811412908146399707048947103794288197886611300789182395151075411775307886874834113963687061181803401509523685375)] : Bi (no_index (OfNat.ofNat k : Int)) 600 := ⟨bi_le 600 t (by decide)⟩
instance bi_neg [a : Bi i m] : Bi (-i) m := ⟨by rw [Int.natAbs_neg]; exact a.le⟩
instance bi_add [a : Bi i m] [b : Bi j n] : Bi (i + j) (m + n + 1) := ⟨(add_lt2 (lt_up a.le (Nat.le_add_right _ _)) (lt_up b.le (Nat.le_add_left _ _))).1⟩
instance bi_sub [a : Bi i m] [b : Bi j n] : Bi (i - j) (m + n + 1) := ⟨(add_lt2 (lt_up a.le (Nat.le_add_right _ _)) (lt_up b.le (Nat.le_add_left _ _))).2⟩
instance bi_mul [a : Bi i m] [b : Bi j n] : Bi (i * j) (m + n) := ⟨mul_lt2 a.le b.le⟩
instance bi_abs [a : Bi i m] : Bi (i.natAbs : Int) m := ⟨by rw [Int.natAbs_natCast]; exact a.le⟩
instance bi_min [a : Bi i m] [b : Bi j n] : Bi (min i j) (m + n) := ⟨by
  have h1 := lt_up a.le (Nat.le_add_right m n)
  have h2 := lt_up b.le (Nat.le_add_left n m)
  rw [Int.min_def]; split <;> assumption⟩
instance bi_max [a : Bi i m] [b : Bi j n] : Bi (max i j) (m + n) := ⟨by
  have h1 := lt_up a.le (Nat.le_add_right m n)
  have h2 := lt_up b.le (Nat.le_add_left n m)
  rw [Int.max_def]; split <;> assumption⟩
theorem fdiv_abs (i j : Int) : (i.fdiv j).natAbs ≤ i.natAbs := by
  have h := Int.natAbs_ediv_le_natAbs i j
  rcases Int.lt_trichotomy j 0 with hj | hj | hj
  · by_cases hd : j ∣ i
    · rw [Int.fdiv_eq_ediv_of_dvd hd]; exact h
    · have e := Int.fdiv_eq_ediv (a := i) (b := j)
      rw [if_neg (by intro z; rcases z with z | z; omega; exact hd z)] at e
      have hi : i ≠ 0 := fun z => hd (by rw [z]; exact Int.dvd_zero j)
      by_cases i0 : 0 < i
      · have k1 : i / j ≤ 0 := Int.ediv_nonpos_of_nonneg_of_nonpos (by omega) (by omega)
        have k2 : -(i / j) * (-j) ≤ i := by rw [Int.neg_mul_neg]; exact Int.ediv_mul_le i (by omega)
        have k3 : i / j * j ≠ i := fun z => hd ⟨i / j, by rw [Int.mul_comm]; exact z.symm⟩
        have k4 : -(i / j) * 1 ≤ -(i / j) * (-j) := Int.mul_le_mul_of_nonneg_left (by omega) (by omega)
        rw [Int.neg_mul_neg] at k2 k4
        have k5 : i / j * j < i := by omega
        omega
      · have k1 : 0 ≤ i / j := by
          have := Int.ediv_nonneg_of_nonpos_of_nonpos (a := i) (b := j) (by omega) (by omega)
          exact this
        have k6 : 0 < i / j ∨ i / j = 0 := by omega
        rcases k6 with k6 | k6
        · omega
        · exfalso
          have := Int.emod_add_mul_ediv i j
          rw [k6, Int.mul_zero] at this
          have := Int.emod_nonneg i (show j ≠ 0 by omega)
          omega
  · subst hj; simp
  · rw [Int.fdiv_eq_ediv_of_nonneg i (by omega)]; exact h
instance bi_fdiv [a : Bi i m] : Bi (i.fdiv j) m := ⟨Nat.lt_of_le_of_lt (fdiv_abs i j) a.le⟩
instance bi_fmod [a : Bi i m] [b : Bi j n] : Bi (i.fmod j) (m + n) := ⟨by
  have h1 := lt_up a.le (Nat.le_add_right m n)
  have h2 := lt_up b.le (Nat.le_add_left n m)
  rcases Int.lt_trichotomy j 0 with hj | hj | hj
  · have e := Int.fmod_eq_emod (a := i) (b := j)
    have k1 := Int.emod_nonneg i (show j ≠ 0 by omega)
    have k2 := Int.emod_lt i (show j ≠ 0 by omega)
    by_cases hd : j ∣ i
    · have : i.fmod j = 0 := Int.fmod_eq_zero_of_dvd hd
      rw [this]
      exact Nat.pow_pos (by decide)
    · rw [if_neg (by intro z; rcases z with z | z; omega; exact hd z)] at e
      have : i % j ≠ 0 := fun z => hd (Int.dvd_of_emod_eq_zero z)
      omega
  · subst hj; rw [Int.fmod_zero]; exact h1
  · have k1 := Int.fmod_nonneg_of_pos i hj
    have k2 := Int.fmod_lt_of_pos i hj
    omega⟩
theorem mulOk_b [a : Bi i m] [b : Bi j n] (h : m + n ≤ 900000) : mulOk i j = true :=
  mulOk_of (m + 1) (n + 1) (lt_up a.le (by omega)) (lt_up b.le (by omega)) (by omega) (by omega) (by omega)
theorem divOk_b [a : Bi j n] (h0 : j ≠ 0) (h : n ≤ 9000) : divOk j = true := divOk_of h0 (lt_up a.le h)
end
theorem intBits_le {i : Int} {n : Nat} (h : i.natAbs < 2 ^ n) : Builtin.Int.intBits i ≤ n := by
  unfold Builtin.Int.intBits
  split
  · omega
  · rename_i z
    have z : i.natAbs ≠ 0 := by
      intro w
      apply z
      simp
      omega
    have := (Nat.log2_lt z).mpr h
    omega
theorem pwOk_b {i j : Int} {n : Nat} [a : Bi i n] (h0 : 0 ≤ j) (h : j ≤ 1000000) (h2 : (n : Int) * j ≤ 134217728) : pwOk i j = true := by
  have l := intBits_le a.le
  unfold pwOk
  rw [Bool.and_eq_true]
  refine ⟨decide_eq_true h0, decide_eq_true ?_⟩
  exact Int.le_trans (Int.mul_le_mul_of_nonneg_right (by omega) h0) h2
section
variable {p q : Rat} {a b c d : Nat} {i j : Int}
instance bq_num [x : Bq q a b] : Bi q.num a := ⟨x.nu⟩
instance bq_den [x : Bq q a b] : Bi (q.den : Int) (b + 1) := ⟨x.den1⟩
instance bq_int [x : Bi i a] : Bq (i : Rat) a 0 := ⟨x.le, Nat.le_refl 1⟩
instance bq_lit (k n : Nat) [x : Bi (OfNat.ofNat k : Int) n] : Bq (no_index (OfNat.ofNat k : Rat)) n 0 := (bq_int : Bq (((OfNat.ofNat k : Int)) : Rat) n 0)
theorem bq_of_div {m n : Int} (h : n ≠ 0) (hm : m.natAbs < 2 ^ a) (hn : n.natAbs ≤ 2 ^ b) : Bq (Rat.divInt m n) a b := by
  obtain ⟨f1, f2, f3, f4, f5⟩ := rat_facts (a := m) h
  obtain ⟨e1, e2⟩ := rat_eq (a := m) h
  exact ⟨by rw [e1]; exact Nat.lt_of_le_of_lt f4 hm, Nat.le_trans (by omega) hn⟩
instance bq_div [x : Bi i a] [y : Bi j b] : Bq (Rat.divInt i j) a b := by
  by_cases h : j = 0
  · subst h; rw [Rat.divInt_zero]; exact ⟨Nat.pow_pos (by decide), Nat.pow_pos (by decide)⟩
  · exact bq_of_div h x.le (Nat.le_of_lt y.le)
instance bq_neg [x : Bq q a b] : Bq (-q) a b := ⟨by rw [Rat.neg_num, Int.natAbs_neg]; exact x.nu, by rw [Rat.neg_den]; exact x.de⟩
theorem mul_le2 {x y k l : Nat} (h1 : x ≤ 2 ^ k) (h2 : y ≤ 2 ^ l) : x * y ≤ 2 ^ (k + l) := by rw [Nat.pow_add]; exact Nat.mul_le_mul h1 h2
theorem mul_lt_le {x y : Int} {k l : Nat} (h1 : x.natAbs < 2 ^ k) (h2 : y.natAbs ≤ 2 ^ l) : (x * y).natAbs < 2 ^ (k + l) := by
  rw [Int.natAbs_mul, Nat.pow_add]
  exact Nat.mul_lt_mul_of_lt_of_le h1 h2 (Nat.pow_pos (by decide))
theorem den_abs (q : Rat) [x : Bq q a b] : ((q.den : Int)).natAbs ≤ 2 ^ b := by rw [Int.natAbs_natCast]; exact x.de
theorem dd_le (p q : Rat) [x : Bq p a b] [y : Bq q c d] : ((p.den : Int) * q.den).natAbs ≤ 2 ^ (b + d) := by
  rw [Int.natAbs_mul]; exact mul_le2 (den_abs p) (den_abs q)
instance bq_add [x : Bq p a b] [y : Bq q c d] : Bq (p + q) (a + d + (c + b) + 1) (b + d) := by
  rw [← rat_add]
  exact bq_of_div (dd_ne p q) (add_lt2 (lt_up (mul_lt_le x.nu (den_abs q)) (Nat.le_add_right _ _)) (lt_up (mul_lt_le y.nu (den_abs p)) (Nat.le_add_left _ _))).1 (dd_le p q)
instance bq_sub [x : Bq p a b] [y : Bq q c d] : Bq (p - q) (a + d + (c + b) + 1) (b + d) := by
  rw [← rat_sub]
  exact bq_of_div (dd_ne p q) (add_lt2 (lt_up (mul_lt_le x.nu (den_abs q)) (Nat.le_add_right _ _)) (lt_up (mul_lt_le y.nu (den_abs p)) (Nat.le_add_left _ _))).2 (dd_le p q)
instance bq_mul [x : Bq p a b] [y : Bq q c d] : Bq (p * q) (a + c) (b + d) := by
  rw [← rat_mul]
  exact bq_of_div (dd_ne p q) (mul_lt2 x.nu y.nu) (dd_le p q)
instance bq_over [x : Bq p a b] [y : Bq q c d] : Bq (p / q) (a + d) (b + c) := by
  by_cases h : q = 0
  · subst h
    rw [Rat.div_def, Rat.inv_zero, Rat.mul_zero]
    exact ⟨Nat.pow_pos (by decide), Nat.pow_pos (by decide)⟩
  · rw [← rat_div]
    have hd := den_pos p
    have hn : q.num ≠ 0 := fun z => h (Rat.num_eq_zero.mp z)
    refine bq_of_div (Int.mul_ne_zero (by omega) hn) (mul_lt_le x.nu (den_abs q)) ?_
    rw [Int.natAbs_mul]; exact mul_le2 (den_abs p) (Nat.le_of_lt y.nu)
theorem floor_fdiv (q : Rat) : q.num.fdiv q.den = q.floor := by
  have := den_pos q
  rw [Rat.floor_def, Int.fdiv_eq_ediv_of_nonneg _ (by omega)]
instance bi_floor [x : Bq q a b] : Bi q.floor a := ⟨by rw [← floor_fdiv]; exact Nat.lt_of_le_of_lt (fdiv_abs _ _) x.nu⟩
@[simp] theorem den_nz' (q : Rat) : ¬ q.den = 0 := q.den_nz
@[simp] theorem den_ne (q : Rat) : ¬ (q.den : Int) = 0 := by have := den_pos q; omega
/-- what is over the floor -/
theorem sub_floor (q : Rat) : q - (q.floor : Rat) = Rat.divInt (q.num - q.floor * q.den) q.den := by
  rw [← rat_sub]
  show Rat.divInt (q.num * ((1 : Nat) : Int) - q.floor * q.den) (q.den * ((1 : Nat) : Int)) = _
  simp
instance (priority := 2000) bq_frac [x : Bq q a b] : Bq (q - (q.floor : Rat)) (b + 1) b := by
  rw [sub_floor]
  have d := den_pos q
  obtain ⟨f1, f2, _⟩ := floor_facts (n := q.num) d
  rw [floor_fdiv] at f1 f2
  rw [Int.add_mul, Int.one_mul] at f2
  have h := x.de
  exact bq_of_div (by omega) (Nat.lt_of_le_of_lt (m := q.den) (by omega) (Nat.lt_of_le_of_lt h (Nat.pow_lt_pow_right (by decide) (by omega)))) (by omega)
end
/-- a law's cells: some of the script's first ones, and the count of all -/
theorem cells_sq {t : Tg} {b : List St} {p : PC} {k : En → O} {m : Int} {ns : List Int} {ρ : En} (I : En → Prop) (st : I ρ)
    (h : ∀ (c : Int) (ρ : En), I ρ → Pr ((oo ρ (setT t (.int c) ρ) fun ρ' => exs ρ' b).is { N := I, C := I, B := fun ρ => Pr ((k ρ).is p), R := p.R, X := p.X }))
    (hk : ∀ ρ, I ρ → Pr ((k ρ).is p)) : Pr ((sq (foO t b ((cutD ns none (some m)).map D.int ++ [.int ns.length]) ρ) k).is p) := by
  refine fo_sq (fun r ρ => I ρ ∧ ∀ d ∈ r, ∃ k : Int, d = .int k) ⟨st, fun d hd => ?_⟩ (fun d r ρ ⟨i, hr⟩ => ?_) (fun ρ ⟨i, _⟩ => hk ρ i)
  · rcases List.mem_append.mp hd with z | z
    · obtain ⟨k, _, rfl⟩ := List.mem_map.mp z
      exact ⟨k, rfl⟩
    · exact ⟨_, List.mem_singleton.mp z⟩
  · obtain ⟨k, rfl⟩ := hr d List.mem_cons_self
    have st : ∀ ρ, I ρ → I ρ ∧ ∀ d ∈ r, ∃ k : Int, d = .int k := fun ρ i => ⟨i, fun d hd => hr d (List.mem_cons_of_mem _ hd)⟩
    exact is_mono (h k ρ i) st (fun _ z => z) (fun _ z => z) st (fun _ _ z => z)
theorem cut_le {α : Type} (xs : List α) (lo hi : Option Int) : (cutD xs lo hi).length ≤ xs.length := by
  unfold cutD
  rw [List.length_take, List.length_drop]
  omega
theorem rng_n {n : Nat} (h : n ≤ 1000000) : rngD [.int (n : Int)] = .ok (.lst ((List.range n).map fun (k : Nat) => D.int k)) := by
  rw [rng_1 (by omega) (by omega), Int.toNat_natCast]
/-! ### data that may be held against itself -/
class Pl (d : D) (n : outParam Nat) : Prop where
  lay : PyData.canLay0 (toP d) = true
  dep : PyData.depth (toP d) ≤ n
class PlL (ds : List D) (n : outParam Nat) : Prop where
  lay : PyData.canLayAll0 (toPL ds) = true
  dep : PyData.depthAll (toPL ds) ≤ n
instance pl_non : Pl .non 0 := ⟨rfl, Nat.le_refl _⟩
instance pl_bl (b : Bool) : Pl (.bl b) 0 := ⟨rfl, Nat.le_refl _⟩
instance pl_int (i : Int) : Pl (.int i) 0 := ⟨rfl, Nat.le_refl _⟩
instance pll_nil : PlL [] 0 := ⟨rfl, Nat.le_refl _⟩
instance pll_cons {d : D} {ds : List D} {m n : Nat} [a : Pl d m] [b : PlL ds n] : PlL (d :: ds) (m + n) := ⟨by
  unfold toPL PyData.canLayAll0
  rw [a.lay, b.lay]; rfl, by
  unfold toPL PyData.depthAll
  have := a.dep
  have := b.dep
  omega⟩
instance pl_tup {ds : List D} {n : Nat} [a : PlL ds n] : Pl (.tup ds) (n + 1) := ⟨by
  unfold toP PyData.canLay0; exact a.lay, by
  unfold toP PyData.depth; exact Nat.succ_le_succ a.dep⟩
instance pl_lst {ds : List D} {n : Nat} [a : PlL ds n] : Pl (.lst ds) (n + 1) := ⟨by
  unfold toP PyData.canLay0; exact a.lay, by
  unfold toP PyData.depth; exact Nat.succ_le_succ a.dep⟩
theorem pll_of {ds : List D} {n : Nat} (h : ∀ d ∈ ds, Pl d n) : PlL ds n := by
  induction ds with
  | nil => exact ⟨rfl, Nat.zero_le _⟩
  | cons d ds ih =>
    have a := h d List.mem_cons_self
    have b := ih fun x hx => h x (List.mem_cons_of_mem _ hx)
    refine ⟨?_, ?_⟩
    · unfold toPL PyData.canLayAll0
      rw [a.lay, b.lay]; rfl
    · unfold toPL PyData.depthAll
      have := a.dep
      have := b.dep
      omega
instance pll_map {α : Type} {f : α → D} {l : List α} {n : Nat} [h : ∀ a, Pl (f a) n] : PlL (l.map f) n := pll_of fun d hd => by
  obtain ⟨a, _, rfl⟩ := List.mem_map.mp hd
  exact h a
theorem shp_of {d : D} {n : Nat} [a : Pl d n] (h : n ≤ 64) : shp d = true := by
  unfold shp SeqAt.shaped
  rw [a.lay, Bool.true_and]
  exact decide_eq_true (Nat.le_trans a.dep h)
theorem eqd_self {d : D} {n : Nat} [a : Pl d n] : eqd d d = true := SeqAt.eqv_refl _ a.lay
@[simp] theorem eq_self {d : D} {n : Nat} [a : Pl d n] (h : n ≤ 64) : cpD .eq d d = .ok (.bl true) := by
  show (if shp d && shp d then (R.ok (D.bl (eqd d d)) : R D) else .bad) = _
  rw [shp_of h, eqd_self (d := d)]; rfl
@[simp] theorem ne_self {d : D} {n : Nat} [a : Pl d n] (h : n ≤ 64) : cpD .ne d d = .ok (.bl false) := by
  show (if shp d && shp d then (R.ok (D.bl (!eqd d d)) : R D) else .bad) = _
  rw [shp_of h, eqd_self (d := d)]; rfl
instance pl_fr (q : Rat) : Pl (frD q) 1 := (inferInstance : Pl (.tup [.int q.num, .int q.den]) 1)
instance pl_cr (p : Int × Int) : Pl (crD p) 1 := (inferInstance : Pl (.tup [.int p.1, .int p.2]) 1)
/-- held against nought -/
theorem same_iff {q : Rat} {a b : Int} (h : b ≠ 0) : (q.num * b = a * q.den) ↔ q = Rat.divInt a b := by
  have c := rat_cross (a := a) h
  constructor
  · intro e
    rw [← Rat.num_divInt_den q]
    exact (Rat.divInt_eq_divInt_iff (by have := den_pos q; omega) h).mpr e
  · intro e
    rw [e]
    exact c.symm
theorem eq_div_of {a b c : Rat} (h : c ≠ 0) (e : a * c = b) : a = b / c := by rw [Rat.div_def, ← e, Rat.mul_assoc, Rat.mul_inv_cancel c h, Rat.mul_one]
theorem rat_sq (r : Rat) : 0 ≤ r * r := by
  rcases Rat.le_total (a := 0) (b := r) with h | h
  · exact Rat.mul_nonneg h h
  · have := Rat.mul_nonneg (a := -r) (b := -r) (by grind) (by grind)
    grind
def boD : D → Option Bool
  | .bl b => some b
  | _ => none
theorem mapM_bl {α : Type} (g : α → Bool) : ∀ l : List α, (l.map fun a => D.bl (g a)).mapM boD = some (l.map g)
  | [] => rfl
  | a :: l => by
    rw [List.map_cons, List.mapM_cons, mapM_bl g l]
    rfl
theorem all_bl {α : Type} (g : α → Bool) (l : List α) : bltD .all [.lst (l.map fun a => .bl (g a))] = .ok (.bl (l.all g)) := by
  have e : bltD .all [.lst (l.map fun a => D.bl (g a))] = (match (l.map fun a => D.bl (g a)).mapM boD with | some bs => R.ok (D.bl (bs.all id)) | none => .bad) := rfl
  rw [e, mapM_bl]
  show R.ok (D.bl ((l.map g).all id)) = _
  rw [List.all_map]
  rfl
theorem any_bl {α : Type} (g : α → Bool) (l : List α) : bltD .any [.lst (l.map fun a => .bl (g a))] = .ok (.bl (l.any g)) := by
  have e : bltD .any [.lst (l.map fun a => D.bl (g a))] = (match (l.map fun a => D.bl (g a)).mapM boD with | some bs => R.ok (D.bl (bs.any id)) | none => .bad) := rfl
  rw [e, mapM_bl]
  show R.ok (D.bl ((l.map g).any id)) = _
  rw [List.any_map]
  rfl
def nth (l : List Int) (i : Nat) : Int := l.getD i 0
theorem nth_at {l : List Int} {i : Nat} (h : i < l.length) : l[i]? = some (nth l i) := by
  unfold nth
  rw [List.getD_eq_getElem?_getD, List.getElem?_eq_getElem h]
  rfl
theorem ix_nth {l : List Int} (i : Nat) (h : i < l.length) : ixD (.lst (l.map D.int)) (.int (no_index (OfNat.ofNat i))) = .ok (.int (nth l i)) := by
  rw [ix_lN, List.getElem?_map, nth_at h]
  rfl
theorem nth_b {l : List Int} {b : Int} (hb : ∀ x ∈ l, 0 ≤ x ∧ x < b) (h0 : 0 < b) (i : Nat) : 0 ≤ nth l i ∧ nth l i < b := by
  unfold nth
  by_cases h : i < l.length
  · rw [List.getD_eq_getElem?_getD, List.getElem?_eq_getElem h]
    exact hb _ (List.getElem_mem h)
  · rw [List.getD_eq_getElem?_getD, List.getElem?_eq_none (by omega)]
    exact ⟨Int.le_refl _, h0⟩
theorem cut_seg {α : Type} {l : List α} {a b : Nat} (h : a ≤ b) (hb : b ≤ l.length) : cutD l (some (a : Int)) (some (b : Int)) = (l.drop a).take (b - a) := by
  unfold cutD
  rw [HT.sIx_nat, HT.sIx_nat, Nat.min_eq_left hb, Nat.min_eq_left (by omega)]
theorem cut_seg_len {α : Type} {l : List α} {a b : Nat} (h : a ≤ b) (hb : b ≤ l.length) : (cutD l (some (a : Int)) (some (b : Int))).length = b - a := by
  rw [cut_seg h hb, List.length_take, List.length_drop]
  omega
theorem cut_mem {α : Type} {l : List α} {lo hi : Option Int} {x : α} (h : x ∈ cutD l lo hi) : x ∈ l := by
  unfold cutD at h
  exact List.mem_of_mem_drop (List.mem_of_mem_take h)
theorem cut_tail_len {α : Type} {l : List α} {a : Nat} (h : a ≤ l.length) : (cutD l (some (a : Int)) none).length = l.length - a := by
  rw [cut_from h, List.length_drop]
@[simp ↓] theorem setT_fr {ρ : En} (ts : List Tg) (q : Rat) : setT (.tp ts) (frD q) ρ = setTs ts [.int q.num, .int q.den] ρ := setT_tp ts _
@[simp ↓] theorem setT_cr {ρ : En} (ts : List Tg) (p : Int × Int) : setT (.tp ts) (crD p) ρ = setTs ts [.int p.1, .int p.2] ρ := setT_tp ts _
@[simp] theorem ix_cr0 (p : Int × Int) : ixD (crD p) (.int 0) = .ok (.int p.1) := rfl
@[simp] theorem ix_cr1 (p : Int × Int) : ixD (crD p) (.int 1) = .ok (.int p.2) := rfl
end OL
namespace OL.LW
open PySem PySem.Spec PyProof.Rows L2
noncomputable def B_is_whole : List St :=
  [.ret (.and [(.isi (.var 0) ["int"]), (.not (.isi (.var 0) ["bool"]))])]
noncomputable def F_is_whole : List D → R D := defR 1 1 B_is_whole
theorem D_is_whole (a0 : D) : F_is_whole [a0] = (exs [.v a0] B_is_whole).end := rfl
noncomputable def N_is_whole : Fn := ⟨"is_whole", F_is_whole, false, [], false⟩
@[simp] theorem run_N_is_whole : N_is_whole.run = F_is_whole := rfl
@[simp] theorem dfl_N_is_whole : N_is_whole.dfl = [] := rfl
noncomputable def B_divisor : List St :=
  [.asg 0 false (.blt .abs [(.var 0)]), .whl (.cmp .gt (.var 0) (.lit (.int 0))) [.par 0 1 (.bin .mod (.var 1) (.var 0)) (.var 0)], .ret (.var 1)]
noncomputable def F_divisor : List D → R D := defR 2 2 B_divisor
theorem D_divisor (a0 a1 : D) : F_divisor [a0, a1] = (exs [.v a0, .v a1] B_divisor).end := rfl
noncomputable def N_divisor : Fn := ⟨"divisor", F_divisor, false, [], false⟩
@[simp] theorem run_N_divisor : N_divisor.run = F_divisor := rfl
@[simp] theorem dfl_N_divisor : N_divisor.dfl = [] := rfl
noncomputable def B_ratio : List St :=
  [.ife (.or [(.not (.call N_is_whole false [(.var 0)])), (.not (.call N_is_whole false [(.var 1)])), (.cmp .eq (.var 1) (.lit (.int 0)))]) [.rai "NoRatio"] [],
   .asg 2 false (.call N_divisor false [(.var 0), (.blt .abs [(.var 1)])]), .ife (.cmp .lt (.var 1) (.lit (.int 0))) [.asg 2 false (.bin .sub (.lit (.int 0)) (.var 2))] [],
   .ret (.tup [(.bin .div (.var 0) (.var 2)), (.bin .div (.var 1) (.var 2))])]
noncomputable def F_ratio : List D → R D := defR 3 2 B_ratio
theorem D_ratio (a0 a1 : D) : F_ratio [a0, a1] = (exs [.v a0, .v a1, .n] B_ratio).end := rfl
noncomputable def N_ratio : Fn := ⟨"ratio", F_ratio, false, [], false⟩
@[simp] theorem run_N_ratio : N_ratio.run = F_ratio := rfl
@[simp] theorem dfl_N_ratio : N_ratio.dfl = [] := rfl
noncomputable def N_ratio_1 : Fn := ⟨"ratio", F_ratio, false, [(.int 1)], false⟩
@[simp] theorem run_N_ratio_1 : N_ratio_1.run = F_ratio := rfl
@[simp] theorem dfl_N_ratio_1 : N_ratio_1.dfl = [(.int 1)] := rfl
noncomputable def B_is_ratio : List St :=
  [.ife (.or [(.not (.isi (.var 0) ["tuple"])), (.cmp .ne (.blt .len [(.var 0)]) (.lit (.int 2)))]) [.ret (.lit (.bl false))] [],
   .ife (.or [(.not (.call N_is_whole false [(.ix (.var 0) (.lit (.int 0)))])), (.not (.call N_is_whole false [(.ix (.var 0) (.lit (.int 1)))])), (.cmp .lt (.ix (.var 0) (.lit (.int 1))) (.lit (.int 1)))]) [.ret (.lit (.bl false))] [],
   .ret (.cmp .eq (.call N_divisor false [(.ix (.var 0) (.lit (.int 0))), (.ix (.var 0) (.lit (.int 1)))]) (.lit (.int 1)))]
noncomputable def F_is_ratio : List D → R D := defR 1 1 B_is_ratio
theorem D_is_ratio (a0 : D) : F_is_ratio [a0] = (exs [.v a0] B_is_ratio).end := rfl
noncomputable def N_is_ratio : Fn := ⟨"is_ratio", F_is_ratio, false, [], false⟩
@[simp] theorem run_N_is_ratio : N_is_ratio.run = F_is_ratio := rfl
@[simp] theorem dfl_N_is_ratio : N_is_ratio.dfl = [] := rfl
noncomputable def B_plus : List St :=
  [.ret (.call N_ratio false [(.bin .add (.bin .mul (.ix (.var 0) (.lit (.int 0))) (.ix (.var 1) (.lit (.int 1)))) (.bin .mul (.ix (.var 1) (.lit (.int 0))) (.ix (.var 0) (.lit (.int 1))))), (.bin .mul (.ix (.var 0) (.lit (.int 1))) (.ix (.var 1) (.lit (.int 1))))])]
noncomputable def F_plus : List D → R D := defR 2 2 B_plus
theorem D_plus (a0 a1 : D) : F_plus [a0, a1] = (exs [.v a0, .v a1] B_plus).end := rfl
noncomputable def N_plus : Fn := ⟨"plus", F_plus, false, [], false⟩
@[simp] theorem run_N_plus : N_plus.run = F_plus := rfl
@[simp] theorem dfl_N_plus : N_plus.dfl = [] := rfl
noncomputable def B_minus : List St :=
  [.ret (.call N_ratio false [(.bin .sub (.bin .mul (.ix (.var 0) (.lit (.int 0))) (.ix (.var 1) (.lit (.int 1)))) (.bin .mul (.ix (.var 1) (.lit (.int 0))) (.ix (.var 0) (.lit (.int 1))))), (.bin .mul (.ix (.var 0) (.lit (.int 1))) (.ix (.var 1) (.lit (.int 1))))])]
noncomputable def F_minus : List D → R D := defR 2 2 B_minus
theorem D_minus (a0 a1 : D) : F_minus [a0, a1] = (exs [.v a0, .v a1] B_minus).end := rfl
noncomputable def N_minus : Fn := ⟨"minus", F_minus, false, [], false⟩
@[simp] theorem run_N_minus : N_minus.run = F_minus := rfl
@[simp] theorem dfl_N_minus : N_minus.dfl = [] := rfl
noncomputable def B_times : List St :=
  [.ret (.call N_ratio false [(.bin .mul (.ix (.var 0) (.lit (.int 0))) (.ix (.var 1) (.lit (.int 0)))), (.bin .mul (.ix (.var 0) (.lit (.int 1))) (.ix (.var 1) (.lit (.int 1))))])]
noncomputable def F_times : List D → R D := defR 2 2 B_times
theorem D_times (a0 a1 : D) : F_times [a0, a1] = (exs [.v a0, .v a1] B_times).end := rfl
noncomputable def N_times : Fn := ⟨"times", F_times, false, [], false⟩
@[simp] theorem run_N_times : N_times.run = F_times := rfl
@[simp] theorem dfl_N_times : N_times.dfl = [] := rfl
noncomputable def B_over : List St :=
  [.ret (.call N_ratio false [(.bin .mul (.ix (.var 0) (.lit (.int 0))) (.ix (.var 1) (.lit (.int 1)))), (.bin .mul (.ix (.var 0) (.lit (.int 1))) (.ix (.var 1) (.lit (.int 0))))])]
noncomputable def F_over : List D → R D := defR 2 2 B_over
theorem D_over (a0 a1 : D) : F_over [a0, a1] = (exs [.v a0, .v a1] B_over).end := rfl
noncomputable def N_over : Fn := ⟨"over", F_over, false, [], false⟩
@[simp] theorem run_N_over : N_over.run = F_over := rfl
@[simp] theorem dfl_N_over : N_over.dfl = [] := rfl
noncomputable def B_less : List St :=
  [.ret (.cmp .lt (.bin .mul (.ix (.var 0) (.lit (.int 0))) (.ix (.var 1) (.lit (.int 1)))) (.bin .mul (.ix (.var 1) (.lit (.int 0))) (.ix (.var 0) (.lit (.int 1)))))]
noncomputable def F_less : List D → R D := defR 2 2 B_less
theorem D_less (a0 a1 : D) : F_less [a0, a1] = (exs [.v a0, .v a1] B_less).end := rfl
noncomputable def N_less : Fn := ⟨"less", F_less, false, [], false⟩
@[simp] theorem run_N_less : N_less.run = F_less := rfl
@[simp] theorem dfl_N_less : N_less.dfl = [] := rfl
noncomputable def B_floor_of : List St :=
  [.ret (.bin .div (.ix (.var 0) (.lit (.int 0))) (.ix (.var 0) (.lit (.int 1))))]
noncomputable def F_floor_of : List D → R D := defR 1 1 B_floor_of
theorem D_floor_of (a0 : D) : F_floor_of [a0] = (exs [.v a0] B_floor_of).end := rfl
noncomputable def N_floor_of : Fn := ⟨"floor_of", F_floor_of, true, [], false⟩
@[simp] theorem run_N_floor_of : N_floor_of.run = F_floor_of := rfl
@[simp] theorem dfl_N_floor_of : N_floor_of.dfl = [] := rfl
noncomputable def B_is_corner : List St :=
  [.ife (.or [(.not (.isi (.var 0) ["tuple"])), (.cmp .ne (.blt .len [(.var 0)]) (.lit (.int 2)))]) [.ret (.lit (.bl false))] [],
   .for (.nm 1) (.var 0) [.ife (.or [(.not (.call N_is_whole false [(.var 1)])), (.cmp .ge (.blt .abs [(.var 1)]) (.glob "BEYOND" (.int 1000000000000)))]) [.ret (.lit (.bl false))] []],
   .ret (.lit (.bl true))]
noncomputable def F_is_corner : List D → R D := defR 2 1 B_is_corner
theorem D_is_corner (a0 : D) : F_is_corner [a0] = (exs [.v a0, .n] B_is_corner).end := rfl
noncomputable def N_is_corner : Fn := ⟨"is_corner", F_is_corner, false, [], false⟩
@[simp] theorem run_N_is_corner : N_is_corner.run = F_is_corner := rfl
@[simp] theorem dfl_N_is_corner : N_is_corner.dfl = [] := rfl
noncomputable def B_is_line : List St :=
  [.ife (.or [(.not (.isi (.var 0) ["list"])), (.not (.chain .le .le (.lit (.int 1)) (.blt .len [(.var 0)]) (.glob "MOST_CORNERS" (.int 10))))]) [.ret (.lit (.bl false))] [],
   .ret (.blt .all [(.lc (.call N_is_corner false [(.var 1)]) (.nm 1) (.var 0) .nop)])]
noncomputable def F_is_line : List D → R D := defR 2 1 B_is_line
theorem D_is_line (a0 : D) : F_is_line [a0] = (exs [.v a0, .n] B_is_line).end := rfl
noncomputable def N_is_line : Fn := ⟨"is_line", F_is_line, false, [], false⟩
@[simp] theorem run_N_is_line : N_is_line.run = F_is_line := rfl
@[simp] theorem dfl_N_is_line : N_is_line.dfl = [] := rfl
noncomputable def B_line_of : List St :=
  [.ife (.not (.call N_is_line false [(.var 0)])) [.rai "NoLine"] [], .ret (.blt .list [(.var 0)])]
noncomputable def F_line_of : List D → R D := defR 1 1 B_line_of
theorem D_line_of (a0 : D) : F_line_of [a0] = (exs [.v a0] B_line_of).end := rfl
noncomputable def N_line_of : Fn := ⟨"line_of", F_line_of, true, [], false⟩
@[simp] theorem run_N_line_of : N_line_of.run = F_line_of := rfl
@[simp] theorem dfl_N_line_of : N_line_of.dfl = [] := rfl
noncomputable def B_last_of : List St :=
  [.ret (.bin .sub (.blt .len [(.var 0)]) (.lit (.int 1)))]
noncomputable def F_last_of : List D → R D := defR 1 1 B_last_of
theorem D_last_of (a0 : D) : F_last_of [a0] = (exs [.v a0] B_last_of).end := rfl
noncomputable def N_last_of : Fn := ⟨"last_of", F_last_of, true, [], false⟩
@[simp] theorem run_N_last_of : N_last_of.run = F_last_of := rfl
@[simp] theorem dfl_N_last_of : N_last_of.dfl = [] := rfl
noncomputable def B_is_place : List St :=
  [.ret (.and [(.call N_is_ratio false [(.var 1)]), (.chain .le .le (.lit (.int 0)) (.ix (.var 1) (.lit (.int 0))) (.bin .mul (.call N_last_of false [(.var 0)]) (.ix (.var 1) (.lit (.int 1)))))])]
noncomputable def F_is_place : List D → R D := defR 2 2 B_is_place
theorem D_is_place (a0 a1 : D) : F_is_place [a0, a1] = (exs [.v a0, .v a1] B_is_place).end := rfl
noncomputable def N_is_place : Fn := ⟨"is_place", F_is_place, false, [], false⟩
@[simp] theorem run_N_is_place : N_is_place.run = F_is_place := rfl
@[simp] theorem dfl_N_is_place : N_is_place.dfl = [] := rfl
noncomputable def B_look_at_place : List St :=
  [.ife (.not (.call N_is_place false [(.var 0), (.var 1)])) [.rai "NoPlace"] []]
noncomputable def F_look_at_place : List D → R D := defR 2 2 B_look_at_place
theorem D_look_at_place (a0 a1 : D) : F_look_at_place [a0, a1] = (exs [.v a0, .v a1] B_look_at_place).end := rfl
noncomputable def N_look_at_place : Fn := ⟨"look_at_place", F_look_at_place, false, [], false⟩
@[simp] theorem run_N_look_at_place : N_look_at_place.run = F_look_at_place := rfl
@[simp] theorem dfl_N_look_at_place : N_look_at_place.dfl = [] := rfl
noncomputable def B_ends_of : List St :=
  [.ret (.tup [(.ix (.var 0) (.var 1)), (.ix (.var 0) (.blt .min [(.bin .add (.var 1) (.lit (.int 1))), (.call N_last_of false [(.var 0)])]))])]
noncomputable def F_ends_of : List D → R D := defR 2 2 B_ends_of
theorem D_ends_of (a0 a1 : D) : F_ends_of [a0, a1] = (exs [.v a0, .v a1] B_ends_of).end := rfl
noncomputable def N_ends_of : Fn := ⟨"ends_of", F_ends_of, false, [], false⟩
@[simp] theorem run_N_ends_of : N_ends_of.run = F_ends_of := rfl
@[simp] theorem dfl_N_ends_of : N_ends_of.dfl = [] := rfl
noncomputable def B_point_at : List St :=
  [.exp (.call N_look_at_place false [(.var 0), (.var 1)]), .asg 2 false (.call N_floor_of false [(.var 1)]), .unp [(.nm 5), (.nm 6)] (.call N_ends_of false [(.var 0), (.var 2)]),
   .asg 3 false (.call N_minus false [(.var 1), (.tup [(.var 2), (.lit (.int 1))])]),
   .asg 4 false (.call N_plus false [(.tup [(.ix (.var 5) (.lit (.int 0))), (.lit (.int 1))]), (.call N_times false [(.var 3), (.tup [(.bin .sub (.ix (.var 6) (.lit (.int 0))) (.ix (.var 5) (.lit (.int 0)))), (.lit (.int 1))])])]),
   .ret (.tup [(.var 4), (.call N_plus false [(.tup [(.ix (.var 5) (.lit (.int 1))), (.lit (.int 1))]), (.call N_times false [(.var 3), (.tup [(.bin .sub (.ix (.var 6) (.lit (.int 1))) (.ix (.var 5) (.lit (.int 1)))), (.lit (.int 1))])])])])]
noncomputable def F_point_at : List D → R D := defR 7 2 B_point_at
theorem D_point_at (a0 a1 : D) : F_point_at [a0, a1] = (exs [.v a0, .v a1, .n, .n, .n, .n, .n] B_point_at).end := rfl
noncomputable def N_point_at : Fn := ⟨"point_at", F_point_at, false, [], false⟩
@[simp] theorem run_N_point_at : N_point_at.run = F_point_at := rfl
@[simp] theorem dfl_N_point_at : N_point_at.dfl = [] := rfl
noncomputable def B_in_one_stretch : List St :=
  [.exp (.call N_look_at_place false [(.var 0), (.var 1)]), .exp (.call N_look_at_place false [(.var 0), (.var 2)]), .ife (.call N_less false [(.var 2), (.var 1)]) [.par 1 2 (.var 2) (.var 1)] [],
   .ret (.not (.call N_less false [(.tup [(.bin .add (.call N_floor_of false [(.var 1)]) (.lit (.int 1))), (.lit (.int 1))]), (.var 2)]))]
noncomputable def F_in_one_stretch : List D → R D := defR 3 3 B_in_one_stretch
theorem D_in_one_stretch (a0 a1 a2 : D) : F_in_one_stretch [a0, a1, a2] = (exs [.v a0, .v a1, .v a2] B_in_one_stretch).end := rfl
noncomputable def N_in_one_stretch : Fn := ⟨"in_one_stretch", F_in_one_stretch, false, [], false⟩
@[simp] theorem run_N_in_one_stretch : N_in_one_stretch.run = F_in_one_stretch := rfl
@[simp] theorem dfl_N_in_one_stretch : N_in_one_stretch.dfl = [] := rfl
noncomputable def B_square_between : List St :=
  [.asg 2 false (.call N_minus false [(.ix (.var 0) (.lit (.int 0))), (.ix (.var 1) (.lit (.int 0)))]),
   .asg 3 false (.call N_minus false [(.ix (.var 0) (.lit (.int 1))), (.ix (.var 1) (.lit (.int 1)))]),
   .ret (.call N_plus false [(.call N_times false [(.var 2), (.var 2)]), (.call N_times false [(.var 3), (.var 3)])])]
noncomputable def F_square_between : List D → R D := defR 4 2 B_square_between
theorem D_square_between (a0 a1 : D) : F_square_between [a0, a1] = (exs [.v a0, .v a1, .n, .n] B_square_between).end := rfl
noncomputable def N_square_between : Fn := ⟨"square_between", F_square_between, false, [], false⟩
@[simp] theorem run_N_square_between : N_square_between.run = F_square_between := rfl
@[simp] theorem dfl_N_square_between : N_square_between.dfl = [] := rfl
noncomputable def B_square_of : List St :=
  [.ret (.call N_square_between false [(.call N_point_at false [(.var 0), (.var 1)]), (.call N_point_at false [(.var 2), (.var 3)])])]
noncomputable def F_square_of : List D → R D := defR 4 4 B_square_of
theorem D_square_of (a0 a1 a2 a3 : D) : F_square_of [a0, a1, a2, a3] = (exs [.v a0, .v a1, .v a2, .v a3] B_square_of).end := rfl
noncomputable def N_square_of : Fn := ⟨"square_of", F_square_of, false, [], false⟩
@[simp] theorem run_N_square_of : N_square_of.run = F_square_of := rfl
@[simp] theorem dfl_N_square_of : N_square_of.dfl = [] := rfl
noncomputable def B_foot_on : List St :=
  [.asg 3 false (.bin .sub (.ix (.var 2) (.lit (.int 0))) (.ix (.var 1) (.lit (.int 0)))), .asg 4 false (.bin .sub (.ix (.var 2) (.lit (.int 1))) (.ix (.var 1) (.lit (.int 1)))),
   .asg 5 false (.call N_times false [(.call N_minus false [(.ix (.var 0) (.lit (.int 0))), (.tup [(.ix (.var 1) (.lit (.int 0))), (.lit (.int 1))])]), (.tup [(.var 3), (.lit (.int 1))])]),
   .asg 5 false (.call N_plus false [(.var 5), (.call N_times false [(.call N_minus false [(.ix (.var 0) (.lit (.int 1))), (.tup [(.ix (.var 1) (.lit (.int 1))), (.lit (.int 1))])]), (.tup [(.var 4), (.lit (.int 1))])])]),
   .ret (.call N_over false [(.var 5), (.tup [(.bin .add (.bin .mul (.var 3) (.var 3)) (.bin .mul (.var 4) (.var 4))), (.lit (.int 1))])])]
noncomputable def F_foot_on : List D → R D := defR 6 3 B_foot_on
theorem D_foot_on (a0 a1 a2 : D) : F_foot_on [a0, a1, a2] = (exs [.v a0, .v a1, .v a2, .n, .n, .n] B_foot_on).end := rfl
noncomputable def N_foot_on : Fn := ⟨"foot_on", F_foot_on, false, [], false⟩
@[simp] theorem run_N_foot_on : N_foot_on.run = F_foot_on := rfl
@[simp] theorem dfl_N_foot_on : N_foot_on.dfl = [] := rfl
noncomputable def B_least_along : List St :=
  [.asg 5 false (.call N_point_at false [(.var 0), (.var 1)]), .exp (.call N_look_at_place false [(.var 2), (.var 3)]), .exp (.call N_look_at_place false [(.var 2), (.var 4)]),
   .asg 6 false (.call N_floor_of false [(.var 3)]), .unp [(.nm 8), (.nm 9)] (.call N_ends_of false [(.var 2), (.var 6)]), .asg 7 false (.var 3),
   .ife (.cmp .ne (.var 8) (.var 9)) [.asg 7 false (.call N_plus false [(.tup [(.var 6), (.lit (.int 1))]), (.call N_foot_on false [(.var 5), (.var 8), (.var 9)])])] [],
   .ife (.call N_less false [(.var 4), (.var 7)]) [.asg 7 false (.var 4)] [], .ife (.call N_less false [(.var 7), (.var 3)]) [.asg 7 false (.var 3)] [],
   .ret (.tup [(.call N_square_between false [(.var 5), (.call N_point_at false [(.var 2), (.var 7)])]), (.var 7)])]
noncomputable def F_least_along : List D → R D := defR 10 5 B_least_along
theorem D_least_along (a0 a1 a2 a3 a4 : D) : F_least_along [a0, a1, a2, a3, a4] = (exs [.v a0, .v a1, .v a2, .v a3, .v a4, .n, .n, .n, .n, .n] B_least_along).end := rfl
noncomputable def N_least_along : Fn := ⟨"least_along", F_least_along, false, [], false⟩
@[simp] theorem run_N_least_along : N_least_along.run = F_least_along := rfl
@[simp] theorem dfl_N_least_along : N_least_along.dfl = [] := rfl
noncomputable def B_is_way : List St :=
  [.ret (.and [(.isi (.var 0) ["str"]), (.cmp .inn (.var 0) (.tup [(.lit (.str "on")), (.lit (.str "part")), (.lit (.str "free")), (.lit (.str "hops"))]))])]
noncomputable def F_is_way : List D → R D := defR 1 1 B_is_way
theorem D_is_way (a0 : D) : F_is_way [a0] = (exs [.v a0] B_is_way).end := rfl
noncomputable def N_is_way : Fn := ⟨"is_way", F_is_way, false, [], false⟩
@[simp] theorem run_N_is_way : N_is_way.run = F_is_way := rfl
@[simp] theorem dfl_N_is_way : N_is_way.dfl = [] := rfl
noncomputable def B_look_at_way : List St :=
  [.ife (.not (.call N_is_way false [(.var 0)])) [.rai "NoWay"] []]
noncomputable def F_look_at_way : List D → R D := defR 1 1 B_look_at_way
theorem D_look_at_way (a0 : D) : F_look_at_way [a0] = (exs [.v a0] B_look_at_way).end := rfl
noncomputable def N_look_at_way : Fn := ⟨"look_at_way", F_look_at_way, false, [], false⟩
@[simp] theorem run_N_look_at_way : N_look_at_way.run = F_look_at_way := rfl
@[simp] theorem dfl_N_look_at_way : N_look_at_way.dfl = [] := rfl
noncomputable def B_are_pairs : List St :=
  [.ife (.or [(.not (.isi (.var 2) ["list"])), (.cmp .eq (.blt .len [(.var 2)]) (.lit (.int 0)))]) [.ret (.lit (.bl false))] [],
   .for (.nm 3) (.var 2) [.ife (.or [(.not (.isi (.var 3) ["tuple"])), (.cmp .ne (.blt .len [(.var 3)]) (.lit (.int 2)))]) [.ret (.lit (.bl false))] [], .ife (.or [(.not (.call N_is_place false [(.var 0), (.ix (.var 3) (.lit (.int 0)))])), (.not (.call N_is_place false [(.var 1), (.ix (.var 3) (.lit (.int 1)))]))]) [.ret (.lit (.bl false))] []],
   .ret (.lit (.bl true))]
noncomputable def F_are_pairs : List D → R D := defR 4 3 B_are_pairs
theorem D_are_pairs (a0 a1 a2 : D) : F_are_pairs [a0, a1, a2] = (exs [.v a0, .v a1, .v a2, .n] B_are_pairs).end := rfl
noncomputable def N_are_pairs : Fn := ⟨"are_pairs", F_are_pairs, false, [], false⟩
@[simp] theorem run_N_are_pairs : N_are_pairs.run = F_are_pairs := rfl
@[simp] theorem dfl_N_are_pairs : N_are_pairs.dfl = [] := rfl
noncomputable def B_begins : List St :=
  [.ret (.and [(.cmp .eq (.ix (.var 0) (.lit (.int 0))) (.glob "NOUGHT" (.tup [(.int 0), (.int 1)]))), (.or [(.cmp .eq (.var 1) (.lit (.str "part"))), (.cmp .eq (.ix (.var 0) (.lit (.int 1))) (.glob "NOUGHT" (.tup [(.int 0), (.int 1)])))])])]
noncomputable def F_begins : List D → R D := defR 2 2 B_begins
theorem D_begins (a0 a1 : D) : F_begins [a0, a1] = (exs [.v a0, .v a1] B_begins).end := rfl
noncomputable def N_begins : Fn := ⟨"begins", F_begins, false, [], false⟩
@[simp] theorem run_N_begins : N_begins.run = F_begins := rfl
@[simp] theorem dfl_N_begins : N_begins.dfl = [] := rfl
noncomputable def B_comes_home : List St :=
  [.ife (.cmp .ne (.ix (.var 2) (.lit (.int 0))) (.tup [(.call N_last_of false [(.var 0)]), (.lit (.int 1))])) [.ret (.lit (.bl false))] [],
   .ret (.or [(.cmp .eq (.var 3) (.lit (.str "part"))), (.cmp .eq (.ix (.var 2) (.lit (.int 1))) (.tup [(.call N_last_of false [(.var 1)]), (.lit (.int 1))]))])]
noncomputable def F_comes_home : List D → R D := defR 4 4 B_comes_home
theorem D_comes_home (a0 a1 a2 a3 : D) : F_comes_home [a0, a1, a2, a3] = (exs [.v a0, .v a1, .v a2, .v a3] B_comes_home).end := rfl
noncomputable def N_comes_home : Fn := ⟨"comes_home", F_comes_home, false, [], false⟩
@[simp] theorem run_N_comes_home : N_comes_home.run = F_comes_home := rfl
@[simp] theorem dfl_N_comes_home : N_comes_home.dfl = [] := rfl
noncomputable def B_is_hop : List St :=
  [.ret (.and [(.cmp .eq (.ix (.var 0) (.lit (.int 1))) (.lit (.int 1))), (.cmp .eq (.ix (.var 1) (.lit (.int 1))) (.lit (.int 1))), (.cmp .inn (.bin .sub (.ix (.var 1) (.lit (.int 0))) (.ix (.var 0) (.lit (.int 0)))) (.tup [(.lit (.int 0)), (.lit (.int 1))]))])]
noncomputable def F_is_hop : List D → R D := defR 2 2 B_is_hop
theorem D_is_hop (a0 a1 : D) : F_is_hop [a0, a1] = (exs [.v a0, .v a1] B_is_hop).end := rfl
noncomputable def N_is_hop : Fn := ⟨"is_hop", F_is_hop, false, [], false⟩
@[simp] theorem run_N_is_hop : N_is_hop.run = F_is_hop := rfl
@[simp] theorem dfl_N_is_hop : N_is_hop.dfl = [] := rfl
noncomputable def B_may_go : List St :=
  [.ife (.cmp .eq (.var 3) (.lit (.str "hops"))) [.ret (.call N_is_hop false [(.var 1), (.var 2)])] [],
   .ife (.and [(.cmp .ne (.var 3) (.lit (.str "free"))), (.call N_less false [(.var 2), (.var 1)])]) [.ret (.lit (.bl false))] [], .ret (.call N_in_one_stretch false [(.var 0), (.var 1), (.var 2)])]
noncomputable def F_may_go : List D → R D := defR 4 4 B_may_go
theorem D_may_go (a0 a1 a2 a3 : D) : F_may_go [a0, a1, a2, a3] = (exs [.v a0, .v a1, .v a2, .v a3] B_may_go).end := rfl
noncomputable def N_may_go : Fn := ⟨"may_go", F_may_go, false, [], false⟩
@[simp] theorem run_N_may_go : N_may_go.run = F_may_go := rfl
@[simp] theorem dfl_N_may_go : N_may_go.dfl = [] := rfl
noncomputable def B_is_walk : List St :=
  [.exp (.call N_look_at_way false [(.var 3)]), .ife (.not (.call N_are_pairs false [(.var 0), (.var 1), (.var 2)])) [.ret (.lit (.bl false))] [],
   .ife (.or [(.not (.call N_begins false [(.ix (.var 2) (.lit (.int 0))), (.var 3)])), (.not (.call N_comes_home false [(.var 0), (.var 1), (.ix (.var 2) (.neg (.lit (.int 1)))), (.var 3)]))]) [.ret (.lit (.bl false))] [],
   .for (.tp [(.nm 4), (.nm 5)]) (.zip (.sl (.var 2) .nop (.neg (.lit (.int 1)))) (.sl (.var 2) (.lit (.int 1)) .nop)) [.ife (.or [(.not (.call N_may_go false [(.var 0), (.ix (.var 4) (.lit (.int 0))), (.ix (.var 5) (.lit (.int 0))), (.var 3)])), (.not (.call N_may_go false [(.var 1), (.ix (.var 4) (.lit (.int 1))), (.ix (.var 5) (.lit (.int 1))), (.var 3)]))]) [.ret (.lit (.bl false))] []],
   .ret (.lit (.bl true))]
noncomputable def F_is_walk : List D → R D := defR 6 4 B_is_walk
theorem D_is_walk (a0 a1 a2 a3 : D) : F_is_walk [a0, a1, a2, a3] = (exs [.v a0, .v a1, .v a2, .v a3, .n, .n] B_is_walk).end := rfl
noncomputable def N_is_walk : Fn := ⟨"is_walk", F_is_walk, false, [], false⟩
@[simp] theorem run_N_is_walk : N_is_walk.run = F_is_walk := rfl
@[simp] theorem dfl_N_is_walk : N_is_walk.dfl = [] := rfl
noncomputable def N_is_walk_1 : Fn := ⟨"is_walk", F_is_walk, false, [(.str "on")], false⟩
@[simp] theorem run_N_is_walk_1 : N_is_walk_1.run = F_is_walk := rfl
@[simp] theorem dfl_N_is_walk_1 : N_is_walk_1.dfl = [(.str "on")] := rfl
noncomputable def B_walk_square : List St :=
  [.ife (.not (.call N_is_walk false [(.var 0), (.var 1), (.var 2), (.var 3)])) [.rai "NoWalk"] [], .asg 4 false (.glob "NOUGHT" (.tup [(.int 0), (.int 1)])),
   .for (.tp [(.nm 5), (.nm 6)]) (.var 2) [.asg 7 false (.call N_square_of false [(.var 0), (.var 5), (.var 1), (.var 6)]), .ife (.call N_less false [(.var 4), (.var 7)]) [.asg 4 false (.var 7)] []],
   .ret (.var 4)]
noncomputable def F_walk_square : List D → R D := defR 8 4 B_walk_square
theorem D_walk_square (a0 a1 a2 a3 : D) : F_walk_square [a0, a1, a2, a3] = (exs [.v a0, .v a1, .v a2, .v a3, .n, .n, .n, .n] B_walk_square).end := rfl
noncomputable def N_walk_square : Fn := ⟨"walk_square", F_walk_square, false, [], false⟩
@[simp] theorem run_N_walk_square : N_walk_square.run = F_walk_square := rfl
@[simp] theorem dfl_N_walk_square : N_walk_square.dfl = [] := rfl
noncomputable def N_walk_square_1 : Fn := ⟨"walk_square", F_walk_square, false, [(.str "on")], false⟩
@[simp] theorem run_N_walk_square_1 : N_walk_square_1.run = F_walk_square := rfl
@[simp] theorem dfl_N_walk_square_1 : N_walk_square_1.dfl = [(.str "on")] := rfl
noncomputable def B_sign_of : List St :=
  [.ret (.bin .sub (.blt .int [(.cmp .gt (.var 0) (.lit (.int 0)))]) (.blt .int [(.cmp .lt (.var 0) (.lit (.int 0)))]))]
noncomputable def F_sign_of : List D → R D := defR 1 1 B_sign_of
theorem D_sign_of (a0 : D) : F_sign_of [a0] = (exs [.v a0] B_sign_of).end := rfl
noncomputable def N_sign_of : Fn := ⟨"sign_of", F_sign_of, true, [], false⟩
@[simp] theorem run_N_sign_of : N_sign_of.run = F_sign_of := rfl
@[simp] theorem dfl_N_sign_of : N_sign_of.dfl = [] := rfl
noncomputable def B_sign_of_two : List St :=
  [.asg 3 false (.call N_sign_of false [(.var 0)]), .asg 4 false (.bin .mul (.call N_sign_of false [(.var 1)]) (.call N_sign_of false [(.var 2)])),
   .ife (.or [(.cmp .eq (.var 3) (.lit (.int 0))), (.cmp .eq (.var 3) (.var 4))]) [.ret (.var 4)] [], .ife (.cmp .eq (.var 4) (.lit (.int 0))) [.ret (.var 3)] [],
   .ret (.bin .mul (.var 3) (.call N_sign_of false [(.bin .sub (.bin .mul (.var 0) (.var 0)) (.bin .mul (.bin .mul (.var 1) (.var 1)) (.var 2)))]))]
noncomputable def F_sign_of_two : List D → R D := defR 5 3 B_sign_of_two
theorem D_sign_of_two (a0 a1 a2 : D) : F_sign_of_two [a0, a1, a2] = (exs [.v a0, .v a1, .v a2, .n, .n] B_sign_of_two).end := rfl
noncomputable def N_sign_of_two : Fn := ⟨"sign_of_two", F_sign_of_two, false, [], false⟩
@[simp] theorem run_N_sign_of_two : N_sign_of_two.run = F_sign_of_two := rfl
@[simp] theorem dfl_N_sign_of_two : N_sign_of_two.dfl = [] := rfl
noncomputable def B_sign_of_three : List St :=
  [.asg 5 false (.call N_sign_of_two false [(.var 0), (.var 1), (.var 2)]), .asg 6 false (.bin .mul (.call N_sign_of false [(.var 3)]) (.call N_sign_of false [(.var 4)])),
   .ife (.or [(.cmp .eq (.var 5) (.lit (.int 0))), (.cmp .eq (.var 5) (.var 6))]) [.ret (.var 6)] [], .ife (.cmp .eq (.var 6) (.lit (.int 0))) [.ret (.var 5)] [],
   .asg 7 false (.bin .sub (.bin .add (.bin .mul (.var 0) (.var 0)) (.bin .mul (.bin .mul (.var 1) (.var 1)) (.var 2))) (.bin .mul (.bin .mul (.var 3) (.var 3)) (.var 4))),
   .ret (.bin .mul (.var 5) (.call N_sign_of_two false [(.var 7), (.bin .mul (.bin .mul (.lit (.int 2)) (.var 0)) (.var 1)), (.var 2)]))]
noncomputable def F_sign_of_three : List D → R D := defR 8 5 B_sign_of_three
theorem D_sign_of_three (a0 a1 a2 a3 a4 : D) : F_sign_of_three [a0, a1, a2, a3, a4] = (exs [.v a0, .v a1, .v a2, .v a3, .v a4, .n, .n, .n] B_sign_of_three).end := rfl
noncomputable def N_sign_of_three : Fn := ⟨"sign_of_three", F_sign_of_three, false, [], false⟩
@[simp] theorem run_N_sign_of_three : N_sign_of_three.run = F_sign_of_three := rfl
@[simp] theorem dfl_N_sign_of_three : N_sign_of_three.dfl = [] := rfl
noncomputable def B_root_order : List St :=
  [.unp [(.nm 2), (.nm 3), (.nm 4), (.nm 5)] (.var 0), .unp [(.nm 6), (.nm 7), (.nm 8), (.nm 9)] (.var 1),
   .ret (.call N_sign_of_three false [(.bin .sub (.bin .mul (.var 2) (.var 9)) (.bin .mul (.var 6) (.var 5))), (.bin .mul (.var 3) (.var 9)), (.var 4), (.bin .sub (.lit (.int 0)) (.bin .mul (.var 7) (.var 5))), (.var 8)])]
noncomputable def F_root_order : List D → R D := defR 10 2 B_root_order
theorem D_root_order (a0 a1 : D) : F_root_order [a0, a1] = (exs [.v a0, .v a1, .n, .n, .n, .n, .n, .n, .n, .n] B_root_order).end := rfl
noncomputable def N_root_order : Fn := ⟨"root_order", F_root_order, false, [], false⟩
@[simp] theorem run_N_root_order : N_root_order.run = F_root_order := rfl
@[simp] theorem dfl_N_root_order : N_root_order.dfl = [] := rfl
noncomputable def B_whole_root : List St :=
  [.asg 1 false (.bin .shl (.lit (.int 1)) (.bin .div (.bin .add (.mth .bitlen (.var 0) []) (.lit (.int 1))) (.lit (.int 2)))),
   .whl (.cmp .gt (.bin .mul (.var 1) (.var 1)) (.var 0)) [.asg 1 false (.bin .div (.bin .add (.var 1) (.bin .div (.var 0) (.var 1))) (.lit (.int 2)))], .ret (.var 1)]
noncomputable def F_whole_root : List D → R D := defR 2 1 B_whole_root
theorem D_whole_root (a0 : D) : F_whole_root [a0] = (exs [.v a0, .n] B_whole_root).end := rfl
noncomputable def N_whole_root : Fn := ⟨"whole_root", F_whole_root, false, [], false⟩
@[simp] theorem run_N_whole_root : N_whole_root.run = F_whole_root := rfl
@[simp] theorem dfl_N_whole_root : N_whole_root.dfl = [] := rfl
noncomputable def B_whole_below : List St :=
  [.unp [(.nm 4), (.nm 5), (.nm 6), (.nm 7)] (.var 0), .asg 2 false (.bin .mul (.bin .mul (.bin .mul (.bin .mul (.var 5) (.var 5)) (.var 6)) (.var 1)) (.var 1)),
   .asg 3 false (.call N_whole_root false [(.var 2)]),
   .ife (.cmp .lt (.var 5) (.lit (.int 0))) [.asg 3 false (.bin .sub (.bin .sub (.lit (.int 0)) (.var 3)) (.blt .int [(.cmp .lt (.bin .mul (.var 3) (.var 3)) (.var 2))]))] [],
   .ret (.bin .div (.bin .add (.bin .mul (.var 4) (.var 1)) (.var 3)) (.var 7))]
noncomputable def F_whole_below : List D → R D := defR 8 2 B_whole_below
theorem D_whole_below (a0 a1 : D) : F_whole_below [a0, a1] = (exs [.v a0, .v a1, .n, .n, .n, .n, .n, .n] B_whole_below).end := rfl
noncomputable def N_whole_below : Fn := ⟨"whole_below", F_whole_below, true, [], false⟩
@[simp] theorem run_N_whole_below : N_whole_below.run = F_whole_below := rfl
@[simp] theorem dfl_N_whole_below : N_whole_below.dfl = [] := rfl
noncomputable def B_root_between : List St :=
  [.ife (.cmp .eq (.call N_root_order false [(.var 0), (.var 1)]) (.lit (.int 0))) [.ret (.call N_ratio false [(.bin .add (.ix (.var 0) (.lit (.int 0))) (.bin .mul (.ix (.var 0) (.lit (.int 1))) (.call N_whole_root false [(.ix (.var 0) (.lit (.int 2)))]))), (.ix (.var 0) (.lit (.int 3)))])] [],
   .asg 2 false (.lit (.int 1)), .asg 3 false (.bin .add (.call N_whole_below false [(.var 0), (.var 2)]) (.lit (.int 1))),
   .whl (.cmp .ne (.call N_root_order false [(.tup [(.var 3), (.lit (.int 0)), (.lit (.int 0)), (.var 2)]), (.var 1)]) (.neg (.lit (.int 1)))) [.asg 2 false (.bin .mul (.lit (.int 2)) (.var 2)), .asg 3 false (.bin .add (.call N_whole_below false [(.var 0), (.var 2)]) (.lit (.int 1)))],
   .ret (.call N_ratio false [(.var 3), (.var 2)])]
noncomputable def F_root_between : List D → R D := defR 4 2 B_root_between
theorem D_root_between (a0 a1 : D) : F_root_between [a0, a1] = (exs [.v a0, .v a1, .n, .n] B_root_between).end := rfl
noncomputable def N_root_between : Fn := ⟨"root_between", F_root_between, false, [], false⟩
@[simp] theorem run_N_root_between : N_root_between.run = F_root_between := rfl
@[simp] theorem dfl_N_root_between : N_root_between.dfl = [] := rfl
noncomputable def B_look_at_square : List St :=
  [.ife (.or [(.not (.call N_is_ratio false [(.var 0)])), (.cmp .lt (.ix (.var 0) (.lit (.int 0))) (.lit (.int 0)))]) [.rai "NoSquare"] []]
noncomputable def F_look_at_square : List D → R D := defR 1 1 B_look_at_square
theorem D_look_at_square (a0 : D) : F_look_at_square [a0] = (exs [.v a0] B_look_at_square).end := rfl
noncomputable def N_look_at_square : Fn := ⟨"look_at_square", F_look_at_square, false, [], false⟩
@[simp] theorem run_N_look_at_square : N_look_at_square.run = F_look_at_square := rfl
@[simp] theorem dfl_N_look_at_square : N_look_at_square.dfl = [] := rfl
noncomputable def B_sums_of : List St :=
  [.asg 3 false (.tup [(.bin .sub (.ix (.var 2) (.lit (.int 0))) (.ix (.var 1) (.lit (.int 0)))), (.bin .sub (.ix (.var 2) (.lit (.int 1))) (.ix (.var 1) (.lit (.int 1))))]),
   .asg 4 false (.tup [(.bin .sub (.ix (.var 0) (.lit (.int 0))) (.ix (.var 1) (.lit (.int 0)))), (.bin .sub (.ix (.var 0) (.lit (.int 1))) (.ix (.var 1) (.lit (.int 1))))]),
   .asg 5 false (.bin .add (.bin .mul (.ix (.var 3) (.lit (.int 0))) (.ix (.var 3) (.lit (.int 0)))) (.bin .mul (.ix (.var 3) (.lit (.int 1))) (.ix (.var 3) (.lit (.int 1))))),
   .asg 6 false (.bin .add (.bin .mul (.ix (.var 3) (.lit (.int 0))) (.ix (.var 4) (.lit (.int 0)))) (.bin .mul (.ix (.var 3) (.lit (.int 1))) (.ix (.var 4) (.lit (.int 1))))),
   .ret (.tup [(.var 5), (.var 6), (.bin .add (.bin .mul (.ix (.var 4) (.lit (.int 0))) (.ix (.var 4) (.lit (.int 0)))) (.bin .mul (.ix (.var 4) (.lit (.int 1))) (.ix (.var 4) (.lit (.int 1)))))])]
noncomputable def F_sums_of : List D → R D := defR 7 3 B_sums_of
theorem D_sums_of (a0 a1 a2 : D) : F_sums_of [a0, a1, a2] = (exs [.v a0, .v a1, .v a2, .n, .n, .n, .n] B_sums_of).end := rfl
noncomputable def N_sums_of : Fn := ⟨"sums_of", F_sums_of, false, [], false⟩
@[simp] theorem run_N_sums_of : N_sums_of.run = F_sums_of := rfl
@[simp] theorem dfl_N_sums_of : N_sums_of.dfl = [] := rfl
noncomputable def B_reach : List St :=
  [.unp [(.nm 2), (.nm 3), (.nm 4)] (.var 0),
   .ret (.bin .add (.bin .mul (.ix (.var 1) (.lit (.int 1))) (.bin .sub (.bin .mul (.var 3) (.var 3)) (.bin .mul (.var 2) (.var 4)))) (.bin .mul (.var 2) (.ix (.var 1) (.lit (.int 0)))))]
noncomputable def F_reach : List D → R D := defR 5 2 B_reach
theorem D_reach (a0 a1 : D) : F_reach [a0, a1] = (exs [.v a0, .v a1, .n, .n, .n] B_reach).end := rfl
noncomputable def N_reach : Fn := ⟨"reach", F_reach, true, [], false⟩
@[simp] theorem run_N_reach : N_reach.run = F_reach := rfl
@[simp] theorem dfl_N_reach : N_reach.dfl = [] := rfl
noncomputable def B_cut_to : List St :=
  [.unp [(.nm 5), (.nm 6), (.nm 7)] (.var 0), .asg 2 false (.bin .mul (.call N_reach false [(.var 0), (.var 1)]) (.ix (.var 1) (.lit (.int 1)))),
   .asg 3 false (.tup [(.bin .mul (.var 6) (.ix (.var 1) (.lit (.int 1)))), (.bin .sub (.lit (.int 0)) (.lit (.int 1))), (.var 2), (.bin .mul (.var 5) (.ix (.var 1) (.lit (.int 1))))]),
   .asg 4 false (.tup [(.bin .mul (.var 6) (.ix (.var 1) (.lit (.int 1)))), (.lit (.int 1)), (.var 2), (.bin .mul (.var 5) (.ix (.var 1) (.lit (.int 1))))]),
   .ife (.cmp .eq (.call N_root_order false [(.var 3), (.glob "FIRST" (.tup [(.int 0), (.int 0), (.int 0), (.int 1)]))]) (.neg (.lit (.int 1)))) [.asg 3 false (.glob "FIRST" (.tup [(.int 0), (.int 0), (.int 0), (.int 1)]))] [],
   .ife (.cmp .eq (.call N_root_order false [(.var 4), (.glob "LAST" (.tup [(.int 1), (.int 0), (.int 0), (.int 1)]))]) (.lit (.int 1))) [.asg 4 false (.glob "LAST" (.tup [(.int 1), (.int 0), (.int 0), (.int 1)]))] [],
   .ret (.tup [(.var 3), (.var 4)])]
noncomputable def F_cut_to : List D → R D := defR 8 2 B_cut_to
theorem D_cut_to (a0 a1 : D) : F_cut_to [a0, a1] = (exs [.v a0, .v a1, .n, .n, .n, .n, .n, .n] B_cut_to).end := rfl
noncomputable def N_cut_to : Fn := ⟨"cut_to", F_cut_to, false, [], false⟩
@[simp] theorem run_N_cut_to : N_cut_to.run = F_cut_to := rfl
@[simp] theorem dfl_N_cut_to : N_cut_to.dfl = [] := rfl
noncomputable def B_gate : List St :=
  [.exp (.call N_look_at_square false [(.var 3)]), .asg 4 false (.call N_sums_of false [(.var 0), (.var 1), (.var 2)]),
   .ife (.cmp .eq (.ix (.var 4) (.lit (.int 0))) (.lit (.int 0))) [.ife (.cmp .gt (.bin .mul (.ix (.var 4) (.lit (.int 2))) (.ix (.var 3) (.lit (.int 1)))) (.ix (.var 3) (.lit (.int 0)))) [.ret (.lit .non)] [], .ret (.tup [(.glob "FIRST" (.tup [(.int 0), (.int 0), (.int 0), (.int 1)])), (.glob "LAST" (.tup [(.int 1), (.int 0), (.int 0), (.int 1)]))])] [],
   .ife (.cmp .lt (.call N_reach false [(.var 4), (.var 3)]) (.lit (.int 0))) [.ret (.lit .non)] [], .unp [(.nm 5), (.nm 6)] (.call N_cut_to false [(.var 4), (.var 3)]),
   .ife (.cmp .eq (.call N_root_order false [(.var 5), (.var 6)]) (.lit (.int 1))) [.ret (.lit .non)] [], .ret (.tup [(.var 5), (.var 6)])]
noncomputable def F_gate : List D → R D := defR 7 4 B_gate
theorem D_gate (a0 a1 a2 a3 : D) : F_gate [a0, a1, a2, a3] = (exs [.v a0, .v a1, .v a2, .v a3, .n, .n, .n] B_gate).end := rfl
noncomputable def N_gate : Fn := ⟨"gate", F_gate, false, [], false⟩
@[simp] theorem run_N_gate : N_gate.run = F_gate := rfl
@[simp] theorem dfl_N_gate : N_gate.dfl = [] := rfl
noncomputable def B_open_gate : List St :=
  [.exp (.call N_look_at_square false [(.var 3)]), .asg 4 false (.call N_sums_of false [(.var 0), (.var 1), (.var 2)]),
   .ife (.cmp .eq (.ix (.var 4) (.lit (.int 0))) (.lit (.int 0))) [.ife (.cmp .ge (.bin .mul (.ix (.var 4) (.lit (.int 2))) (.ix (.var 3) (.lit (.int 1)))) (.ix (.var 3) (.lit (.int 0)))) [.ret (.lit .non)] [], .ret (.tup [(.glob "FIRST" (.tup [(.int 0), (.int 0), (.int 0), (.int 1)])), (.glob "LAST" (.tup [(.int 1), (.int 0), (.int 0), (.int 1)]))])] [],
   .ife (.cmp .le (.call N_reach false [(.var 4), (.var 3)]) (.lit (.int 0))) [.ret (.lit .non)] [], .unp [(.nm 5), (.nm 6)] (.call N_cut_to false [(.var 4), (.var 3)]),
   .ife (.cmp .ne (.call N_root_order false [(.var 5), (.var 6)]) (.neg (.lit (.int 1)))) [.ret (.lit .non)] [], .ret (.tup [(.var 5), (.var 6)])]
noncomputable def F_open_gate : List D → R D := defR 7 4 B_open_gate
theorem D_open_gate (a0 a1 a2 a3 : D) : F_open_gate [a0, a1, a2, a3] = (exs [.v a0, .v a1, .v a2, .v a3, .n, .n, .n] B_open_gate).end := rfl
noncomputable def N_open_gate : Fn := ⟨"open_gate", F_open_gate, false, [], false⟩
@[simp] theorem run_N_open_gate : N_open_gate.run = F_open_gate := rfl
@[simp] theorem dfl_N_open_gate : N_open_gate.dfl = [] := rfl
noncomputable def B_figures_in : List St :=
  [.ife (.or [(.cmp .eq (.var 0) (.lit (.str ""))), (.cmp .gt (.blt .len [(.var 0)]) (.glob "MOST_FIGURES" (.int 1000)))]) [.rai "NoText"] [],
   .for (.nm 1) (.var 0) [.ife (.cmp .nin (.var 1) (.glob "FIGURES" (.str "0123456789"))) [.rai "NoText"] []],
   .ife (.and [(.cmp .eq (.ix (.var 0) (.lit (.int 0))) (.lit (.str "0"))), (.cmp .ne (.var 0) (.lit (.str "0")))]) [.rai "NoText"] [], .ret (.blt .int [(.var 0)])]
noncomputable def F_figures_in : List D → R D := defR 2 1 B_figures_in
theorem D_figures_in (a0 : D) : F_figures_in [a0] = (exs [.v a0, .n] B_figures_in).end := rfl
noncomputable def N_figures_in : Fn := ⟨"figures_in", F_figures_in, false, [], false⟩
@[simp] theorem run_N_figures_in : N_figures_in.run = F_figures_in := rfl
@[simp] theorem dfl_N_figures_in : N_figures_in.dfl = [] := rfl
noncomputable def B_whole_in : List St :=
  [.ife (.cmp .ne (.sl (.var 0) .nop (.lit (.int 1))) (.lit (.str "-"))) [.ret (.call N_figures_in false [(.var 0)])] [],
   .asg 1 false (.call N_figures_in false [(.sl (.var 0) (.lit (.int 1)) .nop)]), .ife (.cmp .eq (.var 1) (.lit (.int 0))) [.rai "NoText"] [], .ret (.neg (.var 1))]
noncomputable def F_whole_in : List D → R D := defR 2 1 B_whole_in
theorem D_whole_in (a0 : D) : F_whole_in [a0] = (exs [.v a0, .n] B_whole_in).end := rfl
noncomputable def N_whole_in : Fn := ⟨"whole_in", F_whole_in, false, [], false⟩
@[simp] theorem run_N_whole_in : N_whole_in.run = F_whole_in := rfl
@[simp] theorem dfl_N_whole_in : N_whole_in.dfl = [] := rfl
noncomputable def B_read_ratio : List St :=
  [.unp [(.nm 2), (.nm 3), (.nm 4)] (.sm .part (.var 0) [(.lit (.str "/"))]), .ife (.cmp .eq (.var 3) (.lit (.str ""))) [.ret (.tup [(.call N_whole_in false [(.var 2)]), (.lit (.int 1))])] [],
   .asg 1 false (.tup [(.call N_whole_in false [(.var 2)]), (.call N_figures_in false [(.var 4)])]),
   .ife (.or [(.cmp .eq (.ix (.var 1) (.lit (.int 1))) (.lit (.int 1))), (.not (.call N_is_ratio false [(.var 1)]))]) [.rai "NoText"] [], .ret (.var 1)]
noncomputable def F_read_ratio : List D → R D := defR 5 1 B_read_ratio
theorem D_read_ratio (a0 : D) : F_read_ratio [a0] = (exs [.v a0, .n, .n, .n, .n] B_read_ratio).end := rfl
noncomputable def N_read_ratio : Fn := ⟨"read_ratio", F_read_ratio, false, [], false⟩
@[simp] theorem run_N_read_ratio : N_read_ratio.run = F_read_ratio := rfl
@[simp] theorem dfl_N_read_ratio : N_read_ratio.dfl = [] := rfl
noncomputable def B__law_begun : List St :=
  [.asg 1 false (.lit (.int 0)),
   .ife (.cmp .ge (.blt .abs [(.var 0)]) (.bin .pow (.lit (.int 10)) (.lit (.int 18)))) [.asg 1 false (.bin .add (.bin .sub (.blt .abs [(.var 0)]) (.bin .pow (.lit (.int 10)) (.lit (.int 18)))) (.lit (.int 1)))] [],
   .ret (.lst [(.var 1), (.lit (.int 0)), (.bin .mod (.var 0) (.lit (.int 2147483647)))])]
noncomputable def F__law_begun : List D → R D := defR 2 1 B__law_begun
theorem D__law_begun (a0 : D) : F__law_begun [a0] = (exs [.v a0, .n] B__law_begun).end := rfl
noncomputable def N__law_begun : Fn := ⟨"_law_begun", F__law_begun, true, [], false⟩
@[simp] theorem run_N__law_begun : N__law_begun.run = F__law_begun := rfl
@[simp] theorem dfl_N__law_begun : N__law_begun.dfl = [] := rfl
noncomputable def B__law_take : List St :=
  [.ife (.cmp .gt (.ix (.bor 0) (.lit (.int 0))) (.lit (.int 0))) [.asg 3 false (.bin .mod (.ix (.bor 0) (.lit (.int 0))) (.var 1)), .stq (.lit (.int 0)) (.bin .div (.ix (.bor 0) (.lit (.int 0))) (.var 1)), .retQ (.p (.var 3))] [],
   .stq (.lit (.int 1)) (.bin .add (.ix (.bor 0) (.lit (.int 1))) (.lit (.int 1))),
   .asg 2 false (.bin .mod (.bin .add (.bin .add (.bin .add (.ix (.bor 0) (.lit (.int 2))) (.bin .mul (.bin .mul (.lit (.int 977)) (.ix (.bor 0) (.lit (.int 1)))) (.ix (.bor 0) (.lit (.int 1))))) (.bin .mul (.lit (.int 40693)) (.ix (.bor 0) (.lit (.int 1))))) (.lit (.int 1))) (.lit (.int 2147483647))),
   .asg 2 false (.bin .mod (.bin .mul (.bin .mod (.bin .mul (.var 2) (.var 2)) (.lit (.int 1000000007))) (.lit (.int 48271))) (.lit (.int 998244353))),
   .retQ (.p (.bin .mod (.bin .div (.var 2) (.lit (.int 8))) (.var 1)))]
noncomputable def F__law_take : List D → R D := defQ 4 2 B__law_take
theorem D__law_take (l : List D) (a1 : D) : F__law_take [.lst l, a1] = (exs [.q l, .v a1, .n, .n] B__law_take).endQ := by unfold F__law_take; exact defQ_eq (as := [a1]) rfl (by decide)
noncomputable def N__law_take : Fn := ⟨"_law_take", F__law_take, false, [], true⟩
@[simp] theorem run_N__law_take : N__law_take.run = F__law_take := rfl
@[simp] theorem dfl_N__law_take : N__law_take.dfl = [] := rfl
noncomputable def B__law_wide : List St :=
  [.ife (.or [(.cmp .gt (.ix (.bor 0) (.lit (.int 0))) (.lit (.int 0))), (.cmp .lt (.var 1) (.bin .pow (.lit (.int 10)) (.lit (.int 6))))]) [.retQ (.io N__law_take 0 [(.p (.var 1))])] [],
   .asg 2 false (.lit (.int 0)), .for (.nm 3) (.rng [(.lit (.int 4))]) [.asgF 2 false (.bin .add (.p (.bin .mul (.var 2) (.lit (.int 1000003)))) (.io N__law_take 0 [(.p (.lit (.int 1000003)))]))],
   .retQ (.p (.bin .mod (.var 2) (.var 1)))]
noncomputable def F__law_wide : List D → R D := defQ 4 2 B__law_wide
theorem D__law_wide (l : List D) (a1 : D) : F__law_wide [.lst l, a1] = (exs [.q l, .v a1, .n, .n] B__law_wide).endQ := by unfold F__law_wide; exact defQ_eq (as := [a1]) rfl (by decide)
noncomputable def N__law_wide : Fn := ⟨"_law_wide", F__law_wide, false, [], true⟩
@[simp] theorem run_N__law_wide : N__law_wide.run = F__law_wide := rfl
@[simp] theorem dfl_N__law_wide : N__law_wide.dfl = [] := rfl
noncomputable def B__law_divisor : List St :=
  [.whl (.cmp .ne (.var 1) (.lit (.int 0))) [.par 0 1 (.var 1) (.bin .mod (.var 0) (.var 1))], .ret (.blt .abs [(.var 0)])]
noncomputable def F__law_divisor : List D → R D := defR 2 2 B__law_divisor
theorem D__law_divisor (a0 a1 : D) : F__law_divisor [a0, a1] = (exs [.v a0, .v a1] B__law_divisor).end := rfl
noncomputable def N__law_divisor : Fn := ⟨"_law_divisor", F__law_divisor, false, [], false⟩
@[simp] theorem run_N__law_divisor : N__law_divisor.run = F__law_divisor := rfl
@[simp] theorem dfl_N__law_divisor : N__law_divisor.dfl = [] := rfl
noncomputable def B__law_ratio : List St :=
  [.asg 2 false (.call N__law_divisor false [(.var 0), (.var 1)]), .ret (.tup [(.bin .div (.var 0) (.var 2)), (.bin .div (.var 1) (.var 2))])]
noncomputable def F__law_ratio : List D → R D := defR 3 2 B__law_ratio
theorem D__law_ratio (a0 a1 : D) : F__law_ratio [a0, a1] = (exs [.v a0, .v a1, .n] B__law_ratio).end := rfl
noncomputable def N__law_ratio : Fn := ⟨"_law_ratio", F__law_ratio, false, [], false⟩
@[simp] theorem run_N__law_ratio : N__law_ratio.run = F__law_ratio := rfl
@[simp] theorem dfl_N__law_ratio : N__law_ratio.dfl = [] := rfl
noncomputable def B__law_below : List St :=
  [.ret (.cmp .lt (.bin .mul (.ix (.var 0) (.lit (.int 0))) (.ix (.var 1) (.lit (.int 1)))) (.bin .mul (.ix (.var 1) (.lit (.int 0))) (.ix (.var 0) (.lit (.int 1)))))]
noncomputable def F__law_below : List D → R D := defR 2 2 B__law_below
theorem D__law_below (a0 a1 : D) : F__law_below [a0, a1] = (exs [.v a0, .v a1] B__law_below).end := rfl
noncomputable def N__law_below : Fn := ⟨"_law_below", F__law_below, false, [], false⟩
@[simp] theorem run_N__law_below : N__law_below.run = F__law_below := rfl
@[simp] theorem dfl_N__law_below : N__law_below.dfl = [] := rfl
noncomputable def B__law_whole_in : List St :=
  [.asg 1 false (.var 0), .ife (.cmp .eq (.sl (.var 0) .nop (.lit (.int 1))) (.lit (.str "-"))) [.asg 1 false (.sl (.var 0) (.lit (.int 1)) .nop)] [],
   .ife (.or [(.cmp .eq (.var 1) (.lit (.str ""))), (.cmp .gt (.blt .len [(.var 1)]) (.lit (.int 1000))), (.not (.blt .all [(.lc (.cmp .inn (.var 2) (.lit (.str "0123456789"))) (.nm 2) (.var 1) .nop)]))]) [.ret (.lit .non)] [],
   .ife (.and [(.cmp .eq (.ix (.var 1) (.lit (.int 0))) (.lit (.str "0"))), (.or [(.cmp .gt (.blt .len [(.var 1)]) (.lit (.int 1))), (.cmp .eq (.sl (.var 0) .nop (.lit (.int 1))) (.lit (.str "-")))])]) [.ret (.lit .non)] [],
   .ret (.blt .int [(.var 0)])]
noncomputable def F__law_whole_in : List D → R D := defR 3 1 B__law_whole_in
theorem D__law_whole_in (a0 : D) : F__law_whole_in [a0] = (exs [.v a0, .n, .n] B__law_whole_in).end := rfl
noncomputable def N__law_whole_in : Fn := ⟨"_law_whole_in", F__law_whole_in, false, [], false⟩
@[simp] theorem run_N__law_whole_in : N__law_whole_in.run = F__law_whole_in := rfl
@[simp] theorem dfl_N__law_whole_in : N__law_whole_in.dfl = [] := rfl
noncomputable def B__law_fraction : List St :=
  [.asg 1 false (.sm .split (.var 0) [(.lit (.str "/"))]), .asg 2 false (.lc (.call N__law_whole_in false [(.var 3)]) (.nm 3) (.var 1) .nop),
   .ife (.or [(.cmp .inn (.lit .non) (.var 2)), (.cmp .gt (.blt .len [(.var 1)]) (.lit (.int 2)))]) [.ret (.lit .non)] [],
   .ife (.cmp .eq (.blt .len [(.var 1)]) (.lit (.int 1))) [.ret (.tup [(.ix (.var 2) (.lit (.int 0))), (.lit (.int 1))])] [],
   .ife (.or [(.cmp .lt (.ix (.var 2) (.lit (.int 1))) (.lit (.int 2))), (.cmp .ne (.call N__law_divisor false [(.ix (.var 2) (.lit (.int 0))), (.ix (.var 2) (.lit (.int 1)))]) (.lit (.int 1)))]) [.ret (.lit .non)] [],
   .ret (.tup [(.ix (.var 2) (.lit (.int 0))), (.ix (.var 2) (.lit (.int 1)))])]
noncomputable def F__law_fraction : List D → R D := defR 4 1 B__law_fraction
theorem D__law_fraction (a0 : D) : F__law_fraction [a0] = (exs [.v a0, .n, .n, .n] B__law_fraction).end := rfl
noncomputable def N__law_fraction : Fn := ⟨"_law_fraction", F__law_fraction, false, [], false⟩
@[simp] theorem run_N__law_fraction : N__law_fraction.run = F__law_fraction := rfl
@[simp] theorem dfl_N__law_fraction : N__law_fraction.dfl = [] := rfl
noncomputable def B__law_shown : List St :=
  [.ife (.cmp .eq (.ix (.var 0) (.lit (.int 1))) (.lit (.int 1))) [.ret (.blt .str [(.ix (.var 0) (.lit (.int 0)))])] [],
   .ret (.bin .add (.bin .add (.blt .str [(.ix (.var 0) (.lit (.int 0)))]) (.lit (.str "/"))) (.blt .str [(.ix (.var 0) (.lit (.int 1)))]))]
noncomputable def F__law_shown : List D → R D := defR 1 1 B__law_shown
theorem D__law_shown (a0 : D) : F__law_shown [a0] = (exs [.v a0] B__law_shown).end := rfl
noncomputable def N__law_shown : Fn := ⟨"_law_shown", F__law_shown, false, [], false⟩
@[simp] theorem run_N__law_shown : N__law_shown.run = F__law_shown := rfl
@[simp] theorem dfl_N__law_shown : N__law_shown.dfl = [] := rfl
noncomputable def B__law_altered : List St :=
  [.asg 3 false (.var 1),
   .forF (.nm 4) (.rng [(.io N__law_take 0 [(.p (.bin .add (.var 2) (.lit (.int 1))))])]) [.asgF 5 false (.io N__law_take 0 [(.p (.bin .add (.blt .len [(.var 3)]) (.lit (.int 1))))]), .asgF 6 false (.ix (.p (.lit (.str "0123456789-/+ .,:x"))) (.io N__law_take 0 [(.p (.lit (.int 18)))])), .asgF 3 false (.bin .add (.bin .add (.p (.sl (.var 3) .nop (.var 5))) (.ix (.p (.lst [(.lit (.str "")), (.var 6), (.var 6)])) (.io N__law_take 0 [(.p (.lit (.int 3)))]))) (.sl (.p (.var 3)) (.bin .add (.p (.var 5)) (.io N__law_take 0 [(.p (.lit (.int 2)))])) (.p .nop)))],
   .retQ (.p (.var 3))]
noncomputable def F__law_altered : List D → R D := defQ 7 3 B__law_altered
theorem D__law_altered (l : List D) (a1 a2 : D) : F__law_altered [.lst l, a1, a2] = (exs [.q l, .v a1, .v a2, .n, .n, .n, .n] B__law_altered).endQ := by unfold F__law_altered; exact defQ_eq (as := [a1, a2]) rfl (by decide)
noncomputable def N__law_altered : Fn := ⟨"_law_altered", F__law_altered, false, [], true⟩
@[simp] theorem run_N__law_altered : N__law_altered.run = F__law_altered := rfl
@[simp] theorem dfl_N__law_altered : N__law_altered.dfl = [] := rfl
noncomputable def B__law_drawn : List St :=
  [.asgF 1 false (.ix (.p (.lst [(.lit (.int 4)), (.lit (.int 12)), (.lit (.int 1000)), (.bin .sub (.bin .pow (.lit (.int 10)) (.lit (.int 60))) (.lit (.int 1)))])) (.io N__law_take 0 [(.p (.lit (.int 4)))])),
   .asgF 2 false (.bin .mul (.io N__law_wide 0 [(.p (.var 1))]) (.bin .sub (.p (.lit (.int 1))) (.bin .mul (.p (.lit (.int 2))) (.io N__law_take 0 [(.p (.lit (.int 2)))])))),
   .retQ (.call N__law_ratio [(.p (.var 2)), (.bin .add (.p (.lit (.int 1))) (.io N__law_wide 0 [(.ix (.p (.lst [(.lit (.int 1)), (.lit (.int 4)), (.lit (.int 60)), (.bin .sub (.bin .pow (.lit (.int 10)) (.lit (.int 60))) (.lit (.int 1)))])) (.io N__law_take 0 [(.p (.lit (.int 4)))]))]))])]
noncomputable def F__law_drawn : List D → R D := defQ 3 1 B__law_drawn
theorem D__law_drawn (l : List D) : F__law_drawn [.lst l] = (exs [.q l, .n, .n] B__law_drawn).endQ := by unfold F__law_drawn; exact defQ_eq (as := []) rfl (by decide)
noncomputable def N__law_drawn : Fn := ⟨"_law_drawn", F__law_drawn, false, [], true⟩
@[simp] theorem run_N__law_drawn : N__law_drawn.run = F__law_drawn := rfl
@[simp] theorem dfl_N__law_drawn : N__law_drawn.dfl = [] := rfl
noncomputable def B__law_plain : List St :=
  [.asg 1 false (.lst [(.lit (.str "")), (.lit (.str "-")), (.lit (.str "/")), (.lit (.str "00")), (.lit (.str "01")), (.lit (.str "-0")), (.lit (.str "+1")), (.lit (.str "1/1")), (.lit (.str "2/4")), (.lit (.str "3/0")), (.lit (.str "1/-2")), (.lit (.str " 1")), (.lit (.str "1 ")), (.lit (.str "1/2/3")), (.lit (.str "1.0")), (.lit (.str "-1/")), (.lit (.str "/2"))]),
   .asg 1 false (.bin .add (.var 1) (.lst [(.lit (.str "0/1")), (.lit (.str "0/2")), (.lit (.str "-0/3")), (.lit (.str "1/02")), (.lit (.str "--1")), (.lit (.str "1 /2")), (.lit (.str "1/ 2")), (.lit (.str "1/+2")), (.lit (.str "1e3")), (.lit (.str "1_0")), (.lit (.str "-3/6")), (.lit (.str "0")), (.lit (.str "-7/2")), (.lit (.str "-"))])),
   .asg 1 false (.bin .add (.var 1) (.lst [(.bin .mul (.lit (.str "1")) (.lit (.int 1001))), (.bin .add (.lit (.str "-")) (.bin .mul (.lit (.str "2")) (.lit (.int 1001)))), (.bin .add (.lit (.str "1/")) (.bin .mul (.lit (.str "3")) (.lit (.int 1001)))), (.bin .mul (.lit (.str "1")) (.lit (.int 1000))), (.bin .mul (.lit (.str "0")) (.lit (.int 2))), (.lit (.str "x")), (.lit (.str "1:2")), (.lit (.str "1,2"))])),
   .retQ (.ix (.p (.var 1)) (.io N__law_take 0 [(.p (.blt .len [(.var 1)]))]))]
noncomputable def F__law_plain : List D → R D := defQ 2 1 B__law_plain
theorem D__law_plain (l : List D) : F__law_plain [.lst l] = (exs [.q l, .n] B__law_plain).endQ := by unfold F__law_plain; exact defQ_eq (as := []) rfl (by decide)
noncomputable def N__law_plain : Fn := ⟨"_law_plain", F__law_plain, false, [], true⟩
@[simp] theorem run_N__law_plain : N__law_plain.run = F__law_plain := rfl
@[simp] theorem dfl_N__law_plain : N__law_plain.dfl = [] := rfl
noncomputable def B__law_told_of : List St :=
  [.asg 1 false (.lit .non),
   .tas [.asg 1 false (.call N_read_ratio false [(.var 0)])] "LeashError" 2 [.asg 3 false (.isx (.var 2) ["NoLine", "NoPlace", "NoRatio", "NoWalk", "NoWay"]), .asg 1 false (.tup [(.lit (.str "refused")), (.isx (.var 2) ["NoText"]), (.isx (.var 2) ["ValueError"]), (.var 3)])],
   .ret (.var 1)]
noncomputable def F__law_told_of : List D → R D := defR 4 1 B__law_told_of
theorem D__law_told_of (a0 : D) : F__law_told_of [a0] = (exs [.v a0, .n, .n, .n] B__law_told_of).end := rfl
noncomputable def N__law_told_of : Fn := ⟨"_law_told_of", F__law_told_of, false, [], false⟩
@[simp] theorem run_N__law_told_of : N__law_told_of.run = F__law_told_of := rfl
@[simp] theorem dfl_N__law_told_of : N__law_told_of.dfl = [] := rfl
noncomputable def B_law : List St :=
  [.for (.nm 1) (.bin .add (.lst [(.lit (.int 0))]) (.var 0)) [.asg 2 true (.call N__law_begun false [(.var 1)]), .asgF 3 false (.io N__law_altered 2 [(.call N__law_shown [(.io N__law_drawn 2 [])]), (.p (.lit (.int 3)))]), .ifeF (.cmp .eq (.io N__law_take 2 [(.p (.lit (.int 3)))]) (.p (.lit (.int 0)))) [.asgF 3 false (.io N__law_plain 2 [])] [], .asg 4 false (.call N__law_fraction false [(.var 3)]), .ife (.cmp .is (.var 4) (.lit .non)) [.asg 4 false (.tup [(.lit (.str "refused")), (.lit (.bl true)), (.lit (.bl true)), (.lit (.bl false))])] [], .ife (.cmp .ne (.call N__law_told_of false [(.var 3)]) (.var 4)) [.ret (.lit (.bl false))] []],
   .ret (.lit (.bl true))]
noncomputable def F_law : List D → R D := defR 5 1 B_law
theorem D_law (a0 : D) : F_law [a0] = (exs [.v a0, .n, .n, .n, .n] B_law).end := rfl
noncomputable def N_law : Fn := ⟨"law", F_law, false, [], false⟩
@[simp] theorem run_N_law : N_law.run = F_law := rfl
@[simp] theorem dfl_N_law : N_law.dfl = [] := rfl
end OL.LW
namespace OL.LW
open PySem PySem.Spec PyProof.Rows L2
theorem S_is_whole : FnScope (["thing"] : List Str) ["thing"] (defScope s_is_whole) := ⟨rfl, rfl, rfl, by decide +kernel, rfl, by decide +kernel, by decide +kernel⟩
theorem C_is_whole : ckSs (["thing"] : List Str) (defScope s_is_whole) false B_is_whole (defBody s_is_whole) = true := by decide +kernel
theorem S_divisor : FnScope (["one", "other"] : List Str) ["one", "other"] (defScope s_divisor) := ⟨rfl, rfl, rfl, by decide +kernel, rfl, by decide +kernel, by decide +kernel⟩
theorem C_divisor : ckSs (["one", "other"] : List Str) (defScope s_divisor) false B_divisor (defBody s_divisor) = true := by decide +kernel
theorem S_is_ratio : FnScope (["thing"] : List Str) ["thing"] (defScope s_is_ratio) := ⟨rfl, rfl, rfl, by decide +kernel, rfl, by decide +kernel, by decide +kernel⟩
theorem C_is_ratio : ckSs (["thing"] : List Str) (defScope s_is_ratio) false B_is_ratio (defBody s_is_ratio) = true := by decide +kernel
theorem S_figures_in : FnScope (["text", "sign"] : List Str) ["text"] (defScope s_figures_in) := ⟨rfl, rfl, rfl, by decide +kernel, rfl, by decide +kernel, by decide +kernel⟩
theorem C_figures_in : ckSs (["text", "sign"] : List Str) (defScope s_figures_in) false B_figures_in (defBody s_figures_in) = true := by decide +kernel
theorem S_whole_in : FnScope (["text", "number"] : List Str) ["text"] (defScope s_whole_in) := ⟨rfl, rfl, rfl, by decide +kernel, rfl, by decide +kernel, by decide +kernel⟩
theorem C_whole_in : ckSs (["text", "number"] : List Str) (defScope s_whole_in) false B_whole_in (defBody s_whole_in) = true := by decide +kernel
theorem S_read_ratio : FnScope (["text", "made", "top", "stroke", "bottom"] : List Str) ["text"] (defScope s_read_ratio) := ⟨rfl, rfl, rfl, by decide +kernel, rfl, by decide +kernel, by decide +kernel⟩
theorem C_read_ratio : ckSs (["text", "made", "top", "stroke", "bottom"] : List Str) (defScope s_read_ratio) false B_read_ratio (defBody s_read_ratio) = true := by decide +kernel
theorem S__law_begun : FnScope (["cell", "rest"] : List Str) ["cell"] (defScope s__law_begun) := ⟨rfl, rfl, rfl, by decide +kernel, rfl, by decide +kernel, by decide +kernel⟩
theorem C__law_begun : ckSs (["cell", "rest"] : List Str) (defScope s__law_begun) true B__law_begun (defBody s__law_begun) = true := by decide +kernel
theorem S__law_take : FnScope (["pot", "size", "mixed", "digit"] : List Str) ["pot", "size"] (defScope s__law_take) := ⟨rfl, rfl, rfl, by decide +kernel, rfl, by decide +kernel, by decide +kernel⟩
theorem C__law_take : ckSs (["pot", "size", "mixed", "digit"] : List Str) (defScope s__law_take) false B__law_take (defBody s__law_take) = true := by decide +kernel
theorem S__law_wide : FnScope (["pot", "size", "number", "turn"] : List Str) ["pot", "size"] (defScope s__law_wide) := ⟨rfl, rfl, rfl, by decide +kernel, rfl, by decide +kernel, by decide +kernel⟩
theorem C__law_wide : ckSs (["pot", "size", "number", "turn"] : List Str) (defScope s__law_wide) false B__law_wide (defBody s__law_wide) = true := by decide +kernel
theorem S__law_divisor : FnScope (["one", "other"] : List Str) ["one", "other"] (defScope s__law_divisor) := ⟨rfl, rfl, rfl, by decide +kernel, rfl, by decide +kernel, by decide +kernel⟩
theorem C__law_divisor : ckSs (["one", "other"] : List Str) (defScope s__law_divisor) false B__law_divisor (defBody s__law_divisor) = true := by decide +kernel
theorem S__law_ratio : FnScope (["top", "bottom", "by"] : List Str) ["top", "bottom"] (defScope s__law_ratio) := ⟨rfl, rfl, rfl, by decide +kernel, rfl, by decide +kernel, by decide +kernel⟩
theorem C__law_ratio : ckSs (["top", "bottom", "by"] : List Str) (defScope s__law_ratio) false B__law_ratio (defBody s__law_ratio) = true := by decide +kernel
theorem S__law_below : FnScope (["one", "other"] : List Str) ["one", "other"] (defScope s__law_below) := ⟨rfl, rfl, rfl, by decide +kernel, rfl, by decide +kernel, by decide +kernel⟩
theorem C__law_below : ckSs (["one", "other"] : List Str) (defScope s__law_below) false B__law_below (defBody s__law_below) = true := by decide +kernel
theorem S__law_whole_in : FnScope (["text", "figures", "sign"] : List Str) ["text"] (defScope s__law_whole_in) := ⟨rfl, rfl, rfl, by decide +kernel, rfl, by decide +kernel, by decide +kernel⟩
theorem C__law_whole_in : ckSs (["text", "figures", "sign"] : List Str) (defScope s__law_whole_in) false B__law_whole_in (defBody s__law_whole_in) = true := by decide +kernel
theorem S__law_fraction : FnScope (["text", "parts", "numbers", "part"] : List Str) ["text"] (defScope s__law_fraction) := ⟨rfl, rfl, rfl, by decide +kernel, rfl, by decide +kernel, by decide +kernel⟩
theorem C__law_fraction : ckSs (["text", "parts", "numbers", "part"] : List Str) (defScope s__law_fraction) false B__law_fraction (defBody s__law_fraction) = true := by decide +kernel
theorem S__law_shown : FnScope (["a"] : List Str) ["a"] (defScope s__law_shown) := ⟨rfl, rfl, rfl, by decide +kernel, rfl, by decide +kernel, by decide +kernel⟩
theorem C__law_shown : ckSs (["a"] : List Str) (defScope s__law_shown) false B__law_shown (defBody s__law_shown) = true := by decide +kernel
theorem S__law_altered : FnScope (["pot", "text", "many", "made", "turn", "at", "sign"] : List Str) ["pot", "text", "many"] (defScope s__law_altered) := ⟨rfl, rfl, rfl, by decide +kernel, rfl, by decide +kernel, by decide +kernel⟩
theorem C__law_altered : ckSs (["pot", "text", "many", "made", "turn", "at", "sign"] : List Str) (defScope s__law_altered) false B__law_altered (defBody s__law_altered) = true := by decide +kernel
theorem S__law_drawn : FnScope (["pot", "span", "top"] : List Str) ["pot"] (defScope s__law_drawn) := ⟨rfl, rfl, rfl, by decide +kernel, rfl, by decide +kernel, by decide +kernel⟩
theorem C__law_drawn : ckSs (["pot", "span", "top"] : List Str) (defScope s__law_drawn) false B__law_drawn (defBody s__law_drawn) = true := by decide +kernel
theorem S__law_plain : FnScope (["pot", "some"] : List Str) ["pot"] (defScope s__law_plain) := ⟨rfl, rfl, rfl, by decide +kernel, rfl, by decide +kernel, by decide +kernel⟩
theorem C__law_plain : ckSs (["pot", "some"] : List Str) (defScope s__law_plain) false B__law_plain (defBody s__law_plain) = true := by decide +kernel
theorem S__law_told_of : FnScope (["text", "told", "e", "others"] : List Str) ["text"] (defScope s__law_told_of) := ⟨rfl, rfl, rfl, by decide +kernel, rfl, by decide +kernel, by decide +kernel⟩
theorem C__law_told_of : ckSs (["text", "told", "e", "others"] : List Str) (defScope s__law_told_of) false B__law_told_of (defBody s__law_told_of) = true := by decide +kernel
theorem S_law : FnScope (["script", "cell", "pot", "text", "due"] : List Str) ["script"] (defScope s_law) := ⟨rfl, rfl, rfl, by decide +kernel, rfl, by decide +kernel, by decide +kernel⟩
theorem C_law : ckSs (["script", "cell", "pot", "text", "due"] : List Str) (defScope s_law) false B_law (defBody s_law) = true := by decide +kernel
theorem facts {P : Program} {w : World} {K : PySem.W.Frag} {h : Heap} {mg : Str → Option Value} {f : Addr} (X : K.In h) (G : h.Ns mainGlobals mg) (hfa : mg ("law" : Str) = some (.ref f)) (cx : SaysX pres tups fas fns K) :
    ∃ fd : FuncData, (∀ (s : Shared) (v : Value), BindsTo s fd ⟨[v], []⟩ [("script", v)]) ∧ ∀ base : Heap, K.In base → base.Ns mainGlobals mg → FnOk P w K mg base (L2.CX P w) 5 f fd ["script"] (spF K mg F_law false 1) := by
  have c := cx.d
  have M : ModOk K mg := modOk (pres := pres) c cx.x (fun f hf => List.mem_append_left _ hf) X G
  have d_is_whole := defIn c X G 0 (x := Str.ofString "is_whole") rfl (List.mem_append_right _ (List.mem_of_getElem? (i := 0) rfl))
  have d_divisor := defIn c X G 1 (x := Str.ofString "divisor") rfl (List.mem_append_right _ (List.mem_of_getElem? (i := 1) rfl))
  have d_is_ratio := defIn c X G 2 (x := Str.ofString "is_ratio") rfl (List.mem_append_right _ (List.mem_of_getElem? (i := 2) rfl))
  have d_figures_in := defIn c X G 3 (x := Str.ofString "figures_in") rfl (List.mem_append_right _ (List.mem_of_getElem? (i := 3) rfl))
  have d_whole_in := defIn c X G 4 (x := Str.ofString "whole_in") rfl (List.mem_append_right _ (List.mem_of_getElem? (i := 4) rfl))
  have d_read_ratio := defIn c X G 5 (x := Str.ofString "read_ratio") rfl (List.mem_append_right _ (List.mem_of_getElem? (i := 5) rfl))
  have d__law_begun := defIn c X G 6 (x := Str.ofString "_law_begun") rfl (List.mem_append_right _ (List.mem_of_getElem? (i := 6) rfl))
  have d__law_take := defIn c X G 7 (x := Str.ofString "_law_take") rfl (List.mem_append_right _ (List.mem_of_getElem? (i := 7) rfl))
  have d__law_wide := defIn c X G 8 (x := Str.ofString "_law_wide") rfl (List.mem_append_right _ (List.mem_of_getElem? (i := 8) rfl))
  have d__law_divisor := defIn c X G 9 (x := Str.ofString "_law_divisor") rfl (List.mem_append_right _ (List.mem_of_getElem? (i := 9) rfl))
  have d__law_ratio := defIn c X G 10 (x := Str.ofString "_law_ratio") rfl (List.mem_append_right _ (List.mem_of_getElem? (i := 10) rfl))
  have d__law_below := defIn c X G 11 (x := Str.ofString "_law_below") rfl (List.mem_append_right _ (List.mem_of_getElem? (i := 11) rfl))
  have d__law_whole_in := defIn c X G 12 (x := Str.ofString "_law_whole_in") rfl (List.mem_append_right _ (List.mem_of_getElem? (i := 12) rfl))
  have d__law_fraction := defIn c X G 13 (x := Str.ofString "_law_fraction") rfl (List.mem_append_right _ (List.mem_of_getElem? (i := 13) rfl))
  have d__law_shown := defIn c X G 14 (x := Str.ofString "_law_shown") rfl (List.mem_append_right _ (List.mem_of_getElem? (i := 14) rfl))
  have d__law_altered := defIn c X G 15 (x := Str.ofString "_law_altered") rfl (List.mem_append_right _ (List.mem_of_getElem? (i := 15) rfl))
  have d__law_drawn := defIn c X G 16 (x := Str.ofString "_law_drawn") rfl (List.mem_append_right _ (List.mem_of_getElem? (i := 16) rfl))
  have d__law_plain := defIn c X G 17 (x := Str.ofString "_law_plain") rfl (List.mem_append_right _ (List.mem_of_getElem? (i := 17) rfl))
  have d__law_told_of := defIn c X G 18 (x := Str.ofString "_law_told_of") rfl (List.mem_append_right _ (List.mem_of_getElem? (i := 18) rfl))
  have x_LeashError : ExT K mg "LeashError" := exT (pres := pres) c (fun f hf => List.mem_append_left _ hf) X G (by decide)
  have y_LeashError : TgT K mg "LeashError" (.exc "LeashError") := tgT_exc x_LeashError
  have x_NoRatio : ExT K mg "NoRatio" := exT (pres := pres) c (fun f hf => List.mem_append_left _ hf) X G (by decide)
  have y_NoRatio : TgT K mg "NoRatio" (.exc "NoRatio") := tgT_exc x_NoRatio
  have x_NoLine : ExT K mg "NoLine" := exT (pres := pres) c (fun f hf => List.mem_append_left _ hf) X G (by decide)
  have y_NoLine : TgT K mg "NoLine" (.exc "NoLine") := tgT_exc x_NoLine
  have x_NoPlace : ExT K mg "NoPlace" := exT (pres := pres) c (fun f hf => List.mem_append_left _ hf) X G (by decide)
  have y_NoPlace : TgT K mg "NoPlace" (.exc "NoPlace") := tgT_exc x_NoPlace
  have x_NoWay : ExT K mg "NoWay" := exT (pres := pres) c (fun f hf => List.mem_append_left _ hf) X G (by decide)
  have y_NoWay : TgT K mg "NoWay" (.exc "NoWay") := tgT_exc x_NoWay
  have x_NoWalk : ExT K mg "NoWalk" := exT (pres := pres) c (fun f hf => List.mem_append_left _ hf) X G (by decide)
  have y_NoWalk : TgT K mg "NoWalk" (.exc "NoWalk") := tgT_exc x_NoWalk
  have x_NoText : ExT K mg "NoText" := exT (pres := pres) c (fun f hf => List.mem_append_left _ hf) X G (by decide)
  have y_NoText : TgT K mg "NoText" (.exc "NoText") := tgT_exc x_NoText
  have g_MOST_FIGURES : TgT K mg "MOST_FIGURES" (.int (1000)) := tgT_of (glT_int c X G (List.mem_append_right _ (List.mem_of_getElem? (i := 20) rfl))) rfl
  have g_FIGURES : TgT K mg "FIGURES" (.str "0123456789") := tgT_of (glT_str c X G (List.mem_append_right _ (List.mem_of_getElem? (i := 21) rfl))) rfl
  obtain ⟨fd, F⟩ := c.def_ 19 (d := dd "law" s_law []) rfl
  have e := hfa.symm.trans (He.glo_ok X G (say c (List.mem_append_right _ (List.mem_of_getElem? (i := 19) rfl))))
  cases e
  have b := FunD.bindsA (ps := ["script"]) F fun _ _ _ _ _ _ us hl => match us, hl with | [_], _ => rfl
  refine ⟨fd, fun s v => b s [v] rfl, fun base _ _ => ?_⟩
  have t_is_whole : FnT P w K mg base 1 N_is_whole := fnT_mk (k := 0) d_is_whole M S_is_whole (fun f fd F => ⟨[], .nil, F.bindsN fun _ _ _ _ _ _ us hl => match us, hl with | [_], _ => rfl⟩) rfl (by
    unfold B_is_whole
    simp only [calSs, calS, calL, cal, calF, calFL, isE, List.forall_mem_cons, List.forall_mem_nil, or_true, true_or, List.not_mem_nil, false_implies, implies_true, and_true, true_and]) C_is_whole
  have t_divisor : FnT P w K mg base 1 N_divisor := fnT_mk (k := 0) d_divisor M S_divisor (fun f fd F => ⟨[], .nil, F.bindsN fun _ _ _ _ _ _ us hl => match us, hl with | [_, _], _ => rfl⟩) rfl (by
    unfold B_divisor
    simp only [calSs, calS, calL, cal, calF, calFL, isE, List.forall_mem_cons, List.forall_mem_nil, or_true, true_or, List.not_mem_nil, false_implies, implies_true, and_true, true_and]) C_divisor
  have t_is_ratio : FnT P w K mg base 2 N_is_ratio := fnT_mk (k := 1) d_is_ratio M S_is_ratio (fun f fd F => ⟨[], .nil, F.bindsN fun _ _ _ _ _ _ us hl => match us, hl with | [_], _ => rfl⟩) rfl (by
    have h0 : FnT P w K mg base 1 N_is_whole := (t_is_whole.mono (by decide : 1 ≤ 1))
    have h1 : FnT P w K mg base 1 N_divisor := (t_divisor.mono (by decide : 1 ≤ 1))
    unfold B_is_ratio
    simp only [calSs, calS, calL, cal, calF, calFL, isE, List.forall_mem_cons, List.forall_mem_nil, or_true, true_or, List.not_mem_nil, false_implies, implies_true, h0, h1, and_true, true_and]) C_is_ratio
  have t_figures_in : FnT P w K mg base 1 N_figures_in := fnT_mk (k := 0) d_figures_in M S_figures_in (fun f fd F => ⟨[], .nil, F.bindsN fun _ _ _ _ _ _ us hl => match us, hl with | [_], _ => rfl⟩) rfl (by
    unfold B_figures_in
    simp only [calSs, calS, calL, cal, calF, calFL, isE, List.forall_mem_cons, List.forall_mem_nil, or_true, true_or, List.not_mem_nil, false_implies, implies_true, x_NoText, g_MOST_FIGURES, g_FIGURES, and_true, true_and]) C_figures_in
  have t_whole_in : FnT P w K mg base 2 N_whole_in := fnT_mk (k := 1) d_whole_in M S_whole_in (fun f fd F => ⟨[], .nil, F.bindsN fun _ _ _ _ _ _ us hl => match us, hl with | [_], _ => rfl⟩) rfl (by
    have h0 : FnT P w K mg base 1 N_figures_in := (t_figures_in.mono (by decide : 1 ≤ 1))
    unfold B_whole_in
    simp only [calSs, calS, calL, cal, calF, calFL, isE, List.forall_mem_cons, List.forall_mem_nil, or_true, true_or, List.not_mem_nil, false_implies, implies_true, h0, x_NoText, and_true, true_and]) C_whole_in
  have t_read_ratio : FnT P w K mg base 3 N_read_ratio := fnT_mk (k := 2) d_read_ratio M S_read_ratio (fun f fd F => ⟨[], .nil, F.bindsN fun _ _ _ _ _ _ us hl => match us, hl with | [_], _ => rfl⟩) rfl (by
    have h0 : FnT P w K mg base 2 N_whole_in := (t_whole_in.mono (by decide : 2 ≤ 2))
    have h1 : FnT P w K mg base 2 N_figures_in := (t_figures_in.mono (by decide : 1 ≤ 2))
    have h2 : FnT P w K mg base 2 N_is_ratio := (t_is_ratio.mono (by decide : 2 ≤ 2))
    unfold B_read_ratio
    simp only [calSs, calS, calL, cal, calF, calFL, isE, List.forall_mem_cons, List.forall_mem_nil, or_true, true_or, List.not_mem_nil, false_implies, implies_true, h0, h1, h2, x_NoText, and_true, true_and]) C_read_ratio
  have t__law_begun : FnT P w K mg base 1 N__law_begun := fnT_mk (k := 0) d__law_begun M S__law_begun (fun f fd F => ⟨[], .nil, F.bindsN fun _ _ _ _ _ _ us hl => match us, hl with | [_], _ => rfl⟩) rfl (by
    unfold B__law_begun
    simp only [calSs, calS, calL, cal, calF, calFL, isE, List.forall_mem_cons, List.forall_mem_nil, or_true, true_or, List.not_mem_nil, false_implies, implies_true, and_true, true_and]) C__law_begun
  have t__law_take : FnT P w K mg base 1 N__law_take := fnT_mkQ (k := 0) d__law_take M S__law_take (fun f fd F => ⟨[], .nil, F.bindsN fun _ _ _ _ _ _ us hl => match us, hl with | [_, _], _ => rfl⟩) rfl (by
    unfold B__law_take
    simp only [calSs, calS, calL, cal, calF, calFL, isE, List.forall_mem_cons, List.forall_mem_nil, or_true, true_or, List.not_mem_nil, false_implies, implies_true, and_true, true_and]) C__law_take
  have t__law_wide : FnT P w K mg base 2 N__law_wide := fnT_mkQ (k := 1) d__law_wide M S__law_wide (fun f fd F => ⟨[], .nil, F.bindsN fun _ _ _ _ _ _ us hl => match us, hl with | [_, _], _ => rfl⟩) rfl (by
    have h0 : FnT P w K mg base 1 N__law_take := (t__law_take.mono (by decide : 1 ≤ 1))
    unfold B__law_wide
    simp only [calSs, calS, calL, cal, calF, calFL, isE, List.forall_mem_cons, List.forall_mem_nil, or_true, true_or, List.not_mem_nil, false_implies, implies_true, h0, and_true, true_and]) C__law_wide
  have t__law_divisor : FnT P w K mg base 1 N__law_divisor := fnT_mk (k := 0) d__law_divisor M S__law_divisor (fun f fd F => ⟨[], .nil, F.bindsN fun _ _ _ _ _ _ us hl => match us, hl with | [_, _], _ => rfl⟩) rfl (by
    unfold B__law_divisor
    simp only [calSs, calS, calL, cal, calF, calFL, isE, List.forall_mem_cons, List.forall_mem_nil, or_true, true_or, List.not_mem_nil, false_implies, implies_true, and_true, true_and]) C__law_divisor
  have t__law_ratio : FnT P w K mg base 2 N__law_ratio := fnT_mk (k := 1) d__law_ratio M S__law_ratio (fun f fd F => ⟨[], .nil, F.bindsN fun _ _ _ _ _ _ us hl => match us, hl with | [_, _], _ => rfl⟩) rfl (by
    have h0 : FnT P w K mg base 1 N__law_divisor := (t__law_divisor.mono (by decide : 1 ≤ 1))
    unfold B__law_ratio
    simp only [calSs, calS, calL, cal, calF, calFL, isE, List.forall_mem_cons, List.forall_mem_nil, or_true, true_or, List.not_mem_nil, false_implies, implies_true, h0, and_true, true_and]) C__law_ratio
  have t__law_below : FnT P w K mg base 1 N__law_below := fnT_mk (k := 0) d__law_below M S__law_below (fun f fd F => ⟨[], .nil, F.bindsN fun _ _ _ _ _ _ us hl => match us, hl with | [_, _], _ => rfl⟩) rfl (by
    unfold B__law_below
    simp only [calSs, calS, calL, cal, calF, calFL, isE, List.forall_mem_cons, List.forall_mem_nil, or_true, true_or, List.not_mem_nil, false_implies, implies_true, and_true, true_and]) C__law_below
  have t__law_whole_in : FnT P w K mg base 1 N__law_whole_in := fnT_mk (k := 0) d__law_whole_in M S__law_whole_in (fun f fd F => ⟨[], .nil, F.bindsN fun _ _ _ _ _ _ us hl => match us, hl with | [_], _ => rfl⟩) rfl (by
    unfold B__law_whole_in
    simp only [calSs, calS, calL, cal, calF, calFL, isE, List.forall_mem_cons, List.forall_mem_nil, or_true, true_or, List.not_mem_nil, false_implies, implies_true, and_true, true_and]) C__law_whole_in
  have t__law_fraction : FnT P w K mg base 2 N__law_fraction := fnT_mk (k := 1) d__law_fraction M S__law_fraction (fun f fd F => ⟨[], .nil, F.bindsN fun _ _ _ _ _ _ us hl => match us, hl with | [_], _ => rfl⟩) rfl (by
    have h0 : FnT P w K mg base 1 N__law_whole_in := (t__law_whole_in.mono (by decide : 1 ≤ 1))
    have h1 : FnT P w K mg base 1 N__law_divisor := (t__law_divisor.mono (by decide : 1 ≤ 1))
    unfold B__law_fraction
    simp only [calSs, calS, calL, cal, calF, calFL, isE, List.forall_mem_cons, List.forall_mem_nil, or_true, true_or, List.not_mem_nil, false_implies, implies_true, h0, h1, and_true, true_and]) C__law_fraction
  have t__law_shown : FnT P w K mg base 1 N__law_shown := fnT_mk (k := 0) d__law_shown M S__law_shown (fun f fd F => ⟨[], .nil, F.bindsN fun _ _ _ _ _ _ us hl => match us, hl with | [_], _ => rfl⟩) rfl (by
    unfold B__law_shown
    simp only [calSs, calS, calL, cal, calF, calFL, isE, List.forall_mem_cons, List.forall_mem_nil, or_true, true_or, List.not_mem_nil, false_implies, implies_true, and_true, true_and]) C__law_shown
  have t__law_altered : FnT P w K mg base 2 N__law_altered := fnT_mkQ (k := 1) d__law_altered M S__law_altered (fun f fd F => ⟨[], .nil, F.bindsN fun _ _ _ _ _ _ us hl => match us, hl with | [_, _, _], _ => rfl⟩) rfl (by
    have h0 : FnT P w K mg base 1 N__law_take := (t__law_take.mono (by decide : 1 ≤ 1))
    unfold B__law_altered
    simp only [calSs, calS, calL, cal, calF, calFL, isE, List.forall_mem_cons, List.forall_mem_nil, or_true, true_or, List.not_mem_nil, false_implies, implies_true, h0, and_true, true_and]) C__law_altered
  have t__law_drawn : FnT P w K mg base 3 N__law_drawn := fnT_mkQ (k := 2) d__law_drawn M S__law_drawn (fun f fd F => ⟨[], .nil, F.bindsN fun _ _ _ _ _ _ us hl => match us, hl with | [_], _ => rfl⟩) rfl (by
    have h0 : FnT P w K mg base 2 N__law_take := (t__law_take.mono (by decide : 1 ≤ 2))
    have h1 : FnT P w K mg base 2 N__law_wide := (t__law_wide.mono (by decide : 2 ≤ 2))
    have h2 : FnT P w K mg base 2 N__law_ratio := (t__law_ratio.mono (by decide : 2 ≤ 2))
    unfold B__law_drawn
    simp only [calSs, calS, calL, cal, calF, calFL, isE, List.forall_mem_cons, List.forall_mem_nil, or_true, true_or, List.not_mem_nil, false_implies, implies_true, h0, h1, h2, and_true, true_and]) C__law_drawn
  have t__law_plain : FnT P w K mg base 2 N__law_plain := fnT_mkQ (k := 1) d__law_plain M S__law_plain (fun f fd F => ⟨[], .nil, F.bindsN fun _ _ _ _ _ _ us hl => match us, hl with | [_], _ => rfl⟩) rfl (by
    have h0 : FnT P w K mg base 1 N__law_take := (t__law_take.mono (by decide : 1 ≤ 1))
    unfold B__law_plain
    simp only [calSs, calS, calL, cal, calF, calFL, isE, List.forall_mem_cons, List.forall_mem_nil, or_true, true_or, List.not_mem_nil, false_implies, implies_true, h0, and_true, true_and]) C__law_plain
  have t__law_told_of : FnT P w K mg base 4 N__law_told_of := fnT_mk (k := 3) d__law_told_of M S__law_told_of (fun f fd F => ⟨[], .nil, F.bindsN fun _ _ _ _ _ _ us hl => match us, hl with | [_], _ => rfl⟩) rfl (by
    have h0 : FnT P w K mg base 3 N_read_ratio := (t_read_ratio.mono (by decide : 3 ≤ 3))
    unfold B__law_told_of
    simp only [calSs, calS, calL, cal, calF, calFL, isE, List.forall_mem_cons, List.forall_mem_nil, or_true, true_or, List.not_mem_nil, false_implies, implies_true, h0, x_LeashError, y_NoLine, y_NoPlace, y_NoRatio, y_NoWalk, y_NoWay, y_NoText, and_true, true_and]) C__law_told_of
  exact fn_ok (k := 4) F M S_law (by
    have h0 : FnT P w K mg base 4 N__law_begun := (t__law_begun.mono (by decide : 1 ≤ 4))
    have h1 : FnT P w K mg base 4 N__law_altered := (t__law_altered.mono (by decide : 2 ≤ 4))
    have h2 : FnT P w K mg base 4 N__law_shown := (t__law_shown.mono (by decide : 1 ≤ 4))
    have h3 : FnT P w K mg base 4 N__law_drawn := (t__law_drawn.mono (by decide : 3 ≤ 4))
    have h4 : FnT P w K mg base 4 N__law_take := (t__law_take.mono (by decide : 1 ≤ 4))
    have h5 : FnT P w K mg base 4 N__law_plain := (t__law_plain.mono (by decide : 2 ≤ 4))
    have h6 : FnT P w K mg base 4 N__law_fraction := (t__law_fraction.mono (by decide : 2 ≤ 4))
    have h7 : FnT P w K mg base 4 N__law_told_of := (t__law_told_of.mono (by decide : 4 ≤ 4))
    unfold B_law
    simp only [calSs, calS, calL, cal, calF, calFL, isE, List.forall_mem_cons, List.forall_mem_nil, or_true, true_or, List.not_mem_nil, false_implies, implies_true, h0, h1, h2, h3, h4, h5, h6, h7, and_true, true_and]) C_law
end OL.LW
namespace OL.LW
open PySem PySem.Spec PyProof.Rows L2
theorem whole_of {x : D} (h : (tyD x).isSome = true) : F_is_whole [x] = .ok (.bl (isI x)) := by
  rw [D_is_whole]
  cases x <;> first | (simp -dsimp -implicitDefEqProofs [B_is_whole, isT, isI, isiD, tyD]; done) | cases h
@[simp] theorem whole_int (i : Int) : F_is_whole [.int i] = .ok (.bl true) := whole_of rfl
@[simp] theorem whole_non : F_is_whole [.non] = .ok (.bl false) := whole_of rfl
@[simp] theorem whole_bl (b : Bool) : F_is_whole [.bl b] = .ok (.bl false) := whole_of rfl
@[simp] theorem whole_str (b : Str) : F_is_whole [.str b] = .ok (.bl false) := whole_of rfl
@[simp] theorem whole_tup (b : List D) : F_is_whole [.tup b] = .ok (.bl false) := whole_of rfl
@[simp] theorem whole_lst (b : List D) : F_is_whole [.lst b] = .ok (.bl false) := whole_of rfl
theorem div_go : ∀ (n : Nat) (a b : Int), a.toNat = n → 0 ≤ a → 0 ≤ b →
    wlO (.cmp .gt (.var 0) (.lit (.int 0))) [.par 0 1 (.bin .mod (.var 1) (.var 0)) (.var 0)] [.v (.int a), .v (.int b)] = .nx [.v (.int 0), .v (.int (Int.gcd a b))] := by
  intro n
  induction n using Nat.strongRecOn with
  | _ n ih =>
    intro a b hn ha hb
    by_cases h : a = 0
    · subst h
      rw [wl_stop (by simp -dsimp -implicitDefEqProofs)]
      simp [Int.natAbs_of_nonneg hb]
    · have h0 : 0 < a := by omega
      rw [wl_nx (ρ' := [.v (.int (b.fmod a)), .v (.int a)]) (by simp -dsimp -implicitDefEqProofs [h0]) (by simp -dsimp -implicitDefEqProofs [h])]
      have e : b.fmod a = b % a := Int.fmod_eq_emod_of_nonneg b ha
      rw [e]
      rw [ih (b % a).toNat (by have := Int.emod_lt_of_pos b h0; have := Int.emod_nonneg b h; omega) (b % a) a rfl (Int.emod_nonneg b h) ha]
      have g : Int.gcd (b % a) a = Int.gcd a b := emod_gcd b a hb
      rw [g]
theorem divisor_ok (a b : Int) (hb : 0 ≤ b) : F_divisor [.int a, .int b] = .ok (.int (Int.gcd a b)) := by
  have g : Int.gcd (a.natAbs : Int) b = Int.gcd a b := by unfold Int.gcd; rw [Int.natAbs_natCast]
  rw [D_divisor]
  simp -dsimp -implicitDefEqProofs [B_divisor, div_go _ _ b rfl (Int.natCast_nonneg a.natAbs) hb, g]
theorem ratio_ok {a b : Int} (h : b ≠ 0) (hb : b.natAbs < 2 ^ 9000) : F_ratio [.int a, .int b] = .ok (.tup [.int (rn a b), .int (rd a b)]) := by
  obtain ⟨o1, o2⟩ := dvo_gcd (a := a) h hb
  have e : Int.gcd a (b.natAbs : Int) = Int.gcd a b := by unfold Int.gcd; rw [Int.natAbs_natCast]
  rw [D_ratio]
  by_cases hn : b < 0
  · simp -dsimp -implicitDefEqProofs [B_ratio, h, hn, divisor_ok a (b.natAbs : Int) (by omega), e, rn, rd, show divOk (-(Int.gcd a b : Int)) = true by rw [← Int.zero_sub]; exact o2]
  · simp -dsimp -implicitDefEqProofs [B_ratio, h, hn, divisor_ok a (b.natAbs : Int) (by omega), e, rn, rd, o1]
@[simp] theorem ratio_no (a : Int) : F_ratio [.int a, .int 0] = .exc "NoRatio" := by
  rw [D_ratio]
  simp -dsimp -implicitDefEqProofs [B_ratio]
theorem ratio_fr {a b : Int} (h : b ≠ 0) (hb : b.natAbs < 2 ^ 9000) : F_ratio [.int a, .int b] = .ok (frD (Rat.divInt a b)) := by
  rw [ratio_ok h hb]
  obtain ⟨e1, e2⟩ := rat_eq (a := a) h
  unfold frD
  rw [e1, e2]
@[simp] theorem ratio_s {a b : Int} {m n : Nat} [x : Bi a m] [y : Bi b n] (h : b ≠ 0) (hb : n ≤ 9000) : F_ratio [.int a, .int b] = .ok (frD (Rat.divInt a b)) :=
  ratio_fr h (lt_up y.le hb)
theorem ratio_bad1 {x y : D} (h : (tyD x).isSome = true) (h2 : isI x = false) : F_ratio [x, y] = .exc "NoRatio" := by
  rw [D_ratio]
  simp -dsimp -implicitDefEqProofs [B_ratio, whole_of h, h2]
theorem ratio_bad2 {y : D} (i : Int) (h : (tyD y).isSome = true) (h2 : isI y = false) : F_ratio [.int i, y] = .exc "NoRatio" := by
  rw [D_ratio]
  simp -dsimp -implicitDefEqProofs [B_ratio, whole_of h, h2]
theorem isratio_two {x y : D} (hx : (tyD x).isSome = true) (hy : (tyD y).isSome = true) : F_is_ratio [.tup [x, y]] = .ok (.bl (frB x y)) := by
  rw [D_is_ratio]
  by_cases hi : isI x = true
  · by_cases hj : isI y = true
    · cases x <;> (try (cases hi; done))
      cases y <;> (try (cases hj; done))
      rename_i n d
      show _ = R.ok (D.bl (decide (1 ≤ d) && decide (Int.gcd n d = 1)))
      by_cases h1 : d < 1
      · simp -dsimp -implicitDefEqProofs [B_is_ratio, isT, h1, show ¬ 1 ≤ d by omega]
      · have c := divisor_ok n d (by omega)
        simp -dsimp -implicitDefEqProofs [B_is_ratio, isT, h1, show 1 ≤ d by omega, c]
        omega
    · have e : isI y = false := by simpa using hj
      have wx := whole_of hx
      have wy := whole_of hy
      rw [hi] at wx
      rw [e] at wy
      rw [frB_r e]
      simp -dsimp -implicitDefEqProofs [B_is_ratio, isT, wx, wy]
  · have e : isI x = false := by simpa using hi
    have wx := whole_of hx
    rw [e] at wx
    rw [frB_l e]
    simp -dsimp -implicitDefEqProofs [B_is_ratio, isT, wx]
theorem isratio_not {d : D} (h : (tyD d).isSome = true) (hd : ∀ x y, d ≠ .tup [x, y]) : F_is_ratio [d] = .ok (.bl false) := by
  rw [D_is_ratio]
  cases d <;> first | (simp -dsimp -implicitDefEqProofs [B_is_ratio, isT, isiD, tyD]; done) | (cases h; done) | skip
  rename_i xs
  match xs, hd with
  | [], _ => simp -dsimp -implicitDefEqProofs [B_is_ratio, isT]
  | [x], _ => simp -dsimp -implicitDefEqProofs [B_is_ratio, isT]
  | [x, y], hd => exact absurd rfl (hd x y)
  | x :: y :: z :: r, _ => simp -dsimp -implicitDefEqProofs [B_is_ratio, isT, show ¬ (r.length : Int) + 1 + 1 + 1 = 2 by omega]
@[simp] theorem isratio_fr (q : Rat) : F_is_ratio [frD q] = .ok (.bl true) := by
  have r := isratio_two (x := .int q.num) (y := .int q.den) rfl rfl
  have g : Int.gcd q.num q.den = 1 := q.reduced
  have d := den_pos q
  rw [show frD q = .tup [.int q.num, .int q.den] from rfl, r]
  simp [frB, g, show (1 : Int) ≤ q.den by omega]
section
variable {p q : Rat} {a b c d : Nat} [x : Bq p a b] [y : Bq q c d]
theorem bi_dd (p q : Rat) [x : Bq p a b] [y : Bq q c d] (h : b + d < 9000) : ((p.den : Int) * q.den).natAbs < 2 ^ 9000 := Nat.lt_of_le_of_lt (dd_le p q) (Nat.pow_lt_pow_right (by decide) h)
@[simp] theorem plus_s (h : b + d < 9000) (h2 : a + d ≤ 400000) (h3 : c + b ≤ 400000) : F_plus [frD p, frD q] = .ok (frD (p + q)) := by
  rw [D_plus]
  simp -dsimp -implicitDefEqProofs [B_plus, mulOk_b, show a + (d + 1) ≤ 900000 by omega, show c + (b + 1) ≤ 900000 by omega, show b + 1 + (d + 1) ≤ 900000 by omega, ratio_fr (dd_ne p q) (bi_dd p q h), rat_add]
@[simp] theorem minus_s (h : b + d < 9000) (h2 : a + d ≤ 400000) (h3 : c + b ≤ 400000) : F_minus [frD p, frD q] = .ok (frD (p - q)) := by
  rw [D_minus]
  simp -dsimp -implicitDefEqProofs [B_minus, mulOk_b, show a + (d + 1) ≤ 900000 by omega, show c + (b + 1) ≤ 900000 by omega, show b + 1 + (d + 1) ≤ 900000 by omega, ratio_fr (dd_ne p q) (bi_dd p q h), rat_sub]
@[simp] theorem times_s (h : b + d < 9000) (h2 : a + c ≤ 400000) : F_times [frD p, frD q] = .ok (frD (p * q)) := by
  rw [D_times]
  simp -dsimp -implicitDefEqProofs [B_times, mulOk_b, show a + c ≤ 900000 by omega, show b + 1 + (d + 1) ≤ 900000 by omega, ratio_fr (dd_ne p q) (bi_dd p q h), rat_mul]
@[simp] theorem over_s (h : b + c < 9000) (h2 : a + d ≤ 400000) (h0 : q ≠ 0) : F_over [frD p, frD q] = .ok (frD (p / q)) := by
  rw [D_over]
  have hd := den_pos p
  have hn : q.num ≠ 0 := fun z => h0 (Rat.num_eq_zero.mp z)
  have e : (p.den : Int) * q.num ≠ 0 := Int.mul_ne_zero (by omega) hn
  have l : ((p.den : Int) * q.num).natAbs < 2 ^ 9000 := by
    rw [Int.natAbs_mul]
    exact Nat.lt_of_le_of_lt (mul_le2 (den_abs p) (Nat.le_of_lt y.nu)) (Nat.pow_lt_pow_right (by decide) h)
  simp -dsimp -implicitDefEqProofs [B_over, mulOk_b, show a + (d + 1) ≤ 900000 by omega, show b + 1 + c ≤ 900000 by omega, ratio_fr e l, rat_div]
@[simp] theorem over_0 {p : Rat} {a b : Nat} [x : Bq p a b] (h : a ≤ 9000) (h2 : b ≤ 9000) : F_over [frD p, frD 0] = .exc "NoRatio" := by
  rw [D_over]
  simp -dsimp -implicitDefEqProofs [B_over, mulOk_b, show a + 4 ≤ 900000 by omega, show b + 1 + 4 ≤ 900000 by omega]
@[simp] theorem less_s (h : a + d ≤ 400000) (h2 : c + b ≤ 400000) : F_less [frD p, frD q] = .ok (.bl (decide (p < q))) := by
  rw [D_less]
  simp -dsimp -implicitDefEqProofs [B_less, mulOk_b, show a + (d + 1) ≤ 900000 by omega, show c + (b + 1) ≤ 900000 by omega, Rat.lt_iff]
@[simp] theorem floor_s {p : Rat} {a b : Nat} [x : Bq p a b] (h : b < 9000) : F_floor_of [frD p] = .ok (.int p.floor) := by
  rw [D_floor_of]
  simp -dsimp -implicitDefEqProofs [B_floor_of, divOk_b, show b + 1 ≤ 9000 by omega, floor_fdiv]
end
end OL.LW
namespace OL.LW
open PySem PySem.Spec PyProof.Rows L2
@[simp] theorem sti_0 (x d : D) (xs : List D) (f : List D → O) : stiR (x :: xs) d (.int 0) f = f (d :: xs) := by
  show (match ixN (xs.length + 1) ((0 : Nat) : Int) with | some j => f ((x :: xs).set j d) | none => .bad) = _
  rw [ixN_of (by omega)]
  rfl
@[simp] theorem sti_1 (x y d : D) (xs : List D) (f : List D → O) : stiR (x :: y :: xs) d (.int 1) f = f (x :: d :: xs) := by
  show (match ixN (xs.length + 1 + 1) ((1 : Nat) : Int) with | some j => f ((x :: y :: xs).set j d) | none => .bad) = _
  rw [ixN_of (by omega)]
  rfl
theorem sti_n {ds : List D} {d : D} {k : Nat} (h : k < ds.length) (f : List D → O) : stiR ds d (.int (k : Int)) f = f (ds.set k d) := by
  show (match ixN ds.length (k : Int) with | some j => f (ds.set j d) | none => .bad) = _
  rw [ixN_of h]
theorem fdiv_nn (n m : Int) (h : 0 ≤ n) (hm : 0 < m) : 0 ≤ n.fdiv m := Int.fdiv_nonneg h (by omega)
/-- a pot: what is drawn from -/
abbrev Pot := Int × Nat × Int
def potD (p : Pot) : List D := [.int p.1, .int (p.2.1 : Int), .int p.2.2]
structure PO (c : Nat) (p : Pot) : Prop where
  r : 0 ≤ p.1
  k : p.2.1 ≤ c
theorem PO.up {c d : Nat} {p : Pot} (h : PO c p) (l : c ≤ d) : PO d p := ⟨h.r, Nat.le_trans h.k l⟩
theorem begun_ok (c : Int) : ∃ p, F__law_begun [.int c] = .ok (.lst (potD p)) ∧ PO 0 p := by
  have p18 : pwOk 10 18 = true := by decide
  by_cases h : (1000000000000000000 : Int) ≤ (c.natAbs : Int)
  · refine ⟨((c.natAbs : Int) - 1000000000000000000 + 1, 0, c.fmod 2147483647), ?_, by show 0 ≤ (c.natAbs : Int) - 1000000000000000000 + 1; omega, Nat.le_refl _⟩
    simp -dsimp -implicitDefEqProofs [D__law_begun, B__law_begun, p18, h, potD]
  · exact ⟨(0, 0, c.fmod 2147483647), by simp -dsimp -implicitDefEqProofs [D__law_begun, B__law_begun, p18, h, potD], Int.le_refl _, Nat.le_refl _⟩
theorem take_ok {c : Nat} {p : Pot} (h : PO c p) (hc : c ≤ 1000000) {s : Int} (h0 : 0 < s) (hs : s.natAbs < 2 ^ 9000) : ∃ v p', F__law_take [.lst (potD p), .int s] = .ok (.tup [.int v, .lst (potD p')]) ∧ 0 ≤ v ∧ v < s ∧ PO (c + 1) p' := by
  obtain ⟨r, k, m⟩ := p
  have hr : 0 ≤ r := h.r
  have hk : k ≤ c := h.k
  have dv : divOk s = true := divOk_of (by omega) hs
  have hs0 : ¬ s = 0 := by omega
  have d8 : divOk 8 = true := by decide
  by_cases g : 0 < r
  · have b := fmod_b r (m := s) h0
    exact ⟨r.fmod s, (r.fdiv s, k, m), by simp -dsimp -implicitDefEqProofs [D__law_take, B__law_take, potD, g, dv, hs0], b.1, b.2, fdiv_nn r s hr h0, Nat.le_succ_of_le hk⟩
  · have e1 : ((k : Int) + 1) = ((k + 1 : Nat) : Int) := by omega
    have m1 : mulOk 977 ((k : Int) + 1) = true := mulOk_l (by decide)
    have m2 : mulOk (977 * ((k : Int) + 1)) ((k : Int) + 1) = true := mulOk_r (by omega)
    have m3 : mulOk 40693 ((k : Int) + 1) = true := mulOk_l (by decide)
    have b1 := fmod_b (m + 977 * ((k : Int) + 1) * ((k : Int) + 1) + 40693 * ((k : Int) + 1) + 1) (m := 2147483647) (by decide)
    generalize hx : (m + 977 * ((k : Int) + 1) * ((k : Int) + 1) + 40693 * ((k : Int) + 1) + 1).fmod 2147483647 = x at *
    have m4 : mulOk x x = true := mulOk_l (by omega)
    have b2 := fmod_b (x * x) (m := 1000000007) (by decide)
    generalize hy : (x * x).fmod 1000000007 = y at *
    have m5 : mulOk y 48271 = true := mulOk_l (by omega)
    have b3 := fmod_b ((((y * 48271).fmod 998244353).fdiv 8)) (m := s) h0
    refine ⟨(((y * 48271).fmod 998244353).fdiv 8).fmod s, (r, k + 1, m), ?_, b3.1, b3.2, hr, Nat.succ_le_succ hk⟩
    simp -dsimp -implicitDefEqProofs [D__law_take, B__law_take, potD, g, dv, hs0, m1, m2, m3, hx, m4, hy, m5, d8]
@[simp] theorem pot_0 (p : Pot) : (potD p)[0]? = some (D.int p.1) := rfl
theorem wide_ok {c : Nat} {p : Pot} (h : PO c p) (hc : c ≤ 900000) {s : Int} (h0 : 0 < s) (hs : s.natAbs < 2 ^ 200) : ∃ v p', F__law_wide [.lst (potD p), .int s] = .ok (.tup [.int v, .lst (potD p')]) ∧ 0 ≤ v ∧ v < s ∧ PO (c + 4) p' := by
  have hs' : s.natAbs < 2 ^ 9000 := Nat.lt_of_lt_of_le hs (Nat.pow_le_pow_right (by decide) (by decide))
  have p6 : pwOk 10 6 = true := by decide
  by_cases g : 0 < p.1 ∨ s < 1000000
  · obtain ⟨v, p', e, a, b, k⟩ := take_ok h (by omega) h0 hs'
    refine ⟨v, p', ?_, a, b, k.up (by omega)⟩
    by_cases g1 : 0 < p.1
    · simp -dsimp -implicitDefEqProofs [D__law_wide, B__law_wide, g1, N__law_take, e]
    · have g2 : s < 1000000 := by omega
      simp -dsimp -implicitDefEqProofs [D__law_wide, B__law_wide, g1, g2, p6, N__law_take, e]
  · have g1 : ¬ 0 < p.1 := fun z => g (.inl z)
    have g2 : ¬ s < 1000000 := fun z => g (.inr z)
    obtain ⟨P, hP⟩ : ∃ P : D → List D → Prop, P = fun v out => ∃ (n : Int) (p' : Pot), v = .int (n.fmod s) ∧ out = potD p' ∧ PO (c + 4) p' := ⟨_, rfl⟩
    have goal : ∃ v out, F__law_wide [.lst (potD p), .int s] = .ok (.tup [v, .lst out]) ∧ P v out := by
      rw [D__law_wide]
      apply endQ_ex
      obtain ⟨I, hI⟩ : ∃ I : List D → En → Prop, I = fun r ρ => ∃ (n : Int) (p' : Pot) (s3 : Sl), ρ = [.q (potD p'), .v (.int s), .v (.int n), s3] ∧ PO (c + 4 - r.length) p' ∧ r.length ≤ 4 ∧ ∀ d ∈ r, ∃ k : Nat, d = .int k := ⟨_, rfl⟩
      simp -dsimp -implicitDefEqProofs [B__law_wide, g1, g2, p6, rng_1]
      refine fo_sq I ?_ ?_ ?_
      · rw [hI]
        refine ⟨0, p, _, rfl, ⟨h.r, ?_⟩, by simp, fun d hd => ?_⟩
        · have := h.k; simp; omega
        · obtain ⟨k, _, rfl⟩ := List.mem_map.mp hd
          exact ⟨k, rfl⟩
      · intro d r ρ i
        rw [hI] at i
        obtain ⟨n, p', s3, rfl, k, l, hr⟩ := i
        rw [List.length_cons] at k l
        obtain ⟨t, rfl⟩ := hr d List.mem_cons_self
        obtain ⟨v, p2, e, a, b, k2⟩ := take_ok k (by omega) (s := 1000003) (by decide) (by decide)
        have m1 : mulOk n 1000003 = true := mulOk_r (by decide)
        simp -dsimp -implicitDefEqProofs [N__law_take, e, m1]
        rw [hI]
        exact ⟨_, p2, _, rfl, k2.up (by omega), by omega, fun d h => hr d (List.mem_cons_of_mem _ h)⟩
      · intro ρ i
        rw [hI] at i
        obtain ⟨n, p', s3, rfl, k, _, _⟩ := i
        have hs0 : ¬ s = 0 := by omega
        simp -dsimp -implicitDefEqProofs [hs0]
        rw [hP]
        exact ⟨n, p', rfl, rfl, k⟩
    obtain ⟨v, out, e, i⟩ := goal
    rw [hP] at i
    obtain ⟨n, p', rfl, rfl, k⟩ := i
    have b := fmod_b n (m := s) h0
    exact ⟨_, p', e, b.1, b.2, k⟩
theorem ix4 {v x y z w : Int} (a : 0 ≤ v) (b : v < 4) : ∃ k : Int, ixD (.lst [.int x, .int y, .int z, .int w]) (.int v) = .ok (.int k) ∧ (k = x ∨ k = y ∨ k = z ∨ k = w) := by
  have : v = 0 ∨ v = 1 ∨ v = 2 ∨ v = 3 := by omega
  rcases this with rfl | rfl | rfl | rfl
  · exact ⟨x, by simp, .inl rfl⟩
  · exact ⟨y, by simp, .inr (.inl rfl)⟩
  · exact ⟨z, by simp, .inr (.inr (.inl rfl))⟩
  · exact ⟨w, by simp, .inr (.inr (.inr rfl))⟩
end OL.LW
namespace OL.LW
open PySem PySem.Spec PyProof.Rows L2
/-! ### texts as rows of signs -/
def T (l : List Nat) : Str := ⟨l.toArray⟩
theorem tl_T (l : List Nat) : TL.tl (T l) = l := rfl
theorem T_tl (s : Str) : T (TL.tl s) = s := TL.mk_tl s
@[simp] theorem T_len (l : List Nat) : (T l).length = l.length := by rw [TL.len_tl, tl_T]
theorem T_inj {a b : List Nat} : T a = T b ↔ a = b := ⟨fun h => by rw [← tl_T a, h, tl_T], fun h => by rw [h]⟩
theorem T_app (l m : List Nat) : T l ++ T m = T (l ++ m) := TL.ext_tl (by rw [TL.tl_append]; rfl)
/-- signs that there are -/
def Scp (l : List Nat) : Prop := ∀ c ∈ l, c < 0x110000
theorem Scp.app {l m : List Nat} (h : Scp l) (h2 : Scp m) : Scp (l ++ m) := fun c hc => (List.mem_append.mp hc).elim (h c) (h2 c)
theorem Scp.sub {l m : List Nat} (h : Scp l) (s : ∀ c ∈ m, c ∈ l) : Scp m := fun c hc => h c (s c hc)
theorem shp_T {l : List Nat} (h : Scp l) : shp (.str (T l)) = true := by
  unfold shp
  show SeqAt.shaped (.str (T l)) = true
  have e : (T l).cps.all (· < 0x110000) = true := by
    unfold T
    rw [List.all_toArray, List.all_eq_true]
    intro c hc
    exact decide_eq_true (h c hc)
  unfold SeqAt.shaped
  rw [Bool.and_eq_true]
  refine ⟨?_, ?_⟩
  · unfold PyData.canLay0
    exact e
  · simp [PyData.depth]
theorem eqd_TT (a b : List Nat) : eqd (.str (T a)) (.str (T b)) = decide (a = b) := by
  unfold eqd toP PyData.eqv
  rw [Bool.eq_iff_iff]
  simp [T_inj]
@[simp] theorem eq_TT {a b : List Nat} (ha : Scp a) (hb : Scp b) : cpD .eq (.str (T a)) (.str (T b)) = .ok (.bl (decide (a = b))) := by
  show (if shp (.str (T a)) && shp (.str (T b)) then (R.ok (D.bl (eqd (.str (T a)) (.str (T b)))) : R D) else .bad) = _
  rw [eqd_TT, shp_T ha, shp_T hb]; rfl
@[simp] theorem ne_TT {a b : List Nat} (ha : Scp a) (hb : Scp b) : cpD .ne (.str (T a)) (.str (T b)) = .ok (.bl (!decide (a = b))) := by
  show (if shp (.str (T a)) && shp (.str (T b)) then (R.ok (D.bl (!eqd (.str (T a)) (.str (T b)))) : R D) else .bad) = _
  rw [eqd_TT, shp_T ha, shp_T hb]; rfl
theorem add_TT {l m : List Nat} (h : l.length + m.length ≤ 16777216) : binD .add (.str (T l)) (.str (T m)) = .ok (.str (T (l ++ m))) := by
  show (if (T l).length + (T m).length ≤ 16777216 then R.ok (D.str (T l ++ T m)) else .bad) = _
  rw [T_len, T_len, if_pos h, T_app]
theorem len_T {l : List Nat} (h : l.length ≤ 16777216) : bltD .len [.str (T l)] = .ok (.int l.length) := by
  show (if (T l).length ≤ 16777216 then R.ok (D.int (T l).length) else .bad) = _
  rw [T_len, if_pos h]
def sgn (c : Nat) : D := .str (T [c])
theorem items_T (l : List Nat) : itemsOf (.str (T l)) = .ok (l.map sgn) := rfl
theorem ix_T {l : List Nat} {c : Nat} {r : List Nat} (h : l.length ≤ 16777216) (e : l = c :: r) : ixD (.str (T l)) (.int 0) = .ok (sgn c) := by
  show (if (T l).length ≤ 16777216 then (match atI (TL.tl (T l)) 0 with | some c => R.ok (D.str ⟨#[c]⟩) | none => .bad) else .bad) = _
  rw [T_len, if_pos h, tl_T, e]
  have z : atI (c :: r) 0 = some c := atI_nat (i := 0) rfl
  rw [z]
  rfl
@[simp] theorem lit_0 : ("0" : Str) = T [48] := by decide +kernel
@[simp] theorem lit_m : ("-" : Str) = T [45] := by decide +kernel
@[simp] theorem lit_e : ("" : Str) = T [] := by decide +kernel
@[simp] theorem lit_s : ("/" : Str) = T [47] := by decide +kernel
@[simp] theorem lit_c : ("," : Str) = T [44] := by decide +kernel
@[simp] theorem lit_d : (":" : Str) = T [58] := by decide +kernel
@[simp] theorem lit_b : (" " : Str) = T [32] := by decide +kernel
def digB (c : Nat) : Bool := decide (48 ≤ c) && decide (c ≤ 57)
@[simp] theorem nin_fig (c : Nat) : cpD .nin (sgn c) (.str "0123456789") = .ok (.bl (!digB c)) := by
  have e : ("0123456789" : Str) = T [48, 49, 50, 51, 52, 53, 54, 55, 56, 57] := by decide +kernel
  rw [e]
  show R.ok (D.bl (!(!(Builtin.Str.occurrences (T [48, 49, 50, 51, 52, 53, 54, 55, 56, 57]) ⟨#[c]⟩ 0 (T [48, 49, 50, 51, 52, 53, 54, 55, 56, 57]).length 1).isEmpty))) = _
  rw [PySem.StrLaws.found_one]
  show R.ok (D.bl (!decide (c ∈ [48, 49, 50, 51, 52, 53, 54, 55, 56, 57]))) = _
  have e2 : decide (c ∈ [48, 49, 50, 51, 52, 53, 54, 55, 56, 57]) = digB c := by
    unfold digB
    rw [Bool.eq_iff_iff]
    simp only [List.mem_cons, List.not_mem_nil, or_false, decide_eq_true_eq, Bool.and_eq_true]
    omega
  rw [e2]
theorem all_digits {l : List Nat} (h : l.all digB = true) : NumText.AllDigits l := fun c hc => by
  have := List.all_eq_true.mp h c hc
  unfold digB at this
  simp at this
  exact this
theorem dig_all {l : List Nat} (h : NumText.AllDigits l) : l.all digB = true := List.all_eq_true.mpr fun c hc => by
  have := h c hc
  unfold digB
  simp
  exact this
theorem int_T {l : List Nat} (h : l.all digB = true) (h1 : l ≠ []) (h2 : l.length ≤ 4300) : bltD .int [.str (T l)] = .ok (.int (NumText.digitsVal l : Nat)) := by
  have e : PySem.intText? (T l) = some ((NumText.digitsVal l : Nat) : Int) := PySem.intText_digits (x := T l) (all_digits h) h1 (by rw [T_len]; omega)
  show (match PySem.intText? (T l) with | some n => if (T l).length ≤ 4300 then R.ok (D.int n) else .bad | none => .bad) = _
  rw [e, T_len]
  exact if_pos h2
/-! ### numbers -/
/-- the number that figures write -/
def figR (l : List Nat) : Option Nat := if l ≠ [] ∧ l.length ≤ 1000 ∧ l.all digB = true ∧ (l.head? = some 48 → l = [48]) then some (NumText.digitsVal l) else none
def optE (o : Option D) : R D := match o with | some d => .ok d | none => .exc "NoText"
noncomputable def figB : List St := [.ife (.cmp .nin (.var 1) (.glob "FIGURES" (.str "0123456789"))) [.rai "NoText"] []]
theorem fig_loop (d : D) : ∀ (m : List Nat) (s : Sl), s = .n ∨ (∃ x, s = .v x) → (m.all digB = true ∧ ∃ s', foO (.nm 1) figB (m.map sgn) [.v d, s] = .nx [.v d, s']) ∨ (m.all digB = false ∧ ∃ ρ, foO (.nm 1) figB (m.map sgn) [.v d, s] = .exc "NoText" ρ)
  | [], s, _ => .inl ⟨rfl, s, rfl⟩
  | c :: r, s, hs => by
    have e : setT (.nm 1) (sgn c) [.v d, s] = .ok [.v d, .v (sgn c)] := by
      rcases hs with rfl | ⟨x, rfl⟩ <;> simp -dsimp -implicitDefEqProofs []
    cases hc : digB c with
    | true =>
      have b : exs [.v d, .v (sgn c)] figB = .nx [.v d, .v (sgn c)] := by simp -dsimp -implicitDefEqProofs [figB, hc]
      rw [List.map_cons, fo_nx e b, List.all_cons, hc, Bool.true_and]
      exact fig_loop d r _ (.inr ⟨_, rfl⟩)
    | false =>
      have b : exs [.v d, .v (sgn c)] figB = .exc "NoText" [.v d, .v (sgn c)] := by simp -dsimp -implicitDefEqProofs [figB, hc]
      rw [List.map_cons, fo_exc e b, List.all_cons, hc, Bool.false_and]
      exact .inr ⟨rfl, _, rfl⟩
/-- no bound is wanted any more: the model reads whole numbers of up to 4300 figures -/
def Lo (_ : List Nat) : Prop := True
theorem fig_ok {l : List Nat} (hs : Scp l) (hl : l.length ≤ 16777216) (h : Lo l) : F_figures_in [.str (T l)] = optE ((figR l).map fun n => .int n) := by
  have s0 : Scp [] := fun c hc => by cases hc
  have s48 : Scp [48] := fun c hc => by rw [List.mem_singleton.mp hc]; decide
  have e48 : cpD .eq (sgn 48) (.str (T [48])) = .ok (.bl true) := by unfold sgn; rw [eq_TT s48 s48]; rfl
  rw [D_figures_in]
  by_cases h1 : l = []
  · have : figR l = none := if_neg fun z => z.1 h1
    rw [this]
    simp -dsimp -implicitDefEqProofs [B_figures_in, hs, s0, h1, optE]
  by_cases h2 : l.length ≤ 1000
  · rcases fig_loop (.str (T l)) l .n (.inl rfl) with ⟨a, s', e⟩ | ⟨a, ρ, e⟩
    · unfold figB at e
      obtain ⟨c, r, ec⟩ : ∃ c r, l = c :: r := by
        cases l with
        | nil => exact absurd rfl h1
        | cons c r => exact ⟨c, r, rfl⟩
      have sc : Scp [c] := hs.sub fun x hx => by rw [ec]; rw [List.mem_singleton.mp hx]; exact List.mem_cons_self
      have ix := ix_T hl ec
      have ec48 : cpD .eq (sgn c) (.str (T [48])) = .ok (.bl (decide (c = 48))) := by
        unfold sgn
        rw [eq_TT sc s48]
        simp
      have hd : l.head? = some c := by rw [ec]; rfl
      have ln := len_T hl
      have it := items_T l
      have gt : ¬ (1000 : Int) < (l.length : Int) := by omega
      by_cases h3 : c = 48 ∧ l ≠ [48]
      · have : figR l = none := if_neg fun z => h3.2 (z.2.2.2 (by rw [hd, h3.1]))
        rw [this]
        simp -dsimp -implicitDefEqProofs [B_figures_in, hs, s0, s48, h1, ln, gt, it, e, ix, e48, h3, optE]
      · have fr : figR l = some (NumText.digitsVal l) := if_pos ⟨h1, h2, a, fun z => by
          rw [hd] at z
          injection z with z
          by_cases w : l = [48]
          · exact w
          · exact absurd ⟨z, w⟩ h3⟩
        have iv := int_T a h1 (by omega)
        rw [fr]
        by_cases h4 : c = 48
        · have h5 : l = [48] := by
            by_cases w : l = [48]
            · exact w
            · exact absurd ⟨h4, w⟩ h3
          have hne : cpD .ne (.str (T l)) (.str (T [48])) = .ok (.bl false) := by rw [ne_TT hs s48, decide_eq_true h5]; rfl
          simp -dsimp -implicitDefEqProofs [B_figures_in, hs, s0, s48, h1, ln, gt, it, e, ix, e48, h4, hne, optE, iv]
        · simp -dsimp -implicitDefEqProofs [B_figures_in, hs, s0, s48, h1, ln, gt, it, e, ix, ec48, h4, optE, iv]
    · have : figR l = none := if_neg fun z => by rw [a] at z; cases z.2.2.1
      unfold figB at e
      have ln := len_T hl
      have it := items_T l
      have gt : ¬ (1000 : Int) < (l.length : Int) := by omega
      rw [this]
      simp -dsimp -implicitDefEqProofs [B_figures_in, hs, s0, h1, ln, gt, it, e, optE]
  · have : figR l = none := if_neg fun z => h2 z.2.1
    have ln := len_T hl
    have gt : (1000 : Int) < (l.length : Int) := by omega
    rw [this]
    simp -dsimp -implicitDefEqProofs [B_figures_in, hs, s0, h1, ln, gt, optE]
end OL.LW
namespace OL.LW
open PySem PySem.Spec PyProof.Rows L2
/-! ### slices, parts -/
theorem sl_T {l : List Nat} (h : l.length ≤ 16777216) (lo hi : Option Int) : slD (.str (T l)) lo hi = .ok (.str (T ((l.drop (HT.sIx l.length 0 lo)).take (HT.sIx l.length l.length hi - HT.sIx l.length 0 lo)))) := by
  show (if (T l).length ≤ 16777216 then R.ok (D.str (cutS (T l) lo hi)) else .bad) = _
  rw [T_len, if_pos h]
  unfold cutS
  rw [T_len]
  rfl
theorem sl_1 {l : List Nat} (h : l.length ≤ 16777216) : slD (.str (T l)) none (some 1) = .ok (.str (T (l.take 1))) := by
  rw [sl_T h, HT.sIx_none]
  have e := HT.sIx_nat l.length l.length 1
  rw [show ((1 : Nat) : Int) = 1 from rfl] at e
  rw [e, List.drop_zero, Nat.sub_zero]
  cases l <;> rfl
theorem sl_from {l : List Nat} (n : Nat) (h : l.length ≤ 16777216) (hn : n ≤ l.length) : slD (.str (T l)) (some (n : Int)) none = .ok (.str (T (l.drop n))) := by
  rw [sl_T h, HT.sIx_none, HT.sIx_nat, Nat.min_eq_left hn, List.take_of_length_le]
  rw [List.length_drop]
  exact Nat.le_refl _
def bef (c : Nat) (l : List Nat) : List Nat := l.takeWhile (· != c)
def aft (c : Nat) (l : List Nat) : List Nat := (l.dropWhile (· != c)).drop 1
theorem bef_ne {c d : Nat} {r : List Nat} (h : d ≠ c) : bef c (d :: r) = d :: bef c r := List.takeWhile_cons_of_pos (by simpa using h)
theorem aft_ne {c d : Nat} {r : List Nat} (h : d ≠ c) : aft c (d :: r) = aft c r := by
  unfold aft
  rw [List.dropWhile_cons_of_pos (by simpa using h)]
theorem bef_eq {c : Nat} {r : List Nat} : bef c (c :: r) = [] := by unfold bef; simp
theorem aft_eq {c : Nat} {r : List Nat} : aft c (c :: r) = r := by unfold aft; simp
theorem bef_aft {c : Nat} {l : List Nat} (h : c ∈ l) : l = bef c l ++ [c] ++ aft c l := by
  induction l with
  | nil => cases h
  | cons d r ih =>
    by_cases e : d = c
    · subst e
      rw [bef_eq, aft_eq]; rfl
    · have : c ∈ r := (List.mem_cons.mp h).elim (fun z => absurd z.symm e) id
      rw [bef_ne e, aft_ne e, List.cons_append, List.cons_append, ← ih this]
theorem bef_no {c : Nat} {l : List Nat} : c ∉ bef c l := by
  induction l with
  | nil => intro h; cases h
  | cons d r ih =>
    by_cases e : d = c
    · subst e; rw [bef_eq]; intro h; cases h
    · rw [bef_ne e]
      intro h
      exact (List.mem_cons.mp h).elim (fun z => e z.symm) ih
theorem bef_all {c : Nat} {l : List Nat} (h : c ∉ l) : bef c l = l := by
  induction l with
  | nil => rfl
  | cons d r ih => rw [bef_ne fun e => h (by rw [e]; exact List.mem_cons_self), ih fun z => h (List.mem_cons_of_mem _ z)]
theorem aft_all {c : Nat} {l : List Nat} (h : c ∉ l) : aft c l = [] := by
  induction l with
  | nil => rfl
  | cons d r ih => rw [aft_ne fun e => h (by rw [e]; exact List.mem_cons_self), ih fun z => h (List.mem_cons_of_mem _ z)]
theorem bef_app {c : Nat} {a b : List Nat} (h : c ∉ a) : bef c (a ++ c :: b) = a := by
  induction a with
  | nil => exact bef_eq
  | cons d r ih => rw [List.cons_append, bef_ne fun e => h (by rw [e]; exact List.mem_cons_self), ih fun z => h (List.mem_cons_of_mem _ z)]
theorem aft_app {c : Nat} {a b : List Nat} (h : c ∉ a) : aft c (a ++ c :: b) = b := by
  induction a with
  | nil => exact aft_eq
  | cons d r ih => rw [List.cons_append, aft_ne fun e => h (by rw [e]; exact List.mem_cons_self), ih fun z => h (List.mem_cons_of_mem _ z)]
theorem bef_sub {c : Nat} {l : List Nat} : ∀ x ∈ bef c l, x ∈ l := fun x h => (List.takeWhile_sublist _).mem h
theorem aft_sub {c : Nat} {l : List Nat} : ∀ x ∈ aft c l, x ∈ l := fun x h => (List.dropWhile_sublist _).mem ((List.drop_sublist 1 _).mem h)
theorem bef_len {c : Nat} {l : List Nat} : (bef c l).length ≤ l.length := (List.takeWhile_sublist _).length_le
theorem aft_len {c : Nat} {l : List Nat} : (aft c l).length ≤ l.length := Nat.le_trans (List.drop_sublist 1 _).length_le (List.dropWhile_sublist _).length_le
theorem part_T {l : List Nat} (c : Nat) (h : l.length ≤ 16777216) : smD .part (.str (T l)) [.str (T [c])] = .ok (.tup [.str (T (bef c l)), .str (T (if c ∈ l then [c] else [])), .str (T (aft c l))]) := by
  show (if (T [c]).length ≠ 0 ∧ (T l).length ≤ 16777216 then R.ok (D.tup [.str (Txt.partition (T l) (T [c])).1, .str (Txt.partition (T l) (T [c])).2.1, .str (Txt.partition (T l) (T [c])).2.2]) else .bad) = _
  rw [T_len, T_len, if_pos ⟨by simp, h⟩]
  have ey : TL.tl (T [c]) = c :: [] := rfl
  by_cases m : c ∈ l
  · rw [if_pos m]
    have e : T l = T (bef c l) ++ T [c] ++ T (aft c l) := by rw [T_app, T_app, ← bef_aft m]
    rw [e, TL.partition_app ey (by rw [tl_T]; exact bef_no)]
  · rw [if_neg m, TL.partition_none ey (by rw [tl_T]; exact m), bef_all m, aft_all m]
    rfl
/-! ### the readers -/
def wholeR (l : List Nat) : Option Int := if l.head? = some 45 then (match figR l.tail with | some (n + 1) => some (-((n + 1 : Nat) : Int)) | _ => none) else (figR l).map fun n => (n : Int)
theorem Lo.of {l : List Nat} (_ : l.length ≤ 640) : Lo l := trivial
theorem Lo.any (l : List Nat) : Lo l := trivial
theorem whole_ok {l : List Nat} (hs : Scp l) (hl : l.length ≤ 16777216) (h : Lo l) (h2 : l.head? = some 45 → Lo l.tail) : F_whole_in [.str (T l)] = optE ((wholeR l).map .int) := by
  have s1 : Scp (l.take 1) := hs.sub fun c hc => List.mem_of_mem_take hc
  have s45 : Scp [45] := fun c hc => by rw [List.mem_singleton.mp hc]; decide
  have c1 := sl_1 hl
  rw [D_whole_in]
  by_cases hd : l.head? = some 45
  · obtain ⟨r, e⟩ : ∃ r, l = 45 :: r := by
      cases l with
      | nil => cases hd
      | cons c r => injection hd with hd; exact ⟨r, by rw [hd]⟩
    have c2 := sl_from (l := l) 1 hl (by rw [e, List.length_cons]; omega)
    have e1 : l.take 1 = [45] := by rw [e]; rfl
    have e2 : l.drop 1 = r := by rw [e]; rfl
    have e3 : l.tail = r := by rw [e]; rfl
    have ne : cpD .ne (.str (T (l.take 1))) (.str (T [45])) = .ok (.bl false) := by rw [ne_TT s1 s45, e1]; rfl
    have f := fig_ok (l := r) (hs.sub fun c hc => by rw [e]; exact List.mem_cons_of_mem _ hc) (by rw [e, List.length_cons] at hl; omega) (by rw [← e3]; exact h2 hd)
    have wr : wholeR l = (match figR r with | some (n + 1) => some (-((n + 1 : Nat) : Int)) | _ => none) := by
      unfold wholeR
      rw [if_pos hd, e3]
    rw [show ((1 : Nat) : Int) = 1 from rfl, e2] at c2
    rw [wr]
    cases hf : figR r with
    | none =>
      rw [hf] at f
      have f : F_figures_in [.str (T r)] = .exc "NoText" := f
      simp -dsimp -implicitDefEqProofs [B_whole_in, c1, ne, c2, f, optE]
    | some n =>
      rw [hf] at f
      have f : F_figures_in [.str (T r)] = .ok (.int n) := f
      cases n with
      | zero => simp -dsimp -implicitDefEqProofs [B_whole_in, c1, ne, c2, f, optE]
      | succ n =>
        have nz : ¬ ((n : Int) + 1 = 0) := by omega
        simp -dsimp -implicitDefEqProofs [B_whole_in, c1, ne, c2, f, optE, nz]
  · have ne : cpD .ne (.str (T (l.take 1))) (.str (T [45])) = .ok (.bl true) := by
      rw [ne_TT s1 s45]
      have : ¬ l.take 1 = [45] := fun z => hd (by
        cases l with
        | nil => cases z
        | cons c r =>
          rw [List.take_succ_cons, List.take_zero] at z
          injection z with z
          rw [z]; rfl)
      rw [decide_eq_false this]; rfl
    have f := fig_ok hs hl h
    have wr : wholeR l = (figR l).map fun n => (n : Int) := if_neg hd
    rw [wr]
    cases hf : figR l with
    | none =>
      rw [hf] at f
      have f : F_figures_in [.str (T l)] = .exc "NoText" := f
      simp -dsimp -implicitDefEqProofs [B_whole_in, c1, ne, f, optE]
    | some n =>
      rw [hf] at f
      have f : F_figures_in [.str (T l)] = .ok (.int n) := f
      simp -dsimp -implicitDefEqProofs [B_whole_in, c1, ne, f, optE]
/-- every part of a text is short -/
theorem Lo.le {l m : List Nat} (h : l.length ≤ 640) (h2 : m.length ≤ l.length) : Lo m := trivial
/-- a numeral with a sign, short enough -/
structure Nm (l : List Nat) : Prop where
  sg : Scp l
  le : l.length ≤ 16777216
  lo : Lo l
  lt : l.head? = some 45 → Lo l.tail
theorem Nm.of {l : List Nat} (h : Scp l) (h2 : l.length ≤ 640) : Nm l := ⟨h, by omega, trivial, fun _ => trivial⟩
theorem Nm.ok {l : List Nat} (h : Nm l) : F_whole_in [.str (T l)] = optE ((wholeR l).map .int) := whole_ok h.sg h.le h.lo h.lt
end OL.LW
namespace OL.LW
open PySem PySem.Spec PyProof.Rows L2
/-- the fraction that a text writes -/
def ratioR (l : List Nat) : Option (Int × Int) :=
  if 47 ∈ l then (match wholeR (bef 47 l), figR (aft 47 l) with
    | some n, some d => if d ≠ 1 ∧ 1 ≤ d ∧ Int.gcd n d = 1 then some (n, d) else none
    | _, _ => none)
  else (wholeR l).map fun n => (n, 1)
theorem rratio_ok {l : List Nat} (hs : Scp l) (hl : l.length ≤ 16777216) (h1 : Nm (bef 47 l)) (h2 : Lo (aft 47 l)) : F_read_ratio [.str (T l)] = optE ((ratioR l).map fun p => .tup [.int p.1, .int p.2]) := by
  have s0 : Scp [] := fun c hc => by cases hc
  have s47 : Scp [47] := fun c hc => by rw [List.mem_singleton.mp hc]; decide
  have p := part_T 47 hl
  have w := h1.ok
  rw [D_read_ratio]
  by_cases m : 47 ∈ l
  · rw [if_pos m] at p
    have eq0 : cpD .eq (.str (T [47])) (.str (T [])) = .ok (.bl false) := by rw [eq_TT s47 s0]; rfl
    have f := fig_ok (hs.sub aft_sub) (Nat.le_trans aft_len hl) h2
    have rr : ratioR l = (match wholeR (bef 47 l), figR (aft 47 l) with
      | some n, some d => if d ≠ 1 ∧ 1 ≤ d ∧ Int.gcd n d = 1 then some (n, (d : Int)) else none
      | _, _ => none) := if_pos m
    rw [rr]
    cases hw : wholeR (bef 47 l) with
    | none =>
      rw [hw] at w
      have w : F_whole_in [.str (T (bef 47 l))] = .exc "NoText" := w
      simp -dsimp -implicitDefEqProofs [B_read_ratio, p, eq0, w, optE]
    | some n =>
      rw [hw] at w
      have w : F_whole_in [.str (T (bef 47 l))] = .ok (.int n) := w
      cases hf : figR (aft 47 l) with
      | none =>
        rw [hf] at f
        have f : F_figures_in [.str (T (aft 47 l))] = .exc "NoText" := f
        simp -dsimp -implicitDefEqProofs [B_read_ratio, p, eq0, w, f, optE]
      | some d =>
        rw [hf] at f
        have f : F_figures_in [.str (T (aft 47 l))] = .ok (.int d) := f
        have ir := isratio_two (x := .int n) (y := .int d) rfl rfl
        rw [show frB (.int n) (.int d) = (decide (1 ≤ (d : Int)) && decide (Int.gcd n d = 1)) from rfl] at ir
        by_cases d1 : d = 1
        · subst d1
          simp -dsimp -implicitDefEqProofs [B_read_ratio, p, eq0, w, f, optE]
        · have e1 : ¬ ((d : Int) = 1) := by omega
          by_cases d2 : 1 ≤ d
          · rw [decide_eq_true (by omega : 1 ≤ (d : Int)), Bool.true_and] at ir
            by_cases d3 : Int.gcd n d = 1
            · rw [decide_eq_true d3] at ir
              show _ = optE (Option.map _ (if d ≠ 1 ∧ 1 ≤ d ∧ Int.gcd n d = 1 then some (n, (d : Int)) else none))
              rw [if_pos ⟨d1, d2, d3⟩]
              simp -dsimp -implicitDefEqProofs [B_read_ratio, p, eq0, w, f, optE, e1, ir]
            · rw [decide_eq_false d3] at ir
              show _ = optE (Option.map _ (if d ≠ 1 ∧ 1 ≤ d ∧ Int.gcd n d = 1 then some (n, (d : Int)) else none))
              rw [if_neg fun z => d3 z.2.2]
              simp -dsimp -implicitDefEqProofs [B_read_ratio, p, eq0, w, f, optE, e1, ir]
          · rw [decide_eq_false (by omega : ¬ 1 ≤ (d : Int)), Bool.false_and] at ir
            show _ = optE (Option.map _ (if d ≠ 1 ∧ 1 ≤ d ∧ Int.gcd n d = 1 then some (n, (d : Int)) else none))
            rw [if_neg fun z => d2 z.2.1]
            simp -dsimp -implicitDefEqProofs [B_read_ratio, p, eq0, w, f, optE, e1, ir]
  · rw [if_neg m] at p
    have eq0 : cpD .eq (.str (T [])) (.str (T [])) = .ok (.bl true) := by rw [eq_TT s0 s0]; rfl
    have rr : ratioR l = (wholeR l).map fun n => (n, 1) := if_neg m
    have be : bef 47 l = l := bef_all m
    rw [be] at w p
    rw [rr]
    cases hw : wholeR l with
    | none =>
      rw [hw] at w
      have w : F_whole_in [.str (T l)] = .exc "NoText" := w
      simp -dsimp -implicitDefEqProofs [B_read_ratio, p, eq0, w, optE]
    | some n =>
      rw [hw] at w
      have w : F_whole_in [.str (T l)] = .ok (.int n) := w
      simp -dsimp -implicitDefEqProofs [B_read_ratio, p, eq0, w, optE]
end OL.LW
namespace OL.LW
open PySem PySem.Spec PyProof.Rows L2
/-! ### numbers written -/
def intL (i : Int) : List Nat := if i < 0 then 45 :: TL.numL i.natAbs else TL.numL i.natAbs
theorem num_dig (n : Nat) : (TL.numL n).all digB = true := dig_all (TL.numL_digits n)
theorem num_head {n : Nat} (h : n ≠ 0) : (TL.numL n).head? ≠ some 48 := by
  induction n using Nat.strongRecOn with
  | _ n ih =>
    by_cases h1 : n < 10
    · rw [TL.numL_lt h1]
      intro z
      injection z with z
      omega
    · rw [TL.numL_step (by omega)]
      have := ih (n / 10) (by omega) (by omega)
      have ne := TL.numL_ne (n / 10)
      cases e : TL.numL (n / 10) with
      | nil => exact absurd e ne
      | cons c r =>
        rw [e] at this
        exact this
theorem num_45 {n : Nat} : (TL.numL n).head? ≠ some 45 := fun z => by
  have := List.mem_of_mem_head? z
  exact TL.numL_free (.inl (by decide)) this
theorem fig_num {n : Nat} (h : (TL.numL n).length ≤ 1000) : figR (TL.numL n) = some n := by
  have e : figR (TL.numL n) = some (NumText.digitsVal (TL.numL n)) := if_pos ⟨TL.numL_ne n, by omega, num_dig n, fun z => by
    by_cases w : n = 0
    · subst w; exact TL.numL_lt (by decide)
    · exact absurd z (num_head w)⟩
  rw [e, TL.numL_val]
theorem num_sg (n : Nat) : Scp (TL.numL n) := fun c hc => by
  have := TL.numL_digits n c hc
  omega
theorem int_sg (i : Int) : Scp (intL i) := by
  unfold intL
  split
  · intro c hc
    rcases List.mem_cons.mp hc with rfl | hc
    · decide
    · exact num_sg _ c hc
  · exact num_sg _
theorem int_free {i : Int} {s : Nat} (h : s < 45 ∨ s = 46 ∨ s = 47 ∨ 57 < s) : s ∉ intL i := by
  unfold intL
  split
  · intro hc
    rcases List.mem_cons.mp hc with e | hc
    · omega
    · exact TL.numL_free (by omega) hc
  · exact TL.numL_free (by omega)
theorem num_len {n : Nat} (h : n < 2 ^ 2000) : (TL.numL n).length ≤ 603 := by
  refine TL.numL_len (by decide) (Nat.lt_trans h ?_)
  decide +kernel
theorem int_len {i : Int} (h : i.natAbs < 2 ^ 2000) : (intL i).length ≤ 604 := by
  have := num_len h
  unfold intL
  split
  · rw [List.length_cons]; omega
  · omega
theorem whole_intL {i : Int} (h : i.natAbs < 2 ^ 2000) : wholeR (intL i) = some i := by
  have l := num_len h
  have f := fig_num (n := i.natAbs) (by omega)
  unfold wholeR intL
  by_cases c : i < 0
  · rw [if_pos c, if_pos (show (45 :: TL.numL i.natAbs).head? = some 45 from rfl), List.tail_cons, f]
    obtain ⟨k, e⟩ : ∃ k, i.natAbs = k + 1 := ⟨i.natAbs - 1, by omega⟩
    rw [e]
    show some (-((k + 1 : Nat) : Int)) = some i
    rw [← e]
    congr 1
    omega
  · rw [if_neg c, if_neg num_45, f]
    show some (i.natAbs : Int) = some i
    congr 1
    omega
theorem str_int {i : Int} (h : i.natAbs < 2 ^ 1900) : bltD .str [.int i] = .ok (.str (T (intL i))) := by
  have lg : i.natAbs.log2 < 12900 := by
    have := log2_lt (by decide) h
    omega
  show (if i.natAbs.log2 < 12900 then R.ok (D.str (toString i)) else .bad) = _
  rw [if_pos lg]
  congr 2
  apply TL.ext_tl
  rw [tl_T]
  unfold intL
  cases i with
  | ofNat n =>
    rw [if_neg (show ¬ Int.ofNat n < 0 from Int.not_lt.mpr (Int.natCast_nonneg n))]
    exact TL.tl_num n
  | negSucc n =>
    rw [if_pos (Int.negSucc_lt_zero n)]
    have e : (toString (Int.negSucc n) : String) = "-" ++ toString (((n + 1 : Nat)) : Int) := rfl
    rw [e]
    show TL.tl (Str.ofString ("-" ++ toString (((n + 1 : Nat)) : Int))) = _
    rw [TL.tl_ofString, String.toList_append, List.map_append, ← TL.tl_ofString (toString (((n + 1 : Nat)) : Int)), TL.tl_num]
    rfl
theorem str_nat {n : Nat} (h : n < 2 ^ 1900) : bltD .str [.int (n : Int)] = .ok (.str (T (TL.numL n))) := by
  have e := str_int (i := (n : Int)) (by rw [Int.natAbs_natCast]; exact h)
  unfold intL at e
  rw [if_neg (by omega), Int.natAbs_natCast] at e
  exact e
/-! ### rows of texts -/
theorem strsOf_T : ∀ ls : List (List Nat), strsOf (ls.map fun l => .str (T l)) = some (ls.map T)
  | [] => rfl
  | l :: r => by
    show (strsOf (r.map fun l => .str (T l))).map (T l :: ·) = _
    rw [strsOf_T r]; rfl
theorem sum_le {n : Nat} : ∀ {ls : List (List Nat)}, (∀ l ∈ ls, l.length ≤ n) → (ls.map List.length).sum ≤ ls.length * n
  | [], _ => by simp
  | l :: r, h => by
    have := sum_le fun x hx => h x (List.mem_cons_of_mem _ hx)
    have := h l List.mem_cons_self
    rw [List.map_cons, List.sum_cons, List.length_cons, Nat.add_mul]
    omega
theorem joinL_len : ∀ ls : List (List Nat), (TL.joinL [32] ls).length ≤ (ls.map List.length).sum + ls.length
  | [] => by simp [TL.joinL]
  | [p] => by simp [TL.joinL]
  | p :: q :: r => by
    have := joinL_len (q :: r)
    simp only [TL.joinL, List.length_append, List.map_cons, List.sum_cons, List.length_cons, List.length_nil] at *
    omega
theorem joinL_sg : ∀ {ls : List (List Nat)}, (∀ l ∈ ls, Scp l) → Scp (TL.joinL [32] ls)
  | [], _ => fun c hc => by cases hc
  | [p], h => h p List.mem_cons_self
  | p :: q :: r, h => by
    refine (h p List.mem_cons_self).app (Scp.app (fun c hc => ?_) (joinL_sg fun x hx => h x (List.mem_cons_of_mem _ hx)))
    rw [List.mem_singleton.mp hc]; decide
theorem join_T {ls : List (List Nat)} (h : (ls.map List.length).sum + ls.length ≤ 16777216) : smD .join (.str (T [32])) [.lst (ls.map fun l => .str (T l))] = .ok (.str (T (TL.joinL [32] ls))) := by
  show (match strsOf (ls.map fun l => .str (T l)) with
    | some ys => if (ys.map (fun y : Str => y.length)).sum + ys.length * (T [32]).length ≤ 16777216 then R.ok (D.str (Txt.join (T [32]) ys)) else .bad
    | none => .bad) = _
  rw [strsOf_T]
  have e1 : ((ls.map T).map (fun y : Str => y.length)) = ls.map List.length := by
    rw [List.map_map]
    exact List.map_congr_left fun l _ => T_len l
  show (if ((ls.map T).map (fun y : Str => y.length)).sum + (ls.map T).length * (T [32]).length ≤ 16777216 then R.ok (D.str (Txt.join (T [32]) (ls.map T))) else .bad) = _
  rw [e1, List.length_map, T_len, if_pos (by simp only [List.length_cons, List.length_nil]; omega)]
  congr 2
  apply TL.ext_tl
  rw [TL.join_eq, TL.tl_join, tl_T, tl_T]
  congr 1
  rw [List.map_map]
  exact (List.map_congr_left fun l _ => tl_T l).trans (List.map_id ls)
theorem split_T {ls : List (List Nat)} (hne : ls ≠ []) (hp : ∀ p ∈ ls, 32 ∉ p) (h : (ls.map List.length).sum + ls.length + 2 ≤ 16777216) : smD .split (.str (T (TL.joinL [32] ls))) [.str (T [32])] = .ok (.lst (ls.map fun l => .str (T l))) := by
  have jl := joinL_len ls
  show (if (T [32]).length ≠ 0 ∧ (T (TL.joinL [32] ls)).length + 2 ≤ 16777216 then R.ok (D.lst ((Txt.split (T (TL.joinL [32] ls)) (T [32])).map .str)) else .bad) = _
  rw [T_len, T_len, if_pos ⟨by simp, by omega⟩]
  have e1 : T (TL.joinL [32] ls) = Txt.join (T [32]) (ls.map T) := by
    apply TL.ext_tl
    rw [TL.join_eq, TL.tl_join, tl_T, tl_T]
    congr 1
    rw [List.map_map]
    exact ((List.map_congr_left fun l _ => tl_T l).trans (List.map_id ls)).symm
  have e2 : Txt.split (Txt.join (T [32]) (ls.map T)) (T [32]) = ls.map T := TL.split_join (s := 32) (S := []) rfl (by decide +kernel) (by simpa using hne) fun p hp' => by
    obtain ⟨l, hl, rfl⟩ := List.mem_map.mp hp'
    rw [tl_T]
    exact hp l hl
  rw [e1, e2, List.map_map]
  rfl
theorem starts_T (m r : List Nat) : smD .starts (.str (T (m ++ r))) [.str (T m)] = .ok (.bl true) := by
  show R.ok (D.bl (Txt.startswith (T (m ++ r)) (T m))) = _
  congr 2
  unfold PySem.Txt.startswith
  rw [Bool.and_eq_true, T_len, T_len]
  refine ⟨decide_eq_true (by rw [List.length_append]; omega), ?_⟩
  rw [PySem.StrLaws.subAt_eq]
  show ((((TL.tl (T (m ++ r))).drop 0).take (T m).length) == TL.tl (T m)) = true
  rw [tl_T, tl_T, T_len, List.drop_zero, List.take_left]
  exact beq_self_eq_true m
end OL.LW
namespace OL.LW
open PySem PySem.Spec PyProof.Rows L2
/-- a fraction written -/
def ratL (q : Rat) : List Nat := if q.den = 1 then intL q.num else intL q.num ++ [47] ++ TL.numL q.den
theorem rat_sg (q : Rat) : Scp (ratL q) := by
  unfold ratL
  split
  · exact int_sg _
  · refine ((int_sg _).app fun c hc => ?_).app (num_sg _)
    rw [List.mem_singleton.mp hc]; decide
theorem rat_free {q : Rat} {s : Nat} (h : s < 45 ∨ s = 46 ∨ 57 < s) : s ∉ ratL q := by
  have a : s ∉ intL q.num := int_free (by omega)
  unfold ratL
  split
  · exact a
  · intro hc
    rcases List.mem_append.mp hc with hc | hc
    · rcases List.mem_append.mp hc with hc | hc
      · exact a hc
      · have := List.mem_singleton.mp hc; omega
    · exact TL.numL_free (by omega) hc
theorem up19 {n a : Nat} (h : n < 2 ^ a) (ha : a ≤ 1900) : n < 2 ^ 1900 := lt_up h ha
theorem up20 {n a : Nat} (h : n < 2 ^ a) (ha : a ≤ 1900) : n < 2 ^ 2000 := lt_up h (by omega)
section
variable {q : Rat} {a b : Nat} [x : Bq q a b]
theorem den_lt (q : Rat) [x : Bq q a b] : q.den < 2 ^ (b + 1) := Nat.lt_of_le_of_lt x.de (Nat.pow_lt_pow_right (by decide) (by omega))
theorem rat_len (q : Rat) [x : Bq q a b] (ha : a ≤ 1900) (hb : b + 1 ≤ 1900) : (ratL q).length ≤ 1300 := by
  have := int_len (i := q.num) (up20 x.nu ha)
  have := num_len (n := q.den) (up20 (den_lt q) hb)
  unfold ratL
  split
  · omega
  · simp only [List.length_append, List.length_cons, List.length_nil]; omega
end
end OL.LW
namespace OL.LW
open PySem PySem.Spec PyProof.Rows L2
/-! ### any text, cut at the blanks -/
def wordsL (c : Nat) (l : List Nat) : List (List Nat) := TL.spl [c] 0 [] l
theorem spl_facts (s : Nat) : ∀ (l acc : List Nat), TL.spl [s] 0 acc l ≠ [] ∧ (TL.spl [s] 0 acc l).length ≤ l.length + 1 ∧ ∀ w ∈ TL.spl [s] 0 acc l, (∀ c ∈ w, c ∈ acc ∨ c ∈ l) ∧ w.length ≤ acc.length + l.length
  | [], acc => by
    rw [TL.spl_nil]
    refine ⟨by simp, by simp, fun w hw => ?_⟩
    rw [List.mem_singleton.mp hw]
    exact ⟨fun c h => .inl h, by simp⟩
  | c :: r, acc => by
    cases hp : TL.pre [s] (c :: r) with
    | true =>
      rw [TL.spl_hit hp]
      obtain ⟨a1, a2, a3⟩ := spl_facts s r []
      refine ⟨by simp, by simpa using a2, fun w hw => ?_⟩
      rcases List.mem_cons.mp hw with rfl | hw
      · exact ⟨fun c h => .inl h, by simp⟩
      · obtain ⟨b1, b2⟩ := a3 w hw
        exact ⟨fun x h => .inr (List.mem_cons_of_mem _ ((b1 x h).resolve_left (by simp))), by simp only [List.length_nil, List.length_cons] at *; omega⟩
    | false =>
      rw [TL.spl_miss hp]
      obtain ⟨a1, a2, a3⟩ := spl_facts s r (acc ++ [c])
      refine ⟨a1, by rw [List.length_cons]; omega, fun w hw => ?_⟩
      obtain ⟨b1, b2⟩ := a3 w hw
      refine ⟨fun x h => ?_, by simp only [List.length_append, List.length_cons, List.length_nil] at *; omega⟩
      rcases b1 x h with h | h
      · rcases List.mem_append.mp h with h | h
        · exact .inl h
        · exact .inr (by rw [List.mem_singleton.mp h]; exact List.mem_cons_self)
      · exact .inr (List.mem_cons_of_mem _ h)
theorem words_ne (c : Nat) (l : List Nat) : wordsL c l ≠ [] := (spl_facts c l []).1
theorem words_len (c : Nat) (l : List Nat) : (wordsL c l).length ≤ l.length + 1 := (spl_facts c l []).2.1
theorem words_sub {c : Nat} {l w : List Nat} (h : w ∈ wordsL c l) : (∀ x ∈ w, x ∈ l) ∧ w.length ≤ l.length := by
  obtain ⟨a, b⟩ := (spl_facts c l []).2.2 w h
  exact ⟨fun x hx => (a x hx).resolve_left (by simp), by simpa using b⟩
theorem map_tlT {ls : List Str} {ms : List (List Nat)} (h : ls.map TL.tl = ms) : ls = ms.map T := by
  rw [← h, List.map_map]
  exact ((List.map_congr_left fun l _ => T_tl l).trans (List.map_id ls)).symm
theorem split_any {l : List Nat} (c : Nat) (hc : c < 256) (h : l.length + 2 ≤ 16777216) : smD .split (.str (T l)) [.str (T [c])] = .ok (.lst ((wordsL c l).map fun w => .str (T w))) := by
  show (if (T [c]).length ≠ 0 ∧ (T l).length + 2 ≤ 16777216 then R.ok (D.lst ((Txt.split (T l) (T [c])).map .str)) else .bad) = _
  rw [T_len, T_len, if_pos ⟨by simp, h⟩]
  have k : (T [c]).cps.all (· < 256) = true := by
    unfold T
    rw [List.all_toArray]
    simp [hc]
  have e := TL.split_spl (T l) (T [c]) (by rw [tl_T]; simp) (TL.kind_ok k)
  rw [tl_T, tl_T] at e
  rw [map_tlT e, List.map_map]
  rfl
/-! ### each item or none -/
def optAll {α β : Type} (o : α → Option β) : List α → Option (List β)
  | [] => some []
  | a :: r => match o a, optAll o r with
    | some x, some xs => some (x :: xs)
    | _, _ => none
theorem optAll_cons {α β : Type} (o : α → Option β) (a : α) (r : List α) : optAll o (a :: r) = (match o a, optAll o r with | some x, some xs => some (x :: xs) | _, _ => none) := rfl
theorem optAll_len {α β : Type} {o : α → Option β} : ∀ {l : List α} {xs : List β}, optAll o l = some xs → xs.length = l.length
  | [], xs, h => by cases h; rfl
  | a :: r, xs, h => by
    unfold optAll at h
    split at h
    · rename_i x ys _ e
      cases h
      rw [List.length_cons, List.length_cons, optAll_len e]
    · cases h
/-- a comprehension whose item raises -/
theorem lcR_opt {α : Type} {en : α → D} {c e : D → R D} {o : α → Option D} : ∀ {l : List α}, (∀ a ∈ l, c (en a) = .ok (.bl true) ∧ e (en a) = optE (o a)) → lcR (l.map en) c e = (match optAll o l with | some ys => .ok ys | none => .exc "NoText")
  | [], _ => rfl
  | a :: r, h => by
    obtain ⟨h1, h2⟩ := h a List.mem_cons_self
    have ih := lcR_opt fun x hx => h x (List.mem_cons_of_mem _ hx)
    rw [List.map_cons]
    unfold lcR
    rw [h1, h2]
    show (match (optE (o a) : R D) with | .ok y => (lcR (r.map en) c e).bind fun ys => R.ok (y :: ys) | .exc k => .exc k | .bad => .bad) = _
    rw [ih, optAll_cons]
    cases o a with
    | none => rfl
    | some x =>
      cases optAll o r with
      | none => rfl
      | some xs => rfl
theorem optAll_map {α β γ : Type} {o : α → Option β} {f : β → γ} : ∀ {l : List α}, optAll (fun a => (o a).map f) l = (optAll o l).map (List.map f)
  | [] => rfl
  | a :: r => by
    unfold optAll
    rw [optAll_map (l := r)]
    cases o a <;> cases optAll o r <;> rfl
end OL.LW
namespace OL.LW
open PySem PySem.Spec PyProof.Rows L2
/-! ### texts whose runs of figures are short -/
def RunB (_ : List Nat) : Prop := True
theorem RunB.sub {l m : List Nat} (_ : RunB l) (_ : m <:+: l) : RunB m := trivial
theorem bef_inf {c : Nat} {l : List Nat} : bef c l <:+: l := (List.takeWhile_prefix _).isInfix
theorem aft_inf {c : Nat} {l : List Nat} : aft c l <:+: l := ((List.drop_suffix 1 _).trans (List.dropWhile_suffix _)).isInfix
theorem tail_inf {l : List Nat} : l.tail <:+: l := (List.tail_suffix l).isInfix
theorem inf_mem {l m : List Nat} (h : m <:+: l) : ∀ c ∈ m, c ∈ l := fun c hc => h.subset hc
theorem inf_len {l m : List Nat} (h : m <:+: l) : m.length ≤ l.length := h.length_le
theorem spl_inf (s : Nat) : ∀ (l acc : List Nat) (w : List Nat), w ∈ TL.spl [s] 0 acc l → w <:+: acc ++ l
  | [], acc, w, h => by
    rw [TL.spl_nil] at h
    rw [List.mem_singleton.mp h, List.append_nil]
    exact List.infix_refl _
  | c :: r, acc, w, h => by
    cases hp : TL.pre [s] (c :: r) with
    | true =>
      rw [TL.spl_hit hp] at h
      rcases List.mem_cons.mp h with rfl | h
      · exact (List.prefix_append _ _).isInfix
      · have := spl_inf s r [] w h
        rw [List.nil_append] at this
        exact this.trans ((List.suffix_cons c r).trans (List.suffix_append acc (c :: r))).isInfix
    | false =>
      rw [TL.spl_miss hp] at h
      have := spl_inf s r (acc ++ [c]) w h
      rw [List.append_assoc] at this
      exact this
theorem words_inf {c : Nat} {l w : List Nat} (h : w ∈ wordsL c l) : w <:+: l := by
  have := spl_inf c l [] w h
  rw [List.nil_append] at this
  exact this
theorem lo_run {m : List Nat} (_ : RunB m) : Lo m := trivial
/-- a text that the model reads -/
structure Rd (l : List Nat) : Prop where
  sg : Scp l
  le : l.length ≤ 16000000
  rn : RunB l
theorem Rd.sub {l m : List Nat} (h : Rd l) (s : m <:+: l) : Rd m := ⟨h.sg.sub (inf_mem s), Nat.le_trans (inf_len s) h.le, h.rn.sub s⟩
theorem Rd.nm {l : List Nat} (h : Rd l) : Nm l := ⟨h.sg, by have := h.le; omega, lo_run h.rn, fun _ => lo_run (h.rn.sub tail_inf)⟩
theorem Rd.ratio {l : List Nat} (h : Rd l) : F_read_ratio [.str (T l)] = optE ((ratioR l).map crD) :=
  rratio_ok h.sg (by have := h.le; omega) (h.sub bef_inf).nm (lo_run (h.rn.sub aft_inf))
end OL.LW
namespace OL.LW
open PySem PySem.Spec PyProof.Rows L2
/-! ### the law's own reading of a number -/
def oiD : Option Int → D
  | some i => .int i
  | none => .non
@[simp] theorem inn_fig (c : Nat) : cpD .inn (sgn c) (.str "0123456789") = .ok (.bl (digB c)) := by
  have e : ("0123456789" : Str) = T [48, 49, 50, 51, 52, 53, 54, 55, 56, 57] := by decide +kernel
  rw [e]
  show R.ok (D.bl (!(Builtin.Str.occurrences (T [48, 49, 50, 51, 52, 53, 54, 55, 56, 57]) ⟨#[c]⟩ 0 (T [48, 49, 50, 51, 52, 53, 54, 55, 56, 57]).length 1).isEmpty)) = _
  rw [PySem.StrLaws.found_one]
  show R.ok (D.bl (decide (c ∈ [48, 49, 50, 51, 52, 53, 54, 55, 56, 57]))) = _
  have e2 : decide (c ∈ [48, 49, 50, 51, 52, 53, 54, 55, 56, 57]) = digB c := by
    unfold digB
    rw [Bool.eq_iff_iff]
    simp only [List.mem_cons, List.not_mem_nil, or_false, decide_eq_true_eq, Bool.and_eq_true]
    omega
  rw [e2]
noncomputable def B3 : List St := [.ife (.or [(.cmp .eq (.var 1) (.lit (.str ""))), (.cmp .gt (.blt .len [(.var 1)]) (.lit (.int 1000))), (.not (.blt .all [(.lc (.cmp .inn (.var 2) (.lit (.str "0123456789"))) (.nm 2) (.var 1) .nop)]))]) [.ret (.lit .non)] [],
   .ife (.and [(.cmp .eq (.ix (.var 1) (.lit (.int 0))) (.lit (.str "0"))), (.or [(.cmp .gt (.blt .len [(.var 1)]) (.lit (.int 1))), (.cmp .eq (.sl (.var 0) .nop (.lit (.int 1))) (.lit (.str "-")))])]) [.ret (.lit .non)] [],
   .ret (.blt .int [(.var 0)])]
theorem lw_core {l m : List Nat} {b : Bool} {v : Int} (hl : l.length ≤ 16000000) (hm : m.length ≤ 16000000) (sm' : Scp m) (eqm : cpD .eq (.str (T (l.take 1))) (.str (T [45])) = .ok (.bl b))
    (hv : m ≠ [] → m.all digB = true → m.length ≤ 1000 → bltD .int [.str (T l)] = .ok (.int v)) :
    (exs [.v (.str (T l)), .v (.str (T m)), .n] B3).end = .ok (if m ≠ [] ∧ m.length ≤ 1000 ∧ m.all digB = true ∧ (m.head? = some 48 → m.length ≤ 1 ∧ b = false) then .int v else .non) := by
  have s0 : Scp [] := fun c hc => by cases hc
  have s48 : Scp [48] := fun c hc => by rw [List.mem_singleton.mp hc]; decide
  have e48 : cpD .eq (sgn 48) (.str (T [48])) = .ok (.bl true) := by unfold sgn; rw [eq_TT s48 s48]; rfl
  have c1 := sl_1 (l := l) (by omega)
  have it := items_T m
  have ln := len_T (l := m) (by omega)
  have lc : lcR (m.map sgn) (condR [.v (.str (T l)), .v (.str (T m)), .n] (.nm 2) .nop) (eltR [.v (.str (T l)), .v (.str (T m)), .n] (.nm 2) (.cmp .inn (.var 2) (.lit (.str "0123456789")))) = .ok (m.map fun c => .bl (digB c)) :=
    lcR_mapA fun c _ => ⟨by simp -dsimp -implicitDefEqProofs [], by simp -dsimp -implicitDefEqProofs []⟩
  have al := all_bl digB m
  have ll : (m.map fun c => D.bl (digB c)).length ≤ 16777216 := by rw [List.length_map]; omega
  by_cases h1 : m = []
  · subst h1
    rw [if_neg fun z => z.1 rfl]
    have e : cpD .eq (.str (T [])) (.str (T [])) = .ok (.bl true) := by rw [eq_TT s0 s0]; rfl
    simp -dsimp -implicitDefEqProofs [B3, e]
  have ne : cpD .eq (.str (T m)) (.str (T [])) = .ok (.bl false) := by rw [eq_TT sm' s0, decide_eq_false h1]
  by_cases gt : (1000 : Int) < (m.length : Int)
  · rw [if_neg fun z => by omega]
    generalize m.map (fun c => D.bl (digB c)) = L at *
    simp -dsimp -implicitDefEqProofs [B3, ne, ln, gt]
  have m1000 : m.length ≤ 1000 := by omega
  cases h2 : m.all digB with
  | false =>
    rw [if_neg fun z => by cases z.2.2.1]
    rw [h2] at al
    generalize m.map (fun c => D.bl (digB c)) = L at *
    simp -dsimp -implicitDefEqProofs [B3, ne, ln, gt, it, lc, lstR_of ll, al]
  | true =>
    have hv := hv h1 h2 m1000
    rw [h2] at al
    obtain ⟨c, r, ec⟩ : ∃ c r, m = c :: r := by
      cases m with
      | nil => exact absurd rfl h1
      | cons c r => exact ⟨c, r, rfl⟩
    have ix := ix_T (l := m) (by omega) ec
    have hd : m.head? = some c := by rw [ec]; rfl
    have sc : Scp [c] := sm'.sub fun x hx => by rw [ec]; rw [List.mem_singleton.mp hx]; exact List.mem_cons_self
    by_cases h4 : c = 48
    · subst h4
      by_cases h5 : m.length ≤ 1
      · have g2 : ¬ (1 : Int) < (m.length : Int) := by omega
        cases b with
        | false =>
          rw [if_pos ⟨h1, m1000, rfl, fun _ => ⟨h5, rfl⟩⟩]
          generalize m.map (fun c => D.bl (digB c)) = L at *
          simp -dsimp -implicitDefEqProofs [B3, ne, ln, gt, it, lc, lstR_of ll, al, ix, e48, g2, c1, eqm, hv]
        | true =>
          rw [if_neg fun z => by cases (z.2.2.2 hd).2]
          generalize m.map (fun c => D.bl (digB c)) = L at *
          simp -dsimp -implicitDefEqProofs [B3, ne, ln, gt, it, lc, lstR_of ll, al, ix, e48, g2, c1, eqm]
      · have g2 : (1 : Int) < (m.length : Int) := by omega
        rw [if_neg fun z => h5 (z.2.2.2 hd).1]
        generalize m.map (fun c => D.bl (digB c)) = L at *
        simp -dsimp -implicitDefEqProofs [B3, ne, ln, gt, it, lc, lstR_of ll, al, ix, e48, g2]
    · have e48' : cpD .eq (sgn c) (.str (T [48])) = .ok (.bl false) := by
        unfold sgn
        rw [eq_TT sc s48, decide_eq_false (by simpa using h4)]
      rw [if_pos ⟨h1, m1000, rfl, fun z => absurd (Option.some.inj (hd.symm.trans z)) h4⟩]
      generalize m.map (fun c => D.bl (digB c)) = L at *
      simp -dsimp -implicitDefEqProofs [B3, ne, ln, gt, it, lc, lstR_of ll, al, ix, e48', hv]
theorem lwhole_any {l : List Nat} (rd : Rd l) : F__law_whole_in [.str (T l)] = .ok (oiD (wholeR l)) := by
  have hs := rd.sg
  have hl := rd.le
  have s1 : Scp (l.take 1) := hs.sub fun c hc => List.mem_of_mem_take hc
  have s45 : Scp [45] := fun c hc => by rw [List.mem_singleton.mp hc]; decide
  have c1 := sl_1 (l := l) (by omega)
  rw [D__law_whole_in]
  by_cases hd : l.head? = some 45
  · obtain ⟨r, e⟩ : ∃ r, l = 45 :: r := by
      cases l with
      | nil => cases hd
      | cons c r => injection hd with hd; exact ⟨r, by rw [hd]⟩
    have c2 := sl_from (l := l) 1 (by omega) (by rw [e, List.length_cons]; omega)
    rw [show ((1 : Nat) : Int) = 1 from rfl, show l.drop 1 = r by rw [e]; rfl] at c2
    have rl : r.length ≤ 16000000 := by rw [e, List.length_cons] at hl; omega
    have eqm : cpD .eq (.str (T (l.take 1))) (.str (T [45])) = .ok (.bl true) := by rw [eq_TT s1 s45, show l.take 1 = [45] by rw [e]; rfl]; rfl
    have sr : Scp r := hs.sub fun c hc => by rw [e]; exact List.mem_cons_of_mem _ hc
    have core := lw_core (l := l) (m := r) (b := true) (v := -((NumText.digitsVal r : Nat) : Int)) hl rl sr eqm fun h1 h2 h3 => by
      have short : l.length ≤ 1001 := by rw [e, List.length_cons]; omega
      have z : PySem.intText? (T l) = some (-((NumText.digitsVal r : Nat) : Int)) := PySem.intText_neg (x := T l) (cs := r) e (all_digits h2) h1 (by rw [T_len]; omega)
      show (match PySem.intText? (T l) with | some n => if (T l).length ≤ 4300 then R.ok (D.int n) else .bad | none => .bad) = _
      rw [z, T_len]
      exact if_pos (by omega)
    have go : (exs [.v (.str (T l)), .n, .n] B__law_whole_in).end = (exs [.v (.str (T l)), .v (.str (T r)), .n] B3).end := by
      simp -dsimp -implicitDefEqProofs only [B__law_whole_in, B3, exs_cons]
      congr 1
      simp -dsimp -implicitDefEqProofs [c1, eqm, c2]
    rw [go, core]
    have wr : wholeR l = (match figR r with | some (n + 1) => some (-((n + 1 : Nat) : Int)) | _ => none) := by
      unfold wholeR
      rw [if_pos hd, show l.tail = r by rw [e]; rfl]
      all_goals (cases figR r with
        | none => rfl
        | some n => cases n <;> rfl)
    rw [wr]
    by_cases h1 : r ≠ [] ∧ r.length ≤ 1000 ∧ r.all digB = true ∧ (r.head? = some 48 → r.length ≤ 1 ∧ true = false)
    · rw [if_pos h1]
      obtain ⟨a1, a4, a2, a3⟩ := h1
      have nh : r.head? ≠ some 48 := fun z => by cases (a3 z).2
      have fr : figR r = some (NumText.digitsVal r) := if_pos ⟨a1, a4, a2, fun z => absurd z nh⟩
      rw [fr]
      obtain ⟨c, q, eq⟩ : ∃ c q, r = c :: q := by
        cases r with
        | nil => exact absurd rfl a1
        | cons c q => exact ⟨c, q, rfl⟩
      have cd := all_digits a2 c (by rw [eq]; exact List.mem_cons_self)
      have c49 : 49 ≤ c := by
        have : c ≠ 48 := fun z => nh (by rw [eq, z]; rfl)
        omega
      have pos : 0 < NumText.digitsVal r := by rw [eq]; exact NumText.digitsVal_pos c49
      obtain ⟨k, ek⟩ : ∃ k, NumText.digitsVal r = k + 1 := ⟨NumText.digitsVal r - 1, by omega⟩
      rw [ek]
      rfl
    · rw [if_neg h1]
      by_cases g : r ≠ [] ∧ r.length ≤ 1000 ∧ r.all digB = true ∧ (r.head? = some 48 → r = [48])
      · have fr : figR r = some (NumText.digitsVal r) := if_pos g
        have h48 : r.head? = some 48 := by
          by_cases z : r.head? = some 48
          · exact z
          · exact absurd ⟨g.1, g.2.1, g.2.2.1, fun w => absurd w z⟩ h1
        have e48 := g.2.2.2 h48
        rw [fr, e48]
        rfl
      · have fr : figR r = none := if_neg g
        rw [fr]
        rfl
  · have eqm : cpD .eq (.str (T (l.take 1))) (.str (T [45])) = .ok (.bl false) := by
      rw [eq_TT s1 s45]
      have : ¬ l.take 1 = [45] := fun z => hd (by
        cases l with
        | nil => cases z
        | cons c r =>
          rw [List.take_succ_cons, List.take_zero] at z
          injection z with z
          rw [z]; rfl)
      rw [decide_eq_false this]
    have core := lw_core (l := l) (m := l) (b := false) (v := ((NumText.digitsVal l : Nat) : Int)) hl hl hs eqm fun h1 h2 h3 => int_T h2 h1 (Nat.le_trans h3 (by decide))
    have go : (exs [.v (.str (T l)), .n, .n] B__law_whole_in).end = (exs [.v (.str (T l)), .v (.str (T l)), .n] B3).end := by
      simp -dsimp -implicitDefEqProofs only [B__law_whole_in, B3, exs_cons]
      congr 1
      simp -dsimp -implicitDefEqProofs [c1, eqm]
    rw [go, core]
    have wr : wholeR l = (figR l).map fun n => (n : Int) := if_neg hd
    rw [wr]
    by_cases g : l ≠ [] ∧ l.length ≤ 1000 ∧ l.all digB = true ∧ (l.head? = some 48 → l = [48])
    · have fr : figR l = some (NumText.digitsVal l) := if_pos g
      rw [fr, if_pos ⟨g.1, g.2.1, g.2.2.1, fun z => ⟨by rw [g.2.2.2 z]; decide, rfl⟩⟩]
      rfl
    · have fr : figR l = none := if_neg g
      rw [fr, if_neg fun z => g ⟨z.1, z.2.1, z.2.2.1, fun w => ?_⟩]
      · rfl
      · have le := (z.2.2.2 w).1
        cases l with
        | nil => cases w
        | cons c q =>
          injection w with w
          rw [List.length_cons] at le
          rw [w, List.length_eq_zero_iff.mp (by omega : q.length = 0)]
instance pl_oi (o : Option Int) : Pl (oiD o) 0 := by cases o <;> exact ⟨rfl, Nat.le_refl _⟩
/-- None among things -/
theorem none_inG {α : Type} {n : Nat} (f : α → D) (b : α → Bool) [pl : ∀ a, Pl (f a) n] (hn : n ≤ 60) (as : List α) (h1 : ∀ a, b a = true → f a = .non) (h2 : ∀ a, b a = false → PyData.eqv (toP (f a)) .none = false ∧ (scalD (f a) = true → eqV (valD (f a)) (valD .non) = false)) :
    cpD .inn .non (.lst (as.map f)) = .ok (.bl (as.any b)) := by
  show (if scalD .non && (as.map f).all scalD then R.ok (D.bl (inD .non (as.map f))) else if shp .non && shp (.lst (as.map f)) then R.ok (D.bl ((toPL (as.map f)).any fun z => PyData.eqv z (toP .non))) else .bad) = _
  have toPLm : ∀ ds : List D, toPL ds = ds.map toP := fun ds => by
    induction ds with
    | nil => rfl
    | cons d ds ih => show toP d :: toPL ds = _; rw [ih]; rfl
  by_cases h : (as.map f).all scalD = true
  · rw [if_pos (by rw [h]; rfl)]
    congr 2
    have al : ∀ a ∈ as, eqV (valD (f a)) (valD .non) = b a := fun a ha => by
      cases hb : b a with
      | true => rw [h1 a hb]; rfl
      | false => exact (h2 a hb).2 (List.all_eq_true.mp h _ (List.mem_map_of_mem ha))
    unfold inD
    rw [List.any_map]
    clear h
    induction as with
    | nil => rfl
    | cons a r ih =>
      rw [List.any_cons, List.any_cons, ih fun x hx => al x (List.mem_cons_of_mem _ hx)]
      congr 1
      exact al a List.mem_cons_self
  · have sh : shp (.lst (as.map f)) = true := shp_of (n := n + 1) (by omega)
    rw [if_neg (by rw [Bool.and_eq_true]; exact fun z => h z.2), if_pos (by rw [sh]; rfl)]
    congr 2
    rw [toPLm, List.map_map, List.any_map]
    congr 1
    funext a
    show PyData.eqv (toP (f a)) .none = _
    cases hb : b a with
    | true => rw [h1 a hb]; rfl
    | false => exact (h2 a hb).1
theorem none_oi (os : List (Option Int)) : cpD .inn .non (.lst (os.map oiD)) = .ok (.bl (os.any fun o => o.isNone)) := by
  refine none_inG oiD (fun o => o.isNone) (by decide) os (fun o h => ?_) fun o h => ?_
  · cases o with
    | none => rfl
    | some _ => cases h
  · cases o with
    | none => cases h
    | some i => exact ⟨by unfold oiD toP PyData.eqv; rfl, fun _ => rfl⟩
/-! ### the law's own reading of a fraction -/
theorem gcd_mod_any (a b : Int) : Int.gcd (a % b) b = Int.gcd a b := by
  have e := Int.emod_add_mul_ediv a b
  refine Nat.dvd_antisymm (Nat.dvd_gcd ?_ (Int.natCast_dvd_natCast.mp (by
    have := Int.gcd_dvd_right (a % b) b
    exact Int.dvd_natAbs.mpr this))) (Nat.dvd_gcd ?_ (Int.natCast_dvd_natCast.mp (by
    have := Int.gcd_dvd_right a b
    exact Int.dvd_natAbs.mpr this)))
  · refine Int.natCast_dvd_natCast.mp (Int.dvd_natAbs.mpr ?_)
    have d1 := Int.gcd_dvd_left (a % b) b
    have d2 := Int.gcd_dvd_right (a % b) b
    generalize ((Int.gcd (a % b) b : Nat) : Int) = g at *
    rw [← e]
    exact Int.dvd_add d1 (Int.dvd_trans d2 (Int.dvd_mul_right _ _))
  · refine Int.natCast_dvd_natCast.mp (Int.dvd_natAbs.mpr ?_)
    have d1 := Int.gcd_dvd_left a b
    have d2 := Int.gcd_dvd_right a b
    generalize ((Int.gcd a b : Nat) : Int) = g at *
    have e2 : a % b = a - b * (a / b) := by omega
    rw [e2]
    exact Int.dvd_sub d1 (Int.dvd_trans d2 (Int.dvd_mul_right _ _))
theorem ldiv_any (a b : Int) (hb : 0 < b) : F__law_divisor [.int a, .int b] = .ok (.int (Int.gcd a b)) := by
  rw [D__law_divisor]
  have go : ∀ (n : Nat) (a b : Int), b.toNat = n → 0 ≤ a → 0 ≤ b →
    wlO (.cmp .ne (.var 1) (.lit (.int 0))) [.par 0 1 (.var 1) (.bin .mod (.var 0) (.var 1))] [.v (.int a), .v (.int b)] = .nx [.v (.int (Int.gcd a b)), .v (.int 0)] := by
    intro n
    induction n using Nat.strongRecOn with
    | _ n ih =>
      intro a b hn ha hb
      by_cases h : b = 0
      · subst h
        rw [wl_stop (by simp -dsimp -implicitDefEqProofs [])]
        simp -dsimp -implicitDefEqProofs [Int.natAbs_of_nonneg ha]
      · have h0 : 0 < b := by omega
        rw [wl_nx (ρ' := [.v (.int b), .v (.int (a.fmod b))]) (by simp -dsimp -implicitDefEqProofs [h]) (by simp -dsimp -implicitDefEqProofs [h])]
        have e : a.fmod b = a % b := Int.fmod_eq_emod_of_nonneg a hb
        rw [e]
        rw [ih (a % b).toNat (by have := Int.emod_lt_of_pos a h0; have := Int.emod_nonneg a h; omega) b (a % b) rfl hb (Int.emod_nonneg a h)]
        have g : Int.gcd b (a % b) = Int.gcd a b := by rw [Int.gcd_comm, emod_gcd a b ha, Int.gcd_comm]
        rw [g]
  have h : ¬ b = 0 := by omega
  have e : a.fmod b = a % b := Int.fmod_eq_emod_of_nonneg a (by omega)
  have st := wl_nx (c := .cmp .ne (.var 1) (.lit (.int 0))) (b := [.par 0 1 (.var 1) (.bin .mod (.var 0) (.var 1))]) (ρ := [.v (.int a), .v (.int b)]) (ρ' := [.v (.int b), .v (.int (a.fmod b))]) (by simp -dsimp -implicitDefEqProofs [h]) (by simp -dsimp -implicitDefEqProofs [h])
  rw [e, go _ b (a % b) rfl (by omega) (Int.emod_nonneg a h)] at st
  have g : Int.gcd b (a % b) = Int.gcd a b := by
    rw [Int.gcd_comm b (a % b), gcd_mod_any a b]
  rw [g] at st
  simp -dsimp -implicitDefEqProofs [B__law_divisor, st]
def orD : Option (Int × Int) → D
  | some p => crD p
  | none => .non
instance pl_or (o : Option (Int × Int)) : Pl (orD o) 1 := by
  cases o with
  | none => exact ⟨rfl, Nat.zero_le _⟩
  | some p => exact pl_cr p
theorem words_one {c : Nat} {l : List Nat} (h : c ∉ l) : wordsL c l = [l] := by
  unfold wordsL
  have := TL.spl_last1 (S := []) (acc := []) h
  rw [List.nil_append] at this
  exact this
theorem words_two {c : Nat} {l : List Nat} (h : c ∈ l) : wordsL c l = bef c l :: wordsL c (aft c l) := by
  have e := bef_aft h
  unfold wordsL
  have := TL.spl_part1 (s := c) (S := []) (p := bef c l) (rest := aft c l) (acc := []) bef_no
  rw [List.nil_append] at this
  rw [← this]
  congr 1
  rw [List.append_assoc] at e
  exact e
theorem fig_whole {m : List Nat} {n : Nat} (h : figR m = some n) : wholeR m = some (n : Int) := by
  have hd : m.head? ≠ some 45 := fun z => by
    unfold figR at h
    split at h
    · rename_i g
      cases m with
      | nil => cases z
      | cons c r =>
        injection z with z
        have := all_digits g.2.2.1 c List.mem_cons_self
        omega
    · cases h
  unfold wholeR
  rw [if_neg hd, h]
  rfl
theorem whole_fig {m : List Nat} {i : Int} (h : wholeR m = some i) (h2 : 0 ≤ i) : figR m = some i.toNat := by
  unfold wholeR at h
  split at h
  · cases e : figR m.tail with
    | none => rw [e] at h; cases h
    | some n =>
      rw [e] at h
      cases n with
      | zero => cases h
      | succ k =>
        injection h with h
        omega
  · cases e : figR m with
    | none => rw [e] at h; cases h
    | some n =>
      rw [e] at h
      injection h with h
      have h : (n : Int) = i := h
      have : i.toNat = n := by omega
      rw [this]
theorem lfrac_any {l : List Nat} (rd : Rd l) : F__law_fraction [.str (T l)] = .ok (orD (ratioR l)) := by
  have hle := rd.le
  have sp := split_any (l := l) 47 (by decide) (by omega)
  have wl := words_len 47 l
  have lc : ∀ s1 s2, lcR ((wordsL 47 l).map fun w => .str (T w)) (condR [.v s1, .v s2, .n, .n] (.nm 3) .nop) (eltR [.v s1, .v s2, .n, .n] (.nm 3) (.call N__law_whole_in false [(.var 3)])) = .ok (((wordsL 47 l).map wholeR).map oiD) := fun s1 s2 => by
    rw [List.map_map]
    refine lcR_mapA (en := fun w => .str (T w)) fun w hw => ?_
    have c := lwhole_any (rd.sub (words_inf hw))
    exact ⟨by simp -dsimp -implicitDefEqProofs [], by simp -dsimp -implicitDefEqProofs [c]⟩
  have lc := lc (.str (T l)) (.lst ((wordsL 47 l).map fun w => .str (T w)))
  have ln : bltD .len [.lst ((wordsL 47 l).map fun w => .str (T w))] = .ok (.int ((wordsL 47 l).length : Nat)) := by
    show R.ok (D.int ((wordsL 47 l).map fun w => D.str (T w)).length) = _
    rw [List.length_map]
  have ll : (((wordsL 47 l).map wholeR).map oiD).length ≤ 16777216 := by rw [List.length_map, List.length_map]; omega
  have ni := none_oi ((wordsL 47 l).map wholeR)
  rw [D__law_fraction]
  by_cases m : 47 ∈ l
  · have rr : ratioR l = (match wholeR (bef 47 l), figR (aft 47 l) with
      | some n, some d => if d ≠ 1 ∧ 1 ≤ d ∧ Int.gcd n d = 1 then some (n, (d : Int)) else none
      | _, _ => none) := by
      unfold ratioR
      rw [if_pos m]
      all_goals (cases wholeR (bef 47 l) <;> cases figR (aft 47 l) <;> rfl)
    have w2 := words_two m
    by_cases m2 : 47 ∈ aft 47 l
    · -- three parts
      have no : figR (aft 47 l) = none := if_neg fun z => by
        have := all_digits z.2.2.1 47 m2
        omega
      have rn : ratioR l = none := by
        rw [rr, no]
        cases wholeR (bef 47 l) <;> rfl
      rw [rn]
      have big : (2 : Int) < ((wordsL 47 l).length : Int) := by
        rw [w2, words_two m2, List.length_cons, List.length_cons]
        have := List.length_pos_iff.mpr (words_ne 47 (aft 47 (aft 47 l)))
        omega
      generalize (wordsL 47 l).map (fun w => D.str (T w)) = L at *
      cases hb : ((wordsL 47 l).map wholeR).any fun o => o.isNone with
      | true =>
        rw [hb] at ni
        generalize ((wordsL 47 l).map wholeR).map oiD = M at *
        simp -dsimp -implicitDefEqProofs [B__law_fraction, sp, lc, lstR_of ll, ni]
        rfl
      | false =>
        rw [hb] at ni
        generalize ((wordsL 47 l).map wholeR).map oiD = M at *
        simp -dsimp -implicitDefEqProofs [B__law_fraction, sp, lc, lstR_of ll, ni, ln, big]
        rfl
    · have e2 : wordsL 47 l = [bef 47 l, aft 47 l] := by rw [w2, words_one m2]
      rw [e2] at sp lc ln ll ni
      have ln : bltD .len [.lst ([bef 47 l, aft 47 l].map fun w => .str (T w))] = .ok (.int 2) := ln
      rw [rr]
      generalize hLL : ([bef 47 l, aft 47 l].map fun w => D.str (T w)) = L at *
      cases h1 : wholeR (bef 47 l) with
      | none =>
        have hb : (([bef 47 l, aft 47 l].map wholeR).any fun o => o.isNone) = true := by
          simp [h1]
        rw [hb] at ni
        generalize ([bef 47 l, aft 47 l].map wholeR).map oiD = M at *
        simp -dsimp -implicitDefEqProofs [B__law_fraction, sp, lc, lstR_of ll, ni]
        rfl
      | some x =>
        cases h2 : wholeR (aft 47 l) with
        | none =>
          have hb : (([bef 47 l, aft 47 l].map wholeR).any fun o => o.isNone) = true := by
            simp [h2]
          rw [hb] at ni
          have no : figR (aft 47 l) = none := by
            cases h3 : figR (aft 47 l) with
            | none => rfl
            | some n => rw [fig_whole h3] at h2; cases h2
          rw [no]
          generalize ([bef 47 l, aft 47 l].map wholeR).map oiD = M at *
          simp -dsimp -implicitDefEqProofs [B__law_fraction, sp, lc, lstR_of ll, ni]
          rfl
        | some y =>
          have hb : (([bef 47 l, aft 47 l].map wholeR).any fun o => o.isNone) = false := by
            simp [h1, h2]
          rw [hb] at ni
          have eM : ([bef 47 l, aft 47 l].map wholeR).map oiD = [.int x, .int y] := by
            simp [h1, h2, oiD]
          rw [eM] at lc ll ni
          by_cases y2 : y < 2
          · have rn : (match figR (aft 47 l) with | some d => if d ≠ 1 ∧ 1 ≤ d ∧ Int.gcd x d = 1 then some (x, (d : Int)) else none | none => none) = none := by
              cases h3 : figR (aft 47 l) with
              | none => rfl
              | some n =>
                have := fig_whole h3
                rw [h2] at this
                injection this with this
                show (if n ≠ 1 ∧ 1 ≤ n ∧ Int.gcd x n = 1 then some (x, (n : Int)) else none) = none
                rw [if_neg fun z => by omega]
            have rn2 : (match some x, figR (aft 47 l) with | some n, some d => if d ≠ 1 ∧ 1 ≤ d ∧ Int.gcd n d = 1 then some (n, (d : Int)) else none | _, _ => none) = none := by
              cases h3 : figR (aft 47 l) with
              | none => rfl
              | some n => rw [h3] at rn; exact rn
            rw [rn2]
            simp -dsimp -implicitDefEqProofs [B__law_fraction, sp, lc, lstR_of ll, ni, ln, y2]
            rfl
          · have fg := whole_fig h2 (by omega)
            obtain ⟨k, rfl⟩ := Int.eq_ofNat_of_zero_le (show 0 ≤ y by omega)
            rw [Int.toNat_natCast] at fg
            have dv := ldiv_any x (k : Int) (by omega)
            rw [fg]
            show _ = R.ok (orD (if k ≠ 1 ∧ 1 ≤ k ∧ Int.gcd x k = 1 then some (x, (k : Int)) else none))
            by_cases g : Int.gcd x k = 1
            · rw [if_pos ⟨by omega, by omega, g⟩]
              rw [g] at dv
              simp -dsimp -implicitDefEqProofs [B__law_fraction, sp, lc, lstR_of ll, ni, ln, y2, dv]
              rfl
            · rw [if_neg fun z => g z.2.2]
              have g2 : ¬ ((Int.gcd x k : Nat) : Int) = 1 := by omega
              generalize ((Int.gcd x (k : Int) : Nat) : Int) = G at dv g2
              simp -dsimp -implicitDefEqProofs [B__law_fraction, sp, lc, lstR_of ll, ni, ln, y2, dv, g2]
              rfl
  · have e1 := words_one m
    rw [e1] at sp lc ln ll ni
    have ln : bltD .len [.lst ([l].map fun w => .str (T w))] = .ok (.int 1) := ln
    have rr : ratioR l = (wholeR l).map fun n => (n, 1) := if_neg m
    rw [rr]
    generalize hLL : ([l].map fun w => D.str (T w)) = L at *
    cases h1 : wholeR l with
    | none =>
      have hb : (([l].map wholeR).any fun o => o.isNone) = true := by simp [h1]
      rw [hb] at ni
      generalize ([l].map wholeR).map oiD = M at *
      simp -dsimp -implicitDefEqProofs [B__law_fraction, sp, lc, lstR_of ll, ni]
      rfl
    | some x =>
      have hb : (([l].map wholeR).any fun o => o.isNone) = false := by simp [h1]
      rw [hb] at ni
      have eM : ([l].map wholeR).map oiD = [.int x] := by simp [h1, oiD]
      rw [eM] at lc ll ni
      simp -dsimp -implicitDefEqProofs [B__law_fraction, sp, lc, lstR_of ll, ni, ln]
      rfl
end OL.LW
namespace OL.LW
open PySem PySem.Spec PyProof.Rows L2
/-- a drawn fraction -/
structure DQ (q : Rat) : Prop where
  nu : q.num.natAbs < 10 ^ 60
  de : q.den < 10 ^ 60
theorem DQ.bq {q : Rat} (h : DQ q) : Bq q 300 300 := ⟨Nat.lt_trans h.nu (by decide +kernel), Nat.le_of_lt (Nat.lt_trans h.de (by decide +kernel))⟩
theorem lratio_any {a b : Int} (hb : 0 < b) (hs : b.natAbs < 2 ^ 9000) : F__law_ratio [.int a, .int b] = .ok (frD (Rat.divInt a b)) := by
  have cm := ldiv_any a b hb
  have dv := (dvo_gcd (a := a) (b := b) (by omega) hs).1
  rw [fr_pos hb]
  simp -dsimp -implicitDefEqProofs [D__law_ratio, B__law_ratio, cm, dv]
theorem drawn_ok {c : Nat} {p : Pot} (h : PO c p) (hc : c ≤ 90000) : ∃ (q : Rat) (p' : Pot), F__law_drawn [.lst (potD p)] = .ok (.tup [frD q, .lst (potD p')]) ∧ DQ q ∧ PO (c + 12) p' := by
  have p60 : pwOk 10 60 = true := by decide
  obtain ⟨v1, p1, e1, a1, b1, k1⟩ := take_ok h (by omega) (s := 4) (by decide) (by decide)
  obtain ⟨s1, i1, y1⟩ := ix4 (x := 4) (y := 12) (z := 1000) (w := 999999999999999999999999999999999999999999999999999999999999) a1 b1
  have hs1 : 0 < s1 ∧ s1 ≤ 999999999999999999999999999999999999999999999999999999999999 := by rcases y1 with rfl | rfl | rfl | rfl <;> exact ⟨by decide, by decide⟩
  obtain ⟨v2, p2, e2, a2, b2, k2⟩ := wide_ok k1 (by omega) (s := s1) hs1.1 (Nat.lt_of_le_of_lt (by omega : s1.natAbs ≤ 999999999999999999999999999999999999999999999999999999999999) (by decide +kernel))
  obtain ⟨v3, p3, e3, a3, b3, k3⟩ := take_ok k2 (by omega) (s := 2) (by decide) (by decide)
  obtain ⟨v4, p4, e4, a4, b4, k4⟩ := take_ok k3 (by omega) (s := 4) (by decide) (by decide)
  obtain ⟨s2, i2, y2⟩ := ix4 (x := 1) (y := 4) (z := 60) (w := 999999999999999999999999999999999999999999999999999999999999) a4 b4
  have hs2 : 0 < s2 ∧ s2 ≤ 999999999999999999999999999999999999999999999999999999999999 := by rcases y2 with rfl | rfl | rfl | rfl <;> exact ⟨by decide, by decide⟩
  obtain ⟨v5, p5, e5, a5, b5, k5⟩ := wide_ok k4 (by omega) (s := s2) hs2.1 (Nat.lt_of_le_of_lt (by omega : s2.natAbs ≤ 999999999999999999999999999999999999999999999999999999999999) (by decide +kernel))
  have m1 : mulOk 2 v3 = true := mulOk_l (by decide)
  have m2 : mulOk v2 (1 - 2 * v3) = true := mulOk_r (Nat.lt_of_le_of_lt (by omega : (1 - 2 * v3).natAbs ≤ 1) (by decide))
  obtain ⟨t, ht⟩ : ∃ t, t = v2 * (1 - 2 * v3) := ⟨_, rfl⟩
  have tb : t.natAbs < 999999999999999999999999999999999999999999999999999999999999 := by
    have : v3 = 0 ∨ v3 = 1 := by omega
    rcases this with rfl | rfl
    · rw [ht]; omega
    · rw [ht]; omega
  have r := lratio_any (a := t) (b := 1 + v5) (by omega) (Nat.lt_of_le_of_lt (by omega : (1 + v5).natAbs ≤ 999999999999999999999999999999999999999999999999999999999999) (by decide +kernel))
  obtain ⟨f1, f2, f3, f4, f5⟩ := rat_facts (a := t) (b := 1 + v5) (by omega)
  obtain ⟨g1, g2⟩ := rat_eq (a := t) (b := 1 + v5) (by omega)
  have big : (10 : Nat) ^ 60 = 1000000000000000000000000000000000000000000000000000000000000 := by decide +kernel
  refine ⟨Rat.divInt t (1 + v5), p5, ?_, ⟨by rw [g1, big]; omega, by rw [big]; omega⟩, k5.up (by omega)⟩
  simp -dsimp -implicitDefEqProofs [D__law_drawn, B__law_drawn, N__law_take, N__law_wide, e1, p60, i1, e2, e3, m1, m2, e4, i2, e5, ← ht, r]
end OL.LW
namespace OL.LW
open PySem PySem.Spec PyProof.Rows L2
/-! ### a text altered -/
def sigL : List Nat := [48, 49, 50, 51, 52, 53, 54, 55, 56, 57, 45, 47, 43, 32, 46, 44, 58, 120]
theorem lit_sig : ("0123456789-/+ .,:x" : Str) = T sigL := by decide +kernel
theorem ix_sig {v : Int} (h0 : 0 ≤ v) (h1 : v < 18) : ∃ c : Nat, ixD (.str "0123456789-/+ .,:x") (.int v) = .ok (.str (T [c])) ∧ c < 0x110000 := by
  obtain ⟨n, rfl⟩ := Int.eq_ofNat_of_zero_le h0
  have hn : n < sigL.length := by show n < 18; omega
  refine ⟨sigL[n], ?_, ?_⟩
  · rw [lit_sig]
    show (if (T sigL).length ≤ 16777216 then (match atI sigL (n : Int) with | some c => R.ok (D.str ⟨#[c]⟩) | none => .bad) else .bad) = _
    rw [T_len, if_pos (by decide), atI_nat (List.getElem?_eq_getElem hn)]
    rfl
  · have : ∀ c ∈ sigL, c < 0x110000 := by decide
    exact this _ (List.getElem_mem hn)
theorem sl_any {l : List Nat} (h : l.length ≤ 16777216) (n : Nat) : ∃ m, slD (.str (T l)) (some (n : Int)) none = .ok (.str (T m)) ∧ (∀ c ∈ m, c ∈ l) ∧ m.length ≤ l.length - min n l.length := by
  refine ⟨_, sl_T h _ _, fun c hc => List.mem_of_mem_drop (List.mem_of_mem_take hc), ?_⟩
  rw [HT.sIx_nat, HT.sIx_none, List.length_take, List.length_drop]
  omega
theorem sl_to {l : List Nat} (h : l.length ≤ 16777216) {n : Nat} (hn : n ≤ l.length) : slD (.str (T l)) none (some (n : Int)) = .ok (.str (T (l.take n))) := by
  rw [sl_T h, HT.sIx_none, HT.sIx_nat, Nat.min_eq_left hn, List.drop_zero, Nat.sub_zero]
theorem altered_ok {c : Nat} {p : Pot} (h : PO c p) (hc : c ≤ 100000) {l : List Nat} (hs : Scp l) (hl : l.length ≤ 100000) {K : Nat} (hK : K ≤ 10) : ∃ (m : List Nat) (p' : Pot), F__law_altered [.lst (potD p), .str (T l), .int (K : Int)] = .ok (.tup [.str (T m), .lst (potD p')]) ∧ Scp m ∧ m.length ≤ l.length + K ∧ PO (c + 100) p' := by
  obtain ⟨P, hP⟩ : ∃ P : D → List D → Prop, P = fun v out => ∃ (m : List Nat) (p' : Pot), v = .str (T m) ∧ out = potD p' ∧ Scp m ∧ m.length ≤ l.length + K ∧ PO (c + 100) p' := ⟨_, rfl⟩
  have goal : ∃ v out, F__law_altered [.lst (potD p), .str (T l), .int (K : Int)] = .ok (.tup [v, .lst out]) ∧ P v out := by
    rw [D__law_altered]
    apply endQ_ex
    obtain ⟨v1, p1, e1, a1, b1, k1⟩ := take_ok h (by omega) (s := (K : Int) + 1) (by omega) (Nat.lt_of_le_of_lt (by omega : ((K : Int) + 1).natAbs ≤ 11) (by decide))
    obtain ⟨n, rfl⟩ := Int.eq_ofNat_of_zero_le a1
    obtain ⟨I, hI⟩ : ∃ I : List D → En → Prop, I = fun r ρ => ∃ (m : List Nat) (q : Pot) (s4 s5 s6 : Sl), ρ = [.q (potD q), .v (.str (T l)), .v (.int (K : Int)), .v (.str (T m)), s4, s5, s6] ∧ Scp m ∧ m.length + r.length ≤ l.length + n ∧ r.length ≤ 10 ∧ PO (c + 90 - 5 * r.length) q := ⟨_, rfl⟩
    have rg := rng_n (n := n) (by omega)
    simp -dsimp -implicitDefEqProofs [B__law_altered, N__law_take, e1, rg]
    refine fo_sq I ?_ ?_ ?_
    · rw [hI]
      refine ⟨l, p1, _, _, _, rfl, hs, by simp, by simp; omega, k1.up ?_⟩
      simp
      omega
    · intro d r ρ i
      rw [hI] at i
      obtain ⟨m, q, s4, s5, s6, rfl, sm', ml, rl, kq⟩ := i
      rw [List.length_cons] at ml rl kq
      have mlen : m.length ≤ 100010 := by omega
      have lm := len_T (l := m) (by omega)
      obtain ⟨v2, p2, e2, a2, b2, k2⟩ := take_ok kq (by omega) (s := (m.length : Int) + 1) (by omega) (Nat.lt_of_le_of_lt (by omega : ((m.length : Int) + 1).natAbs ≤ 100011) (by decide))
      obtain ⟨v3, p3, e3, a3, b3, k3⟩ := take_ok k2 (by omega) (s := 18) (by decide) (by decide)
      obtain ⟨v4, p4, e4, a4, b4, k4⟩ := take_ok k3 (by omega) (s := 3) (by decide) (by decide)
      obtain ⟨v5, p5, e5, a5, b5, k5⟩ := take_ok k4 (by omega) (s := 2) (by decide) (by decide)
      obtain ⟨at', rfl⟩ := Int.eq_ofNat_of_zero_le a2
      obtain ⟨by', rfl⟩ := Int.eq_ofNat_of_zero_le a5
      obtain ⟨sg, gx, gs⟩ := ix_sig a3 b3
      have s1 := sl_to (l := m) (n := at') (by omega) (by omega)
      obtain ⟨m2, s2, sub2, len2⟩ := sl_any (l := m) (by omega) (at' + by')
      have cst : ((at' + by' : Nat) : Int) = (at' : Int) + (by' : Int) := by push_cast; rfl
      rw [cst] at s2
      obtain ⟨mid, i3, ml3, ms3⟩ : ∃ mid : List Nat, ixD (.lst [.str (T []), .str (T [sg]), .str (T [sg])]) (.int v4) = .ok (.str (T mid)) ∧ mid.length ≤ 1 ∧ ∀ c ∈ mid, c < 0x110000 := by
        have : v4 = 0 ∨ v4 = 1 ∨ v4 = 2 := by omega
        rcases this with rfl | rfl | rfl
        · exact ⟨[], by simp, by simp, fun c hc => by cases hc⟩
        · exact ⟨[sg], by simp, by simp, fun c hc => by rw [List.mem_singleton.mp hc]; exact gs⟩
        · exact ⟨[sg], by simp, by simp, fun c hc => by rw [List.mem_singleton.mp hc]; exact gs⟩
      have tl : (m.take at').length = at' := by rw [List.length_take]; omega
      have d1 := add_TT (l := m.take at') (m := mid) (by omega)
      have d2 := add_TT (l := m.take at' ++ mid) (m := m2) (by rw [List.length_append]; omega)
      simp -dsimp -implicitDefEqProofs [N__law_take, lm, e2, e3, gx, s1, e4, i3, e5, s2, d1, d2]
      rw [hI]
      refine ⟨_, p5, _, _, _, rfl, fun c hc => ?_, ?_, by omega, k5.up (by omega)⟩
      · rcases List.mem_append.mp hc with hc | hc
        · exact sm' c (List.mem_of_mem_take hc)
        · rcases List.mem_append.mp hc with hc | hc
          · exact ms3 c hc
          · exact sm' c (sub2 c hc)
      · rw [List.length_append, List.length_append, tl]
        omega
    · intro ρ i
      rw [hI] at i
      obtain ⟨m, q, s4, s5, s6, rfl, sm', ml, rl, kq⟩ := i
      simp -dsimp -implicitDefEqProofs []
      rw [hP]
      exact ⟨m, q, rfl, rfl, sm', by simp at ml; omega, kq.up (by omega)⟩
  obtain ⟨v, out, e, i⟩ := goal
  rw [hP] at i
  obtain ⟨m, p', rfl, rfl, a, b, k⟩ := i
  exact ⟨m, p', e, a, b, k⟩
end OL.LW
namespace OL.LW
open PySem PySem.Spec PyProof.Rows L2
theorem lshown_ok {q : Rat} (h : DQ q) : F__law_shown [frD q] = .ok (.str (T (ratL q))) ∧ (ratL q).length ≤ 1300 := by
  have x := h.bq
  have s1 := str_int (i := q.num) (up19 x.nu (by decide))
  have s2 := str_nat (n := q.den) (up19 (den_lt q) (by decide))
  have l1 := int_len (i := q.num) (up20 x.nu (by decide))
  have l2 := num_len (n := q.den) (up20 (den_lt q) (by decide))
  have a1 := add_TT (l := intL q.num) (m := [47]) (by simp only [List.length_cons, List.length_nil]; omega)
  have a2 := add_TT (l := intL q.num ++ [47]) (m := TL.numL q.den) (by simp only [List.length_append, List.length_cons, List.length_nil]; omega)
  refine ⟨?_, rat_len q (by decide) (by decide)⟩
  rw [D__law_shown]
  unfold ratL
  by_cases h : q.den = 1
  · simp -dsimp -implicitDefEqProofs [B__law_shown, h, s1]
  · have h2 : ¬ ((q.den : Int) = 1) := by omega
    simp -dsimp -implicitDefEqProofs [B__law_shown, h, h2, s1, s2, a1, a2]
/-- a text that is drawn -/
def TxD (d : D) : Prop := ∃ m : List Nat, d = .str (T m) ∧ Scp m ∧ m.length ≤ 2000
theorem ix_any {L : List D} {P : D → Prop} (h : ∀ d ∈ L, P d) {v : Int} (h0 : 0 ≤ v) (h1 : v < L.length) : ∃ d, ixD (.lst L) (.int v) = .ok d ∧ P d := by
  obtain ⟨n, rfl⟩ := Int.eq_ofNat_of_zero_le h0
  have hn : n < L.length := by omega
  refine ⟨L[n], ?_, h _ (List.getElem_mem hn)⟩
  show (match atI L (n : Int) with | some d => R.ok d | none => .bad) = _
  rw [atI_nat (List.getElem?_eq_getElem hn)]
def okS (s : Str) : Bool := s.cps.all (· < 0x110000) && decide (s.length ≤ 50)
def okD : D → Bool
  | .str s => okS s
  | _ => false
theorem txd_of {d : D} (h : okD d = true) : TxD d := by
  cases d <;> (try (cases h; done))
  rename_i s
  have h : okS s = true := h
  unfold okS at h
  rw [Bool.and_eq_true] at h
  refine ⟨TL.tl s, by rw [T_tl], fun c hc => ?_, ?_⟩
  · have a := h.1
    rw [← Array.all_toList, List.all_eq_true] at a
    exact of_decide_eq_true (a c hc)
  · have := of_decide_eq_true h.2
    show s.cps.toList.length ≤ 2000
    rw [Array.length_toList]
    exact Nat.le_trans this (by decide)
theorem txd_T {m : List Nat} (h : Scp m) (h2 : m.length ≤ 2000) : TxD (.str (T m)) := ⟨m, rfl, h, h2⟩
theorem mul_T (l : List Nat) (k : Nat) (h : l.length * k ≤ 16777216) (hk : k < 2 ^ 62) : binD .mul (.str (T l)) (.int (k : Int)) = .ok (.str (T (List.replicate k l).flatten)) := by
  show (if 0 ≤ (k : Int) ∧ (T l).length * ((k : Int)).toNat ≤ 16777216 ∧ (k : Int) < 2 ^ 62 then R.ok (D.str ⟨(List.replicate ((k : Int)).toNat (T l).cps).foldl (· ++ ·) #[]⟩) else .bad) = _
  rw [Int.toNat_natCast, T_len, if_pos ⟨by omega, h, by omega⟩]
  have e : ∀ (n : Nat) (b : Array Nat), (List.replicate n (T l).cps).foldl (· ++ ·) b = b ++ ((List.replicate n l).flatten).toArray := by
    intro n
    induction n with
    | zero => intro b; simp
    | succ n ih =>
      intro b
      rw [List.replicate_succ, List.foldl_cons, ih, List.replicate_succ, List.flatten_cons, ← List.append_toArray, Array.append_assoc]
      rfl
  rw [e]
  simp
  rfl
theorem rep_sg {l : List Nat} (h : Scp l) (k : Nat) : Scp (List.replicate k l).flatten := fun c hc => by
  obtain ⟨m, hm, hc⟩ := List.mem_flatten.mp hc
  rw [(List.mem_replicate.mp hm).2] at hc
  exact h c hc
theorem rep_len (l : List Nat) (k : Nat) : (List.replicate k l).flatten.length = k * l.length := by simp
theorem one_sg {c : Nat} (hc : c < 0x110000) : Scp [c] := fun x hx => by rw [List.mem_singleton.mp hx]; exact hc
def plainL (X1 X2 X3 X4 X5 : D) : List D := [.str (T []), .str (T [45]), .str (T [47]), .str "00", .str "01", .str "-0", .str "+1", .str "1/1", .str "2/4", .str "3/0", .str "1/-2", .str " 1", .str "1 ", .str "1/2/3", .str "1.0", .str "-1/", .str "/2", .str "0/1", .str "0/2", .str "-0/3", .str "1/02", .str "--1", .str "1 /2", .str "1/ 2", .str "1/+2", .str "1e3", .str "1_0", .str "-3/6", .str (T [48]), .str "-7/2", .str (T [45]), X1, X2, X3, X4, X5, .str "x", .str "1:2", .str "1,2"]
theorem plainL_all {X1 X2 X3 X4 X5 : D} (h1 : TxD X1) (h2 : TxD X2) (h3 : TxD X3) (h4 : TxD X4) (h5 : TxD X5) : ∀ d ∈ plainL X1 X2 X3 X4 X5, TxD d := by
  have a1 : ([.str (T []), .str (T [45]), .str (T [47]), .str "00", .str "01", .str "-0", .str "+1", .str "1/1", .str "2/4", .str "3/0", .str "1/-2", .str " 1", .str "1 ", .str "1/2/3", .str "1.0", .str "-1/", .str "/2", .str "0/1", .str "0/2", .str "-0/3", .str "1/02", .str "--1", .str "1 /2", .str "1/ 2", .str "1/+2", .str "1e3", .str "1_0", .str "-3/6", .str (T [48]), .str "-7/2", .str (T [45])] : List D).all okD = true := by decide +kernel
  have a2 : ([.str "x", .str "1:2", .str "1,2"] : List D).all okD = true := by decide +kernel
  have e : plainL X1 X2 X3 X4 X5 = [.str (T []), .str (T [45]), .str (T [47]), .str "00", .str "01", .str "-0", .str "+1", .str "1/1", .str "2/4", .str "3/0", .str "1/-2", .str " 1", .str "1 ", .str "1/2/3", .str "1.0", .str "-1/", .str "/2", .str "0/1", .str "0/2", .str "-0/3", .str "1/02", .str "--1", .str "1 /2", .str "1/ 2", .str "1/+2", .str "1e3", .str "1_0", .str "-3/6", .str (T [48]), .str "-7/2", .str (T [45])] ++ ([X1, X2, X3, X4, X5] ++ [.str "x", .str "1:2", .str "1,2"]) := rfl
  rw [e]
  intro d hd
  rcases List.mem_append.mp hd with hd | hd
  · exact txd_of (List.all_eq_true.mp a1 d hd)
  · rcases List.mem_append.mp hd with hd | hd
    · simp only [List.mem_cons, List.not_mem_nil, or_false] at hd
      rcases hd with rfl | rfl | rfl | rfl | rfl <;> assumption
    · exact txd_of (List.all_eq_true.mp a2 d hd)
theorem plain_ok {c : Nat} {p : Pot} (h : PO c p) (hc : c ≤ 90000) : ∃ (m : List Nat) (p' : Pot), F__law_plain [.lst (potD p)] = .ok (.tup [.str (T m), .lst (potD p')]) ∧ Scp m ∧ m.length ≤ 2000 ∧ PO (c + 1) p' := by
  obtain ⟨v1, p1, e1, a1, b1, k1⟩ := take_ok h (by omega) (s := 39) (by decide) (by decide)
  have goal : ∃ d, F__law_plain [.lst (potD p)] = .ok (.tup [d, .lst (potD p1)]) ∧ TxD d := by
    have q1 := mul_T [49] 1001 (by decide) (by decide)
    have q2 := mul_T [50] 1001 (by decide) (by decide)
    have q3 := mul_T [51] 1001 (by decide) (by decide)
    have q4 := mul_T [49] 1000 (by decide) (by decide)
    have q5 := mul_T [48] 2 (by decide) (by decide)
    have s1 := txd_T (rep_sg (one_sg (c := 49) (by decide)) 1001) (by rw [rep_len]; decide)
    have g2 := rep_sg (one_sg (c := 50) (by decide)) 1001
    have g3 := rep_sg (one_sg (c := 51) (by decide)) 1001
    have n2 := rep_len [50] 1001
    have n3 := rep_len [51] 1001
    have s4 := txd_T (rep_sg (one_sg (c := 49) (by decide)) 1000) (by rw [rep_len]; decide)
    have s5 := txd_T (rep_sg (one_sg (c := 48) (by decide)) 2) (by rw [rep_len]; decide)
    have lt1 : ("1" : Str) = T [49] := by decide +kernel
    have lt2 : ("2" : Str) = T [50] := by decide +kernel
    have lt3 : ("3" : Str) = T [51] := by decide +kernel
    have lt4 : ("1/" : Str) = T [49, 47] := by decide +kernel
    rw [show ((1001 : Nat) : Int) = 1001 from rfl] at q1 q2 q3
    rw [show ((1000 : Nat) : Int) = 1000 from rfl] at q4
    rw [show ((2 : Nat) : Int) = 2 from rfl] at q5
    obtain ⟨R1, hR1⟩ : ∃ R, R = (List.replicate 1001 [49]).flatten := ⟨_, rfl⟩
    obtain ⟨R2, hR2⟩ : ∃ R, R = (List.replicate 1001 [50]).flatten := ⟨_, rfl⟩
    obtain ⟨R3, hR3⟩ : ∃ R, R = (List.replicate 1001 [51]).flatten := ⟨_, rfl⟩
    obtain ⟨R4, hR4⟩ : ∃ R, R = (List.replicate 1000 [49]).flatten := ⟨_, rfl⟩
    obtain ⟨R5, hR5⟩ : ∃ R, R = (List.replicate 2 [48]).flatten := ⟨_, rfl⟩
    rw [← hR1] at q1 s1
    rw [← hR2] at q2 g2 n2
    rw [← hR3] at q3 g3 n3
    rw [← hR4] at q4 s4
    rw [← hR5] at q5 s5
    clear hR1 hR2 hR3 hR4 hR5
    have d2 := add_TT (l := [45]) (m := R2) (by rw [n2]; decide)
    have d3 := add_TT (l := [49, 47]) (m := R3) (by rw [n3]; decide)
    have s2 : TxD (.str (T ([45] ++ R2))) := txd_T ((one_sg (by decide)).app g2) (by rw [List.length_append, n2]; decide)
    have s3 : TxD (.str (T ([49, 47] ++ R3))) := txd_T (Scp.app (fun c hc => by
      rcases List.mem_cons.mp hc with rfl | hc
      · decide
      · rw [List.mem_singleton.mp hc]; decide) g3) (by rw [List.length_append, n3]; decide)
    obtain ⟨X1, hX1⟩ : ∃ X, X = D.str (T R1) := ⟨_, rfl⟩
    obtain ⟨X2, hX2⟩ : ∃ X, X = D.str (T ([45] ++ R2)) := ⟨_, rfl⟩
    obtain ⟨X3, hX3⟩ : ∃ X, X = D.str (T ([49, 47] ++ R3)) := ⟨_, rfl⟩
    obtain ⟨X4, hX4⟩ : ∃ X, X = D.str (T R4) := ⟨_, rfl⟩
    obtain ⟨X5, hX5⟩ : ∃ X, X = D.str (T R5) := ⟨_, rfl⟩
    rw [← hX1] at q1 s1
    rw [← hX2] at d2 s2
    rw [← hX3] at d3 s3
    rw [← hX4] at q4 s4
    rw [← hX5] at q5 s5
    clear hX1 hX2 hX3 hX4 hX5
    obtain ⟨d, ed, td⟩ := ix_any (plainL_all s1 s2 s3 s4 s5) a1 b1
    unfold plainL at ed
    refine ⟨d, ?_, td⟩
    rw [D__law_plain]
    simp -dsimp -implicitDefEqProofs [B__law_plain, N__law_take, lt1, lt2, lt3, lt4, q1, q2, q3, q4, q5, d2, d3, e1, ed]
  obtain ⟨d, e, m, rfl, a, b⟩ := goal
  exact ⟨m, p1, e, a, b, k1⟩
end OL.LW
namespace OL.LW
open PySem PySem.Spec PyProof.Rows L2
/-- what is told of a text -/
def dueD (o : Option (Int × Int)) : D := match o with
  | some p => crD p
  | none => .tup [.str "refused", .bl true, .bl true, .bl false]
theorem told_ok {l : List Nat} (rd : Rd l) : F__law_told_of [.str (T l)] = .ok (dueD (ratioR l)) := by
  have r := rd.ratio
  rw [D__law_told_of]
  cases h : ratioR l with
  | some p =>
    rw [h] at r
    have r : F_read_ratio [.str (T l)] = .ok (crD p) := r
    simp -dsimp -implicitDefEqProofs [B__law_told_of, r, dueD]
  | none =>
    rw [h] at r
    have r : F_read_ratio [.str (T l)] = .exc "NoText" := r
    simp -dsimp -implicitDefEqProofs [B__law_told_of, r, dueD, subX, subY]
theorem law_true : ∀ ns : List Int, ns.length ≤ 63 → F_law [.scr ns] = .ok (.bl true) := by
  intro ns hn
  rw [D_law]
  apply end_is
  obtain ⟨L, hL⟩ : ∃ L : List D, L = (0 :: ns).map .int := ⟨_, rfl⟩
  have ad : binD .add (.lst [.int 0]) (.scr ns) = .ok (.lst ((0 :: ns).map .int)) := by
    show (if [D.int 0].length + ns.length ≤ 16777216 then R.ok (D.lst ([D.int 0] ++ ns.map .int)) else .bad) = _
    rw [if_pos (by simp; omega)]
    rfl
  rw [← hL] at ad
  simp -dsimp -implicitDefEqProofs [B_law, ad]
  obtain ⟨I, hI⟩ : ∃ I : List D → En → Prop, I = fun r ρ => (∃ s1 s2 s3 s4 : Sl, ρ = [.v (.scr ns), s1, s2, s3, s4]) ∧ ∀ d ∈ r, ∃ k : Int, d = .int k := ⟨_, rfl⟩
  refine fo_sq I ?_ ?_ ?_
  · rw [hI]
    refine ⟨⟨_, _, _, _, rfl⟩, fun d hd => ?_⟩
    rw [hL] at hd
    obtain ⟨k, _, rfl⟩ := List.mem_map.mp hd
    exact ⟨k, rfl⟩
  · intro d r ρ h
    rw [hI] at h
    obtain ⟨⟨s1, s2, s3, s4, rfl⟩, hr⟩ := h
    obtain ⟨cell, rfl⟩ := hr d List.mem_cons_self
    obtain ⟨p0, f1, k0⟩ := begun_ok cell
    obtain ⟨q, p1, f2, dq, k1⟩ := drawn_ok k0 (by omega)
    obtain ⟨sh, ln⟩ := lshown_ok dq
    obtain ⟨am, p2, f3, as, al, k2⟩ := altered_ok k1 (by omega) (rat_sg q) (by omega) (K := 3) (by decide)
    have f3 : F__law_altered [.lst (potD p1), .str (T (ratL q)), .int 3] = .ok (.tup [.str (T am), .lst (potD p2)]) := f3
    obtain ⟨v3, p3, f4, a3, b3, k3⟩ := take_ok k2 (by omega) (s := 3) (by decide) (by decide)
    have fin : ∀ (m : List Nat), Rd m → F__law_fraction [.str (T m)] = .ok (orD (ratioR m)) ∧ F__law_told_of [.str (T m)] = .ok (dueD (ratioR m)) := fun m rd => ⟨lfrac_any rd, told_ok rd⟩
    have same : ∀ o, cpD .ne (dueD o) (dueD o) = .ok (.bl false) := fun o => by
      cases o with
      | none =>
        haveI : Pl (.tup [.str "refused", .bl true, .bl true, .bl false]) 1 := ⟨by decide +kernel, by decide +kernel⟩
        exact ne_self (d := .tup [.str "refused", .bl true, .bl true, .bl false]) (n := 1) (by decide)
      | some p => unfold dueD; exact ne_self (n := 1) (by decide)
    have isn : cpD .is .non .non = .ok (.bl true) := rfl
    have isc : ∀ x : Int × Int, cpD .is (crD x) .non = .ok (.bl false) := fun _ => rfl
    by_cases c : v3 = 0
    · obtain ⟨pm, p4, f5, ps, pl, k4⟩ := plain_ok k3 (by omega)
      obtain ⟨g1, g2⟩ := fin pm ⟨ps, by omega, trivial⟩
      have sa := same (ratioR pm)
      generalize potD p3 = P3 at *
      generalize potD p4 = P4 at *
      generalize T pm = PM at *
      generalize T am = AM at *
      generalize T (ratL q) = QT at *
      generalize frD q = Q at *
      cases hq : ratioR pm with
      | none =>
        rw [hq] at g1 g2 sa
        unfold dueD at g2 sa
        unfold orD at g1
        simp -dsimp -implicitDefEqProofs [f1, N__law_altered, N__law_drawn, f2, sh, f3, N__law_take, f4, c, N__law_plain, f5, g1, g2, sa, isn, isc]
        rw [hI]
        exact ⟨⟨_, _, _, _, rfl⟩, fun d h => hr d (List.mem_cons_of_mem _ h)⟩
      | some x =>
        rw [hq] at g1 g2 sa
        unfold dueD at g2 sa
        unfold orD at g1
        simp -dsimp -implicitDefEqProofs [f1, N__law_altered, N__law_drawn, f2, sh, f3, N__law_take, f4, c, N__law_plain, f5, g1, g2, sa, isn, isc]
        rw [hI]
        exact ⟨⟨_, _, _, _, rfl⟩, fun d h => hr d (List.mem_cons_of_mem _ h)⟩
    · obtain ⟨g1, g2⟩ := fin am ⟨as, by omega, trivial⟩
      have sa := same (ratioR am)
      generalize potD p3 = P3 at *
      generalize T am = AM at *
      generalize T (ratL q) = QT at *
      generalize frD q = Q at *
      cases hq : ratioR am with
      | none =>
        rw [hq] at g1 g2 sa
        unfold dueD at g2 sa
        unfold orD at g1
        simp -dsimp -implicitDefEqProofs [f1, N__law_altered, N__law_drawn, f2, sh, f3, N__law_take, f4, c, g1, g2, sa, isn, isc]
        rw [hI]
        exact ⟨⟨_, _, _, _, rfl⟩, fun d h => hr d (List.mem_cons_of_mem _ h)⟩
      | some x =>
        rw [hq] at g1 g2 sa
        unfold dueD at g2 sa
        unfold orD at g1
        simp -dsimp -implicitDefEqProofs [f1, N__law_altered, N__law_drawn, f2, sh, f3, N__law_take, f4, c, g1, g2, sa, isn, isc]
        rw [hI]
        exact ⟨⟨_, _, _, _, rfl⟩, fun d h => hr d (List.mem_cons_of_mem _ h)⟩
  · intro ρ h
    rw [hI] at h
    obtain ⟨⟨s1, s2, s3, s4, rfl⟩, _⟩ := h
    simp -dsimp -implicitDefEqProofs []
end OL.LW
open PySem PySem.W PySem.Calls PyProof.Rows
set_option maxRecDepth 100000 in
set_option maxHeartbeats 0 in
theorem PySem.Challenge.cw_oneleash_k57_fractions_misread_holds : PySem.Challenge.rw_oneleash_k57_fractions_misread.Holds := by
  w_on; o_law
  refine HandSHeadRun.head_any (r := OpenLaw.row PySem.Challenge.rw_oneleash_k57_fractions_misread) (q := view (OpenLaw.row PySem.Challenge.rw_oneleash_k57_fractions_misread).prog [32]) (H := OL.LW.hk) (ob := OL.LW.ob) (M := 15000) (loose := OL.LW.names) (d := HandSHeadRun.topDef (OpenLaw.row PySem.Challenge.rw_oneleash_k57_fractions_misread).prog 32) (kwd := []) OL.LW.ob_eq
    (by kernel_rfl) (fun s => by kernel_rfl) OL.LW.run (by kernel_rfl) (by kernel_rfl) (by kernel_rfl) (by rfl) (by first | assumption | decide +kernel) (by decide +kernel) ⟨rfl, rfl, rfl, rfl, rfl, by decide +kernel⟩ ?hw ?hc
  case hw => w_witness2
  case hc =>
    refine OL.walk (l := PySem.Challenge.rw_oneleash_k57_fractions_misread) (k := 5) OL.LW.law_true rfl (by kernel_rfl) ⟨rfl, by decide, by decide⟩ ?F
    intro w mg fa h Y G hmg0
    obtain ⟨K, KX, c⟩ := Y
    have hmg : mg ("law" : PySem.Str) = some (.ref fa) := by
      have e : (HandSHeadRun.topDef (OpenLaw.row PySem.Challenge.rw_oneleash_k57_fractions_misread).prog 32).name = ("law" : PySem.Str) := by kernel_rfl
      rw [← e]
      exact hmg0
    obtain ⟨fd, hb, hF⟩ := OL.LW.facts (P := (PySem.Challenge.rw_oneleash_k57_fractions_misread).prog) (w := w) KX G hmg c
    exact ⟨K, fd, KX, hb, hF⟩
