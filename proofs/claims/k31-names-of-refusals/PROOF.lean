import PyProof.Rows.All
import Wide.All
import OpenK.AllK
import Wide.FinOn
import HandS.ForMost
import HandS.ForExc
import HandS.Flow
import HandS.Style
import HandS.IsInst
import HandS.Wide
import HandS.TupAny
import HandS.EndBits
import HandS.Walk
import HandS.TupMul
import HandS.DictComp
import HandS.TupLe
import HandS.Deep
import HandS.More
import HandS.Lambda
import HandS.ExcCtx
import HandS.HotCalls
import HandS.EndTab
import HandS.ExcValue
import HandS.ExcInit
import KE.KeyNested
import HandS.NoneIn
import HandS.Strs
import HandS.ListItems
import HandS.RevTup
import KE.KDictPairs
import HandS.Star
import HandS.CallLocal
import HandS.Zip
import PyProof.DictUpdate
import PyProof.Rows.TupTab
import KE.GoesEnum
import KE.DataCmp
import PyProof.ExcBaseAll.ValueError
import HandS.ExcIs
import HandS.EndOwn
import KE.KNestM
import HandS.SetFor
import KE.KDictSum
import HandS.Codes
import HandS.GenBody
import HandS.GenYield
import HandS.GenCall
import HandS.GenList
import KE.KSortKey
import HandS.SortOrd
import HandS.SortInts
import HandS.SortRule
import HandS.CallSlots
import HandS.Defaults
import HandS.MakeKwOnly
import HandS.ExcSuper
import HandS.Nested
import KE.KExcSuper
import HandS.ExcField
import HandS.Property
import HandS.ClsMeth
import PySem.Challenge.RW_countersums_k31_whole_names_of_refusals
set_option Elab.async false
set_option linter.all false
set_option maxRecDepth 100000
set_option maxHeartbeats 2000000
namespace Dt
open PySem PySem.Spec PyProof.Rows L2
/-- the world: texts within nested keys are hashed in it -/
class HW where
  w : World
/-- a world is the one -/
class TW [HW] (w : World) : Prop where
  eq : w = HW.w
def anyW : World := ⟨fun _ _ => 0, { strHash := fun _ => 0, shareClass := fun _ => 0, mergeTok := id, idOf := fun _ => 0, idOfShared := fun _ _ => 0, followText := fun _ => false, idOfImm := fun _ => 0 }⟩
/-- where the world is of no account -/
instance (priority := low) anyHW : HW := ⟨anyW⟩
variable [HW]
/-- plain data -/
inductive D where
  | non | bl (b : Bool) | int (i : Int) | str (s : Str)
  | tup (xs : List D) | lst (xs : List D) | dct (ks : List Key) (xs : List D) | scr (ns : List Int) | arg (xs : List D) | fn (nm : Str)
  /-- a dict with nested tuples as keys -/
  | nd (ks : List D) (xs : List D)
  /-- what lies at a, no more told of it -/
  | exn (a : Addr)
  /-- an error made as a value: its class; .. and its limit -/
  | xv (cls : Str) | xm (cls : Str) (n : Int)
  /-- an instance of the class Tally: its row -/
  | tal (d : D)
  /-- the empty tuple that is written -/
  | etup
  deriving Inhabited
/-- the tuple at a, its object told: it has no dictionary of its own -/
def TupC (F : Hp) (a : Addr) (xs : List V) : Prop := ∃ o : Obj, o.dict = none ∧ F a = some (.frz o (.tup xs))
theorem TupC.sq {K : PySem.W.Frag} {F : Hp} {a : Addr} {xs : List V} (h : TupC F a xs) : SqT K F a xs := let ⟨o, _, e⟩ := h; .inl (.inr ⟨o, e⟩)
theorem TupC.new {F : Hp} {a : Addr} {xs : List V} {o : Obj} (d : o.dict = none) : TupC (upd F a (.frz o (.tup xs))) a xs := ⟨o, d, upd_same⟩
/-- an empty tuple of the written part -/
def EtC (K : PySem.W.Frag) (a : Addr) : Prop := ∃ n sl, K.lookup a = some ⟨.type "tuple", none, .seq #[] n, sl⟩
theorem EtC.sq {K : PySem.W.Frag} {a : Addr} (h : EtC K a) (F : Hp) : SqT K F a [] := let ⟨n, _, e⟩ := h; .inr ⟨_, #[], n, e, rfl, rfl, Nat.zero_le _, .nil⟩
/-- where the def of that name lies -/
def fnA (K : PySem.W.Frag) (nm : Str) : Addr := match PySem.W.nsIn K mainGlobals nm with
  | some (some (.ref a)) => a
  | _ => 0
mutual
/-- the key that a datum is -/
def nk : D → Option NestedKey
  | .bl b => some (.num (if b = true then 1 else 0))
  | .int i => some (.num i)
  | .str x => some (.text x)
  | .tup ds => (nks ds).map .tup
  | _ => none
def nks : List D → Option (List NestedKey)
  | [] => some []
  | d :: ds => (nk d).bind fun k => (nks ds).map fun ks => k :: ks
end
/-- a tuple that is a key -/
def nkey : D → Option NestedKey
  | .tup ds => match nk (.tup ds) with
    | some k => if k.depth ≤ 8 then some k else none
    | none => none
  | _ => none
/-- what stands at p is just this object -/
def AtO (p : Addr) (ob : Obj) : HO := .ext fun h => h.get? p = some ob
/-- the object ob at p is a dict of these rows: keys, where they lie, values -/
structure NdC (p : Addr) (ob : Obj) (xs : List (NestedKey × Addr × Value)) (ks : List D) (vs : List V) : Prop where
  ns : (p == sysModules) = false
  ex : ob.ExactDict
  en : ∃ es ep, ob.data = .dict es ep ∧ ∀ P : Program, es.toList = xs.map (entryOfKey (nestedKind P HW.w))
  nod : (xs.map (·.1)).Nodup
  vals : Vals vs (xs.map fun x => x.2.2)
  keys : ks.map nkey = xs.map fun x => some x.1
/-- a dict that is data is locked for good: so it may be walked -/
def lk (o : Obj) : HO → HO
  | .dK kvs => .frz o (.dK kvs)
  | .ext φ => .frz o (.ext φ)
  | u => u
/-- what may be locked -/
def Lkb (u : HO) : Prop := (∃ xs, u = .lst xs) ∨ (∃ kvs, u = .dK kvs) ∨ (∃ φ, u = .ext φ) ∨ ∃ C dx fs, u = .ins C dx fs
mutual
/-- v stands for the data in the frozen heap F -/
inductive Rp (K : PySem.W.Frag) (F : Hp) : V → D → Prop
  | non : Rp K F .non .non
  | bl (b : Bool) : Rp K F (.bl b) (.bl b)
  | int (i : Int) : Rp K F (.int i) (.int i)
  | str (s : Str) : Rp K F (.str s) (.str s)
  | tup {a : Addr} {xs : List V} {ds : List D} : TupC F a xs → Rps K F xs ds → Rp K F (.ref a) (.tup ds)
  | arg {a : Addr} {xs : List V} {ds : List D} : SqT K F a xs → Rps K F xs ds → Rp K F (.ref a) (.arg ds)
  | lst {a : Addr} {xs : List V} {ds : List D} : F a = some (.lst xs) → Rps K F xs ds → Rp K F (.ref a) (.lst ds)
  | dct {a : Addr} {o : Obj} {kvs : List (Key × V)} {ds : List D} : F a = some (.frz o (.dK kvs)) → Rps K F (kvs.map (·.2)) ds → Rp K F (.ref a) (.dct (kvs.map (·.1)) ds)
  | scr {a : Addr} {ns : List Int} : SqL K F a (ns.map V.int) → Rp K F (.ref a) (.scr ns)
  | fn (nm : Str) : Rp K F (.ref (fnA K nm)) (.fn nm)
  | exn (a : Addr) : Rp K F (.ref a) (.exn a)
  | xv {a : Addr} (cls : Str) : F a = some (ExO (.ref (fnA K cls)) a) → Rp K F (.ref a) (.xv cls)
  | xm {a d : Addr} (cls : Str) (n : Int) : F a = some (exo a (fnA K cls) (some d)) → F d = some (exd d [("most", .int n)]) → Rp K F (.ref a) (.xm cls n)
  | tal {a dx : Addr} {v : V} {d : D} : F a = some (.ins (fnA K "Tally") dx [("row", v)]) → Rp K F v d → Rp K F (.ref a) (.tal d)
  | etup {a : Addr} : EtC K a → Rp K F (.ref a) .etup
  | nd {a : Addr} {o ob : Obj} {xs : List (NestedKey × Addr × Value)} {vs : List V} {ks ds : List D} : F a = some (.frz o (AtO a ob)) → NdC a ob xs ks vs → Rps K F (xs.map fun x => .ref x.2.1) ks → Rps K F vs ds → Rp K F (.ref a) (.nd ks ds)
inductive Rps (K : PySem.W.Frag) (F : Hp) : List V → List D → Prop
  | nil : Rps K F [] []
  | cons {v : V} {vs : List V} {d : D} {ds : List D} : Rp K F v d → Rps K F vs ds → Rps K F (v :: vs) (d :: ds)
end
def FLe (F F' : Hp) : Prop := ∀ a o, F a = some o → F' a = some o
theorem FLe.refl (F : Hp) : FLe F F := fun _ _ h => h
theorem FLe.trans {F G H : Hp} (a : FLe F G) (b : FLe G H) : FLe F H := fun c o h => b c o (a c o h)
theorem FLe.noneOf {F G : Hp} (h : FLe F G) {a : Addr} (n : G a = none) : F a = none := by
  cases e : F a with
  | none => rfl
  | some o => rw [h a o e] at n; cases n
theorem FLe.rd {F G : Hp} (h : FLe F G) {a : Addr} {u : HO} (r : Rd F a u) : Rd G a u := by
  rcases r with r | ⟨o, r⟩
  · exact .inl (h _ _ r)
  · exact .inr ⟨o, h _ _ r⟩
theorem FLe.tupC {F G : Hp} (h : FLe F G) {a : Addr} {xs : List V} (r : TupC F a xs) : TupC G a xs := let ⟨o, d, e⟩ := r; ⟨o, d, h _ _ e⟩
theorem FLe.sqT {K : PySem.W.Frag} {F G : Hp} (h : FLe F G) {a : Addr} {xs : List V} (r : SqT K F a xs) : SqT K G a xs := by
  rcases r with r | r
  · exact .inl (h.rd r)
  · exact .inr r
theorem FLe.sqL {K : PySem.W.Frag} {F G : Hp} (h : FLe F G) {a : Addr} {xs : List V} (r : SqL K F a xs) : SqL K G a xs := by
  rcases r with r | r
  · exact .inl (h.rd r)
  · exact .inr r
mutual
theorem Rp.mono {K : PySem.W.Frag} {F G : Hp} (h : FLe F G) : ∀ {v : V} {d : D}, Rp K F v d → Rp K G v d
  | _, _, .non => .non
  | _, _, .bl b => .bl b
  | _, _, .int b => .int b
  | _, _, .str b => .str b
  | _, _, .tup t r => .tup (h.tupC t) (Rps.mono h r)
  | _, _, .arg t r => .arg (h.sqT t) (Rps.mono h r)
  | _, _, .lst t r => .lst (h _ _ t) (Rps.mono h r)
  | _, _, .dct t r => .dct (h _ _ t) (Rps.mono h r)
  | _, _, .scr t => .scr (h.sqL t)
  | _, _, .fn nm => .fn nm
  | _, _, .exn a => .exn a
  | _, _, .xv c t => .xv c (h _ _ t)
  | _, _, .xm c n t u => .xm c n (h _ _ t) (h _ _ u)
  | _, _, .tal t r => .tal (h _ _ t) (Rp.mono h r)
  | _, _, .etup e => .etup e
  | _, _, .nd t c r1 r2 => .nd (h _ _ t) c (Rps.mono h r1) (Rps.mono h r2)
theorem Rps.mono {K : PySem.W.Frag} {F G : Hp} (h : FLe F G) : ∀ {vs : List V} {ds : List D}, Rps K F vs ds → Rps K G vs ds
  | _, _, .nil => .nil
  | _, _, .cons a b => .cons (Rp.mono h a) (Rps.mono h b)
end
section
variable {K : PySem.W.Frag} {F : Hp}
theorem Rps.length : ∀ {vs : List V} {ds : List D}, Rps K F vs ds → vs.length = ds.length
  | _, _, .nil => rfl
  | _, _, .cons _ b => by rw [List.length_cons, List.length_cons, Rps.length b]
theorem Rps.get : ∀ {vs : List V} {ds : List D} {i : Nat} {d : D}, Rps K F vs ds → ds[i]? = some d → ∃ v, vs[i]? = some v ∧ Rp K F v d
  | _, _, _, _, .nil, e => by simp at e
  | _, _, 0, _, .cons a _, e => by simp at e; subst e; exact ⟨_, rfl, a⟩
  | _, _, i + 1, _, .cons _ b, e => by
    obtain ⟨v, h1, h2⟩ := Rps.get (i := i) b (by simpa using e)
    exact ⟨v, by simpa using h1, h2⟩
theorem Rps.append : ∀ {vs ws : List V} {ds es : List D}, Rps K F vs ds → Rps K F ws es → Rps K F (vs ++ ws) (ds ++ es)
  | _, _, _, _, .nil, s => s
  | _, _, _, _, .cons a b, s => .cons a (b.append s)
theorem Rps.take : ∀ {vs : List V} {ds : List D} (n : Nat), Rps K F vs ds → Rps K F (vs.take n) (ds.take n)
  | _, _, 0, _ => .nil
  | _, _, _ + 1, .nil => .nil
  | _, _, n + 1, .cons a b => .cons a (b.take n)
theorem Rps.drop : ∀ {vs : List V} {ds : List D} (n : Nat), Rps K F vs ds → Rps K F (vs.drop n) (ds.drop n)
  | _, _, 0, r => r
  | _, _, _ + 1, .nil => .nil
  | _, _, n + 1, .cons _ b => b.drop n
theorem Rps.set : ∀ {vs : List V} {ds : List D} (n : Nat) {v : V} {d : D}, Rps K F vs ds → Rp K F v d → Rps K F (vs.set n v) (ds.set n d)
  | _, _, _, _, _, .nil, _ => .nil
  | _, _, 0, _, _, .cons _ b, r => .cons r b
  | _, _, n + 1, _, _, .cons a b, r => .cons a (b.set n r)
theorem Rps.reverse {vs : List V} {ds : List D} (r : Rps K F vs ds) : Rps K F vs.reverse ds.reverse := by
  induction vs generalizing ds with
  | nil => cases r; exact .nil
  | cons v vs ih =>
    cases r with
    | cons a b => rw [List.reverse_cons, List.reverse_cons]; exact (ih b).append (.cons a .nil)
theorem Rps.rep {vs : List V} {ds : List D} (r : Rps K F vs ds) : ∀ n, Rps K F (List.replicate n vs).flatten (List.replicate n ds).flatten
  | 0 => .nil
  | n + 1 => by rw [List.replicate_succ, List.replicate_succ, List.flatten_cons, List.flatten_cons]; exact r.append (r.rep n)
end
/-- a variable: nothing is known; frozen data; a list or dict that is its own; the same where it is the caller's -/
inductive Cell where
  | no | fro (d : D) | own (d : D) | io (d : D)
abbrev Env := List Cell
def Cell.held : Cell → Option D
  | .own d => some d
  | .io d => some d
  | _ => none
def Cell.data : Cell → Option D
  | .fro d => some d
  | .own d => some d
  | .io d => some d
  | .no => none
/-- its description leans on no other object, and it is no table -/
def Lone : HO → Bool
  | .tbl _ => false
  | .ins _ _ _ => true
  | .dT _ => false
  | .own _ => false
  | .frz _ u => Lone u
  | _ => true
/-- the object o holds the data, its parts in F -/
def OwnObj (K : PySem.W.Frag) (F : Hp) (p : Addr) (o : HO) : D → Prop
  | .lst ds => ∃ xs, o = .lst xs ∧ Rps K F xs ds
  | .dct ks ds => ∃ kvs, o = .dK kvs ∧ kvs.map (·.1) = ks ∧ Rps K F (kvs.map (·.2)) ds
  | .nd ks ds => ∃ ob xs vs, o = AtO p ob ∧ NdC p ob xs ks vs ∧ Rps K F (xs.map fun x => .ref x.2.1) ks ∧ Rps K F vs ds
  | .tal d => Lone o = true ∧ ∃ dx v, o = .ins (fnA K "Tally") dx [("row", v)] ∧ Rp K F v d
  | _ => False
theorem OwnObj.mono {K : PySem.W.Frag} {F G : Hp} (h : FLe F G) {p : Addr} {o : HO} {d : D} (r : OwnObj K F p o d) : OwnObj K G p o d := by
  cases d with
  | lst ds => obtain ⟨xs, e, r⟩ := r; exact ⟨xs, e, r.mono h⟩
  | dct ks ds => obtain ⟨kvs, e, e2, r⟩ := r; exact ⟨kvs, e, e2, r.mono h⟩
  | nd ks ds => obtain ⟨ob, xs, vs, e, c, r1, r2⟩ := r; exact ⟨ob, xs, vs, e, c, r1.mono h, r2.mono h⟩
  | tal d => obtain ⟨l, dx, v, e, r⟩ := r; exact ⟨l, dx, v, e, r.mono h⟩
  | _ => exact r
theorem OwnObj.rp {K : PySem.W.Frag} {F : Hp} {p : Addr} {od : Obj} {o : HO} {d : D} (r : OwnObj K F p o d) (e : F p = some (lk od o)) : Rp K F (.ref p) d := by
  cases d with
  | lst ds => obtain ⟨xs, rfl, r⟩ := r; exact .lst e r
  | dct ks ds => obtain ⟨kvs, rfl, rfl, r⟩ := r; exact .dct e r
  | nd ks ds => obtain ⟨ob, xs, vs, rfl, c, r1, r2⟩ := r; exact .nd e c r1 r2
  | tal d => obtain ⟨_, dx, v, rfl, r⟩ := r; exact .tal e r
  | _ => exact r.elim
theorem OwnObj.lkb {K : PySem.W.Frag} {F : Hp} {p : Addr} {o : HO} {d : D} (r : OwnObj K F p o d) : Lkb o := by
  cases d with
  | lst ds => obtain ⟨xs, rfl, r⟩ := r; exact .inl ⟨_, rfl⟩
  | dct ks ds => obtain ⟨kvs, rfl, rfl, r⟩ := r; exact .inr (.inl ⟨_, rfl⟩)
  | nd ks ds => obtain ⟨ob, xs, vs, rfl, _⟩ := r; exact .inr (.inr (.inl ⟨_, rfl⟩))
  | tal d => obtain ⟨_, dx, v, rfl, _⟩ := r; exact .inr (.inr (.inr ⟨_, _, _, rfl⟩))
  | _ => exact r.elim
theorem lk_lst {od : Obj} {xs : List V} : lk od (.lst xs) = .lst xs := rfl
theorem lk_ins {od : Obj} {C dx : Addr} {fs : List (Str × V)} : lk od (.ins C dx fs) = .ins C dx fs := rfl
/-- the object at p is the variable's own -/
structure OwnAt (K : PySem.W.Frag) (F R H : Hp) (p : Addr) (d : D) : Prop where
  nF : F p = none
  nR : R p = none
  at_ : ∃ o, H p = some o ∧ OwnObj K F p o d
def CellOk (K : PySem.W.Frag) (F R H : Hp) (v : Option V) : Cell → Prop
  | .no => True
  | .fro d => ∃ x, v = some x ∧ Rp K F x d
  | .own d => ∃ p, v = some (.ref p) ∧ OwnAt K F R H p d
  | .io d => ∃ p, v = some (.ref p) ∧ OwnAt K F R H p d
/-- the slots whose objects are the caller's; the tables of code objects, the name that their entries bear -/
structure Io (T : List (Addr × Str)) where
  l : List (Nat × Addr) := []
/-- no table is among these, each stands for itself -/
def NoTb (F : Hp) : Prop := ∀ a u, F a = some u → Lone u = true
theorem NoTb.tb {F : Hp} (h : NoTb F) : ∀ a ps, F a ≠ some (.tbl ps) := fun a ps z => nomatch h a _ z
theorem NoTb.upd {F : Hp} (h : NoTb F) {p : Addr} {o : HO} (n : Lone o = true) : NoTb (L2.upd F p o) := fun a u z => by
  by_cases e : a = p
  · subst e; rw [upd_same] at z; cases z; exact n
  · rw [upd_ne e] at z; exact h a u z
/-- no table is among these -/
def NoT (F : Hp) : Prop := ∀ a ps, F a ≠ some (.tbl ps)
theorem NoT.upd {F : Hp} (h : NoT F) {p : Addr} {o : HO} (n : ∀ ps, o ≠ .tbl ps) : NoT (L2.upd F p o) := fun a ps z => by
  by_cases e : a = p
  · subst e; rw [upd_same] at z; exact n ps (Option.some.inj z)
  · rw [upd_ne e] at z; exact h a ps z
theorem OwnObj.lone {K : PySem.W.Frag} {F : Hp} {p : Addr} {o : HO} {d : D} (r : OwnObj K F p o d) (od : Obj) : Lone o = true ∧ Lone (lk od o) = true := by
  cases d with
  | lst ds => obtain ⟨xs, rfl, r⟩ := r; exact ⟨rfl, rfl⟩
  | dct ks ds => obtain ⟨kvs, rfl, _, r⟩ := r; exact ⟨rfl, rfl⟩
  | nd ks ds => obtain ⟨ob, xs, vs, rfl, _⟩ := r; exact ⟨rfl, rfl⟩
  | tal d => obtain ⟨l, dx, v, rfl, _⟩ := r; exact ⟨l, l⟩
  | _ => exact r.elim
theorem OwnObj.nt {K : PySem.W.Frag} {F : Hp} {p : Addr} {o : HO} {d : D} (r : OwnObj K F p o d) (od : Obj) : (∀ ps, o ≠ .tbl ps) ∧ ∀ ps, lk od o ≠ .tbl ps := by
  cases d with
  | lst ds => obtain ⟨xs, rfl, r⟩ := r; exact ⟨(fun ps z => nomatch z), fun ps z => nomatch z⟩
  | dct ks ds => obtain ⟨kvs, rfl, _, r⟩ := r; exact ⟨(fun ps z => nomatch z), fun ps z => nomatch z⟩
  | nd ks ds => obtain ⟨ob, xs, vs, rfl, _⟩ := r; exact ⟨(fun ps z => nomatch z), fun ps z => nomatch z⟩
  | tal d => obtain ⟨l, dx, v, rfl, _⟩ := r; exact ⟨(fun ps z => nomatch z), fun ps z => nomatch z⟩
  | _ => exact r.elim
theorem heap_size : ∀ n : Nat, ∃ h : Heap, h.objs.size = n
  | 0 => ⟨{}, rfl⟩
  | n + 1 => let ⟨h, e⟩ := heap_size n; ⟨h.push { cls := .none, data := .plain }, by rw [Heap.size_push, e]⟩
theorem atO_ne {p : Addr} {ob : Obj} {q : Str} (nf : ∀ vs, ob.data ≠ .fields vs) : AtO p ob ≠ LamX.CodeO p q := fun z => by
  unfold AtO LamX.CodeO at z
  obtain ⟨h, e⟩ := heap_size p
  have g : (h.push { cls := .none, data := .fields #[.none, .str q 0] }).get? p = some { cls := .none, data := .fields #[.none, .str q 0] } := by
    rw [← e]; exact Heap.get?_push_size _ rfl
  have k := congrFun (HO.ext.inj z) (h.push { cls := .none, data := .fields #[.none, .str q 0] })
  have y := (iff_of_eq k).mpr ⟨_, _, 0, g, rfl, rfl⟩
  rw [g] at y
  cases y
  exact nf _ rfl
/-- neither a table nor a code object that tables tell -/
def NoX (R : Hp) : Prop := NoT R ∧ ∀ a q, R a ≠ some (LamX.CodeO a q)
theorem NoX.upd {R : Hp} (h : NoX R) {p : Addr} {o : HO} (n : ∀ ps, o ≠ .tbl ps) (n2 : ∀ q, o ≠ LamX.CodeO p q) : NoX (L2.upd R p o) := ⟨h.1.upd n, fun a φ z => by
  by_cases e : a = p
  · subst e; rw [upd_same] at z; exact n2 φ (Option.some.inj z)
  · rw [upd_ne e] at z; exact h.2 a φ z⟩
theorem OwnObj.nx {K : PySem.W.Frag} {F : Hp} {p : Addr} {o : HO} {d : D} (r : OwnObj K F p o d) (q : Str) : o ≠ LamX.CodeO p q := by
  cases d with
  | lst ds => obtain ⟨xs, rfl, r⟩ := r; unfold LamX.CodeO; exact fun z => nomatch z
  | dct ks ds => obtain ⟨kvs, rfl, _, r⟩ := r; unfold LamX.CodeO; exact fun z => nomatch z
  | nd ks ds => obtain ⟨ob, xs, vs, rfl, c, _⟩ := r; exact atO_ne fun vs z => by obtain ⟨es, ep, e, _⟩ := c.en; rw [e] at z; cases z
  | tal d => obtain ⟨_, dx, v, rfl, _⟩ := r; unfold LamX.CodeO; exact fun z => nomatch z
  | _ => exact r.elim
/-- a table: it is nobody's; the code objects that it tells are known for good -/
def TabOk (F R H : Hp) (t : Addr × Str) : Prop := F t.1 = none ∧ R t.1 = none ∧ NoX R ∧ ∃ ps : Array Value, H t.1 = some (.tbl ps) ∧ TriplesOk ps.toList ∧ ∀ (pos : Pos) (cv : Value), codeAmong pos ps.toList = some cv → ∃ c, cv = .ref c ∧ F c = some (LamX.CodeO c t.2)
theorem TabOk.mv {F R H F' R' H' : Hp} {t : Addr × Str} (h : TabOk F R H t) (hF : F' t.1 = none) (hR : R' t.1 = none) (hH : ∀ ps, H t.1 = some (.tbl ps) → H' t.1 = some (.tbl ps)) (le : FLe F F') (nR : NoX R') : TabOk F' R' H' t := by
  obtain ⟨_, _, _, ps, e, tr, k⟩ := h
  exact ⟨hF, hR, nR, ps, hH ps e, tr, fun pos cv z => let ⟨c, e1, e2⟩ := k pos cv z; ⟨c, e1, le _ _ e2⟩⟩
theorem own_ne {K : PySem.W.Frag} {F R H : Hp} {p P : Addr} {d : D} {ps : Array Value} (w : OwnAt K F R H p d) (e : H P = some (.tbl ps)) : P ≠ p := fun z => by
  subst z
  obtain ⟨o, e1, h⟩ := w.at_
  rw [e] at e1
  cases e1
  cases d with
  | lst ds => obtain ⟨_, z, _⟩ := h; cases z
  | dct ks ds => obtain ⟨_, z, _, _⟩ := h; cases z
  | nd ks ds => obtain ⟨_, _, _, z, _⟩ := h; cases z
  | tal d => obtain ⟨_, _, _, z, _⟩ := h; cases z
  | _ => exact h
theorem TabOk.tbl {F R H : Hp} {t : Addr × Str} (h : TabOk F R H t) : ∃ ps, H t.1 = some (.tbl ps) := let ⟨_, _, _, ps, e, _⟩ := h; ⟨ps, e⟩
theorem TabOk.nR {F R H : Hp} {t : Addr × Str} (h : TabOk F R H t) : NoX R := h.2.2.1
/-- ρ tells of the slots σ and the heap H. F: what is frozen; R: what others keep; io: the slots whose objects are the caller's -/
structure Rel {T : List (Addr × Str)} (K : PySem.W.Frag) (io : Io T) (R : Hp) (ρ : Env) (F : Hp) (σ : L2.St) (H : Hp) : Prop where
  fH : FLe F H
  rH : FLe R H
  dj : ∀ a o, F a = some o → R a = none
  len : ρ.length = σ.length
  cell : ∀ (i : Nat) (c : Cell) (v : Option V), ρ[i]? = some c → σ[i]? = some v → CellOk K F R H v c
  inj : ∀ (i j : Nat) (ci cj : Cell) (di dj : D) (p : Addr), ρ[i]? = some ci → ρ[j]? = some cj → ci.held = some di → cj.held = some dj → σ[i]? = some (some (.ref p)) → σ[j]? = some (some (.ref p)) → i = j
  ios : ∀ ip ∈ io.l, (∃ d, ρ[ip.1]? = some (.io d)) ∧ σ[ip.1]? = some (some (.ref ip.2))
  ioc : ∀ (i : Nat) (d : D), ρ[i]? = some (.io d) → ∃ p, (i, p) ∈ io.l
  tab : ∀ t ∈ T, TabOk F R H t
  nt : NoTb F
section
variable {T : List (Addr × Str)} {K : PySem.W.Frag} {io : Io T} {R : Hp} {ρ : Env} {F F' : Hp} {σ : L2.St} {H H' : Hp}
theorem Rel.slot (r : Rel K io R ρ F σ H) {i : Nat} {c : Cell} (e : ρ[i]? = some c) : ∃ v, σ[i]? = some v ∧ CellOk K F R H v c := by
  have h := (List.getElem?_eq_some_iff.mp e).1
  have h2 : i < σ.length := by rw [← r.len]; exact h
  exact ⟨σ[i], by simp [h2], r.cell i c _ e (by simp [h2])⟩
theorem Rel.heldAt (r : Rel K io R ρ F σ H) {i : Nat} {c : Cell} {d : D} (e : ρ[i]? = some c) (h : c.held = some d) : ∃ p, σ[i]? = some (some (.ref p)) ∧ OwnAt K F R H p d := by
  obtain ⟨v, e1, q⟩ := r.slot e
  cases c with
  | no => cases h
  | fro _ => cases h
  | own d' => cases h; obtain ⟨p, rfl, q⟩ := q; exact ⟨p, e1, q⟩
  | io d' => cases h; obtain ⟨p, rfl, q⟩ := q; exact ⟨p, e1, q⟩
/-- the heap has more, what is frozen has more: none of it was there -/
theorem Rel.grow (r : Rel K io R ρ F σ H) (hF : FLe F F') (hH : FLe H H') (hFH : FLe F' H') (new : ∀ a o, F' a = some o → F a = some o ∨ H a = none) (nt : NoTb F') : Rel K io R ρ F' σ H' := by
  have own : ∀ {p d}, OwnAt K F R H p d → OwnAt K F' R H' p d := fun {p d} q => by
    obtain ⟨o, e, q3⟩ := q.at_
    refine ⟨?_, q.nR, o, hH _ _ e, q3.mono hF⟩
    cases e' : F' p with
    | none => rfl
    | some o' =>
      rcases new p o' e' with z | z
      · rw [q.nF] at z; cases z
      · rw [e] at z; cases z
  refine ⟨hFH, r.rH.trans hH, fun a o e => ?_, r.len, fun i c v e1 e2 => ?_, r.inj, r.ios, r.ioc, (fun t ht => ?_), nt⟩
  · rcases new a o e with z | z
    · exact r.dj a o z
    · exact r.rH.noneOf z
  · have q := r.cell i c v e1 e2
    cases c with
    | no => trivial
    | fro d => obtain ⟨x, e, q⟩ := q; exact ⟨x, e, q.mono hF⟩
    | own d => obtain ⟨p, e, q⟩ := q; exact ⟨p, e, own q⟩
    | io d => obtain ⟨p, e, q⟩ := q; exact ⟨p, e, own q⟩
  · have q := r.tab t ht
    obtain ⟨ps, ep⟩ := q.tbl
    refine q.mv ?_ q.2.1 (fun ps e => hH _ _ e) hF q.nR
    cases e' : F' t.1 with
    | none => rfl
    | some o' =>
      rcases new _ _ e' with z | z
      · rw [q.1] at z; cases z
      · rw [ep] at z; cases z
/-- a new frozen object -/
theorem Rel.new (r : Rel K io R ρ F σ H) {p : Addr} (n : H p = none) (o : HO) (no : Lone o = true := by rfl) : Rel K io R ρ (upd F p o) σ (upd H p o) := by
  refine r.grow (fun a u e => ?_) (fun a u e => ?_) (fun a u e => ?_) (fun a u e => ?_) (r.nt.upd no)
  · rw [upd_ne (ne_of_none (r.fH a u e) n)]; exact e
  · rw [upd_ne (ne_of_none e n)]; exact e
  · by_cases h : a = p
    · subst h; rw [upd_same] at e ⊢; exact e
    · rw [upd_ne h] at e ⊢; exact r.fH a u e
  · by_cases h : a = p
    · subst h; exact .inr n
    · rw [upd_ne h] at e; exact .inl e
theorem FLe.upd {F : Hp} {p : Addr} (o : HO) (n : F p = none) : FLe F (upd F p o) := fun a u e => by
  rw [upd_ne (ne_of_none e n)]; exact e
/-- a new object that nobody holds -/
theorem Rel.newH (r : Rel K io R ρ F σ H) {p : Addr} (n : H p = none) (o : HO) : Rel K io R ρ F σ (L2.upd H p o) :=
  r.grow (FLe.refl F) (FLe.upd o n) (r.fH.trans (FLe.upd o n)) (fun a u e => .inl e) r.nt
/-- a variable takes frozen data -/
theorem Rel.setFro (r : Rel K io R ρ F σ H) {i : Nat} {v : V} {d : D} (h : Rp K F v d) (hi : ∀ e, ρ[i]? ≠ some (Cell.io e)) : Rel K io R (ρ.set i (.fro d)) F (σ.set i (some v)) H := by
  refine ⟨r.fH, r.rH, r.dj, by rw [List.length_set, List.length_set]; exact r.len, fun j c w e1 e2 => ?_, fun j k cj ck dj dk p h1 h2 h3 h4 h5 h6 => ?_, fun ip hip => ?_, (fun j d' e => ?_), r.tab, r.nt⟩
  · rw [List.getElem?_set] at e1 e2
    by_cases hj : i = j
    · rw [if_pos hj] at e1 e2
      split at e1
      · cases e1
        split at e2
        · cases e2; exact ⟨v, rfl, h⟩
        · cases e2
      · cases e1
    · rw [if_neg hj] at e1 e2; exact r.cell j c w e1 e2
  · have ne : ∀ {j : Nat} {cj : Cell} {dj : D}, (ρ.set i (.fro d))[j]? = some cj → cj.held = some dj → i ≠ j ∧ ρ[j]? = some cj := fun {j cj dj} e1 e2 => by
      rw [List.getElem?_set] at e1
      by_cases hj : i = j
      · rw [if_pos hj] at e1
        split at e1
        · cases e1; cases e2
        · cases e1
      · rw [if_neg hj] at e1; exact ⟨hj, e1⟩
    obtain ⟨n1, g1⟩ := ne h1 h3
    obtain ⟨n2, g2⟩ := ne h2 h4
    rw [List.getElem?_set_ne n1] at h5
    rw [List.getElem?_set_ne n2] at h6
    exact r.inj j k cj ck dj dk p g1 g2 h3 h4 h5 h6
  · obtain ⟨⟨d', e1⟩, e2⟩ := r.ios ip hip
    have hn : i ≠ ip.1 := fun e => by subst e; exact hi d' e1
    exact ⟨⟨d', by rw [List.getElem?_set_ne hn]; exact e1⟩, by rw [List.getElem?_set_ne hn]; exact e2⟩
  · rw [List.getElem?_set] at e
    split at e
    · split at e <;> cases e
    · exact r.ioc j d' e
/-- no variable holds p -/
def Loose (ρ : Env) (σ : L2.St) (p : Addr) : Prop := ∀ (i : Nat) (c : Cell) (d : D), ρ[i]? = some c → c.held = some d → σ[i]? ≠ some (some (.ref p))
theorem Rel.loose (r : Rel K io R ρ F σ H) {p : Addr} (n : H p = none) : Loose ρ σ p := fun i c d e1 e2 e3 => by
  obtain ⟨q, e4, w⟩ := r.heldAt e1 e2
  rw [e3] at e4; cases e4
  obtain ⟨o, e, _⟩ := w.at_
  rw [n] at e; cases e
/-- a variable takes an object that nobody holds -/
theorem Rel.setOwn (r : Rel K io R ρ F σ H) {i : Nat} {p : Addr} {d : D} (h : OwnAt K F R H p d) (lo : Loose ρ σ p) (hi : ∀ e, ρ[i]? ≠ some (Cell.io e)) : Rel K io R (ρ.set i (.own d)) F (σ.set i (some (.ref p))) H := by
  refine ⟨r.fH, r.rH, r.dj, by rw [List.length_set, List.length_set]; exact r.len, fun j c w e1 e2 => ?_, fun j k cj ck dj dk q h1 h2 h3 h4 h5 h6 => ?_, fun ip hip => ?_, (fun j d' e => ?_), r.tab, r.nt⟩
  · rw [List.getElem?_set] at e1 e2
    by_cases hj : i = j
    · rw [if_pos hj] at e1 e2
      split at e1
      · cases e1
        split at e2
        · cases e2; exact ⟨p, rfl, h⟩
        · cases e2
      · cases e1
    · rw [if_neg hj] at e1 e2; exact r.cell j c w e1 e2
  · rw [List.getElem?_set] at h1 h2 h5 h6
    by_cases hj : i = j
    · by_cases hk : i = k
      · exact hj.symm.trans hk
      · rw [if_neg hk] at h2 h6
        rw [if_pos hj] at h5
        split at h5
        · have z : V.ref p = V.ref q := Option.some.inj (Option.some.inj h5)
          cases z
          exact absurd h6 (lo k ck dk h2 h4)
        · cases h5
    · rw [if_neg hj] at h1 h5
      by_cases hk : i = k
      · rw [if_pos hk] at h6
        split at h6
        · have z : V.ref p = V.ref q := Option.some.inj (Option.some.inj h6)
          cases z
          exact absurd h5 (lo j cj dj h1 h3)
        · cases h6
      · rw [if_neg hk] at h2 h6
        exact r.inj j k cj ck dj dk q h1 h2 h3 h4 h5 h6
  · obtain ⟨⟨d', e1⟩, e2⟩ := r.ios ip hip
    have hn : i ≠ ip.1 := fun e => by subst e; exact hi d' e1
    exact ⟨⟨d', by rw [List.getElem?_set_ne hn]; exact e1⟩, by rw [List.getElem?_set_ne hn]; exact e2⟩
  · rw [List.getElem?_set] at e
    split at e
    · split at e <;> cases e
    · exact r.ioc j d' e
/-- the object of a variable is changed -/
def Cell.put (c : Cell) (d : D) : Cell := match c with
  | .own _ => .own d
  | .io _ => .io d
  | c => c
theorem Rel.write (r : Rel K io R ρ F σ H) {i : Nat} {c : Cell} {d0 d : D} {p : Addr} {o : HO} (hc : ρ[i]? = some c) (hh : c.held = some d0) (hp : σ[i]? = some (some (.ref p))) (ho : OwnObj K F p o d) :
    Rel K io R (ρ.set i (c.put d)) F σ (L2.upd H p o) := by
  obtain ⟨p', e1, w⟩ := r.heldAt hc hh
  rw [hp] at e1; cases e1
  have hil : i < ρ.length := (List.getElem?_eq_some_iff.mp hc).1
  have nF : ∀ a u, F a = some u → a ≠ p := fun a u e z => by subst z; rw [w.nF] at e; cases e
  have nR : ∀ a u, R a = some u → a ≠ p := fun a u e z => by subst z; rw [w.nR] at e; cases e
  have hp2 : (c.put d).held = some d := by cases c <;> first | rfl | cases hh
  refine ⟨fun a u e => by rw [upd_ne (nF a u e)]; exact r.fH a u e, fun a u e => by rw [upd_ne (nR a u e)]; exact r.rH a u e, r.dj, by rw [List.length_set]; exact r.len, fun j cj v e1 e2 => ?_, fun j k cj ck dj dk q h1 h2 h3 h4 h5 h6 => ?_, fun ip hip => ?_, fun j d' e => ?_, fun t ht => let q := r.tab t ht; q.mv q.1 q.2.1 (fun ps e => by rw [upd_ne (own_ne w e)]; exact e) (FLe.refl F) q.nR, r.nt⟩
  · by_cases hj : i = j
    · subst hj
      rw [List.getElem?_set_self hil] at e1
      cases e1
      rw [hp] at e2; cases e2
      have own : OwnAt K F R (L2.upd H p o) p d := ⟨w.nF, w.nR, o, upd_same, ho⟩
      cases c with
      | no => cases hh
      | fro _ => cases hh
      | own _ => exact ⟨p, rfl, own⟩
      | io _ => exact ⟨p, rfl, own⟩
    · rw [List.getElem?_set_ne hj] at e1
      have q := r.cell j cj v e1 e2
      have keep : ∀ {dj p'}, cj.held = some dj → v = some (.ref p') → OwnAt K F R H p' dj → OwnAt K F R (L2.upd H p o) p' dj := fun {dj p'} h3 h4 q => by
        obtain ⟨o', e, q3⟩ := q.at_
        refine ⟨q.nF, q.nR, o', ?_, q3⟩
        rw [upd_ne]
        · exact e
        · intro z
          subst z
          rw [h4] at e2
          exact hj (r.inj i j c cj d0 dj p' hc e1 hh h3 hp e2)
      cases cj with
      | no => trivial
      | fro _ => exact q
      | own dj => obtain ⟨p', e, q⟩ := q; exact ⟨p', e, keep rfl e q⟩
      | io dj => obtain ⟨p', e, q⟩ := q; exact ⟨p', e, keep rfl e q⟩
  · have old : ∀ {j : Nat} {cj : Cell} {dj : D}, (ρ.set i (c.put d))[j]? = some cj → cj.held = some dj → ∃ cj' dj', ρ[j]? = some cj' ∧ cj'.held = some dj' := fun {j cj dj} e1 e2 => by
      by_cases hj : i = j
      · subst hj; exact ⟨c, d0, hc, hh⟩
      · rw [List.getElem?_set_ne hj] at e1; exact ⟨cj, dj, e1, e2⟩
    obtain ⟨_, _, g1, g2⟩ := old h1 h3
    obtain ⟨_, _, g3, g4⟩ := old h2 h4
    exact r.inj j k _ _ _ _ q g1 g3 g2 g4 h5 h6
  · obtain ⟨⟨d', e1⟩, e2⟩ := r.ios ip hip
    refine ⟨?_, e2⟩
    by_cases hj : i = ip.1
    · subst hj
      rw [hc] at e1; cases e1
      exact ⟨d, by rw [List.getElem?_set_self hil]; rfl⟩
    · exact ⟨d', by rw [List.getElem?_set_ne hj]; exact e1⟩
  · by_cases hj : i = j
    · subst hj
      rw [List.getElem?_set_self hil] at e
      cases c with
      | no => cases hh
      | fro _ => cases hh
      | own _ => cases e
      | io d'' => exact r.ioc i d'' hc
    · rw [List.getElem?_set_ne hj] at e; exact r.ioc j d' e
/-- a variable's own object is frozen -/
theorem Rel.freeze (r : Rel K io R ρ F σ H) {i : Nat} {d : D} {p : Addr} {o : HO} (hc : ρ[i]? = some (.own d)) (hp : σ[i]? = some (some (.ref p))) (ho : H p = some o) (hr : OwnObj K F p o d) (od : Obj) :
    FLe F (L2.upd F p (lk od o)) ∧ Rel K io R (ρ.set i (.fro d)) (L2.upd F p (lk od o)) σ (L2.upd H p (lk od o)) ∧ Rp K (L2.upd F p (lk od o)) (.ref p) d := by
  obtain ⟨p', e1, w⟩ := r.heldAt hc rfl
  rw [hp] at e1; cases e1
  have hil : i < ρ.length := (List.getElem?_eq_some_iff.mp hc).1
  have le : FLe F (L2.upd F p (lk od o)) := FLe.upd _ w.nF
  have rp : Rp K (L2.upd F p (lk od o)) (.ref p) d := (hr.mono le).rp upd_same
  have nR : ∀ a u, R a = some u → a ≠ p := fun a u e z => by subst z; rw [w.nR] at e; cases e
  refine ⟨le, ⟨fun a u e => ?_, fun a u e => by rw [upd_ne (nR a u e)]; exact r.rH a u e, fun a u e => ?_, by rw [List.length_set]; exact r.len, fun j cj v e1 e2 => ?_, fun j k cj ck dj dk q h1 h2 h3 h4 h5 h6 => ?_, fun ip hip => ?_, fun j d' e => ?_, fun t ht => let q := r.tab t ht; let ⟨ps, ep⟩ := q.tbl; q.mv (by rw [upd_ne (own_ne w ep)]; exact q.1) q.2.1 (fun ps e => by rw [upd_ne (own_ne w e)]; exact e) le q.nR, r.nt.upd (hr.lone od).2⟩, rp⟩
  · by_cases h : a = p
    · subst h; rw [upd_same] at e; cases e; exact upd_same
    · rw [upd_ne h] at e; rw [upd_ne h]; exact r.fH a u e
  · by_cases h : a = p
    · subst h; exact w.nR
    · rw [upd_ne h] at e; exact r.dj a u e
  · by_cases hj : i = j
    · subst hj
      rw [List.getElem?_set_self hil] at e1
      cases e1
      rw [hp] at e2; cases e2
      exact ⟨_, rfl, rp⟩
    · rw [List.getElem?_set_ne hj] at e1
      have q := r.cell j cj v e1 e2
      have keep : ∀ {dj p'}, cj.held = some dj → v = some (.ref p') → OwnAt K F R H p' dj → OwnAt K (L2.upd F p (lk od o)) R (L2.upd H p (lk od o)) p' dj := fun {dj p'} h3 h4 q => by
        obtain ⟨o', e, q3⟩ := q.at_
        have ne : p' ≠ p := by
          intro z
          subst z
          rw [h4] at e2
          exact hj (r.inj i j _ cj d dj p' hc e1 rfl h3 hp e2)
        exact ⟨by rw [upd_ne ne]; exact q.nF, q.nR, o', by rw [upd_ne ne]; exact e, q3.mono le⟩
      cases cj with
      | no => trivial
      | fro _ => obtain ⟨x, e, q⟩ := q; exact ⟨x, e, q.mono le⟩
      | own dj => obtain ⟨p', e, q⟩ := q; exact ⟨p', e, keep rfl e q⟩
      | io dj => obtain ⟨p', e, q⟩ := q; exact ⟨p', e, keep rfl e q⟩
  · have old : ∀ {j : Nat} {cj : Cell} {dj : D}, (ρ.set i (.fro d))[j]? = some cj → cj.held = some dj → ρ[j]? = some cj := fun {j cj dj} e1 e2 => by
      by_cases hj : i = j
      · subst hj
        rw [List.getElem?_set_self hil] at e1
        cases e1; cases e2
      · rw [List.getElem?_set_ne hj] at e1; exact e1
    exact r.inj j k cj ck dj dk q (old h1 h3) (old h2 h4) h3 h4 h5 h6
  · obtain ⟨⟨d', e1⟩, e2⟩ := r.ios ip hip
    have hn : i ≠ ip.1 := fun e => by subst e; rw [hc] at e1; cases e1
    exact ⟨⟨d', by rw [List.getElem?_set_ne hn]; exact e1⟩, e2⟩
  · by_cases hj : i = j
    · subst hj
      rw [List.getElem?_set_self hil] at e
      cases e
    · rw [List.getElem?_set_ne hj] at e; exact r.ioc j d' e
end
end Dt
set_option Elab.async false
set_option linter.all false
set_option maxRecDepth 100000
set_option maxHeartbeats 2000000
namespace Dt
open PySem PySem.Spec PyProof.Rows L2
variable [HW]
/-- an exception: the name of its class, what it bears -/
structure Exn where
  cls : String
  arg : D := .non
/-- a value with the environment behind it; an exception; anything that is not told -/
inductive R (α : Type) where
  | ok (a : α) (ρ : Env) | exc (x : Exn) (ρ : Env) | stuck
def R.bind {α β : Type} (r : R α) (f : α → Env → R β) : R β := match r with
  | .ok a ρ => f a ρ
  | .exc x ρ => .exc x ρ
  | .stuck => .stuck
@[simp] theorem R.bind_ok {α β : Type} {a : α} {ρ : Env} {f : α → Env → R β} : (R.ok a ρ).bind f = f a ρ := rfl
@[simp] theorem R.bind_exc {α β : Type} {x : Exn} {ρ : Env} {f : α → Env → R β} : (R.exc x ρ).bind f = .exc x ρ := rfl
@[simp] theorem R.bind_stuck {α β : Type} {f : α → Env → R β} : (R.stuck : R α).bind f = .stuck := rfl
/-- a def's end: its value and what it left in the lists that it was lent -/
inductive FR where
  | ok (d : D) (outs : List D) | exc (x : Exn) | stuck
abbrev SE := Env → R D
abbrev ST := Env → R Bool
abbrev SA := Env → R (List D)
inductive Fl where
  | nx | rt (d : D) | bk | ct
abbrev SS := Env → R Fl
abbrev SG := D → Env → R Unit
/-- an operand that is only looked at: a value, or a variable -/
inductive Opd where
  | val (d : D) | loc (i : Nat)
def Opd.get (ρ : Env) : Opd → Option D
  | .val d => some d
  | .loc i => (ρ[i]?).bind Cell.data
abbrev SO := Env → R Opd
abbrev SB := Env → R (List Opd)
/-- where the exception classes stand; the tables of code objects that may be written, the name that their entries bear -/
structure Exx where
  at_ : String → Addr
  tabs : List (Addr × Str)
/-- the context of a law: the written part, the above -/
structure Gx where
  K : PySem.W.Frag
  ex : Exx
def XR (G : Gx) (F : Hp) (x : Exn) (cls : Value) (dd : Option Addr) (H : Hp) : Prop :=
  cls = .ref (G.ex.at_ x.cls) ∧ match x.arg with
    | .non => dd = none
    | d => ∃ p v, dd = some p ∧ F p = none ∧ H p = some (.xd [("most", v)]) ∧ Rp G.K F v d
def XPost {T : List (Addr × Str)} (G : Gx) (W : WX) (io : Io T) (Rv : Hp) (F : Hp) (ρ : Env) (x : Exn) : Prop :=
  ∀ cls dd σ' H' F', FLe F F' → Rel G.K io Rv ρ F' σ' H' → XR G F' x cls dd H' → W cls dd σ' H'
def EPost {T : List (Addr × Str)} (G : Gx) (io : Io T) (Rv : Hp) (F : Hp) (σ : L2.St) (ρ : Env) (d : D) (Q : VK) : Prop :=
  ∀ v H' F', FLe F F' → Rel G.K io Rv ρ F' σ H' → Rp G.K F' v d → Q v H'
def OpdOk (K : PySem.W.Frag) (F : Hp) (σ : L2.St) (v : V) : Opd → Prop
  | .val d => Rp K F v d
  | .loc i => σ[i]? = some (some v)
inductive OpdsOk (K : PySem.W.Frag) (F : Hp) (σ : L2.St) : List V → List Opd → Prop
  | nil : OpdsOk K F σ [] []
  | cons {v : V} {vs : List V} {o : Opd} {os : List Opd} : OpdOk K F σ v o → OpdsOk K F σ vs os → OpdsOk K F σ (v :: vs) (o :: os)
theorem OpdOk.mono {K : PySem.W.Frag} {F G : Hp} (h : FLe F G) {σ : L2.St} {v : V} {o : Opd} (r : OpdOk K F σ v o) : OpdOk K G σ v o := by
  cases o with
  | val d => exact Rp.mono h r
  | loc i => exact r
def tE (G : Gx) (W : WX) (s : SE) : TE := fun σ H Q => ∃ ρ F Rv, ∃ io : Io G.ex.tabs, Rel G.K io Rv ρ F σ H ∧ match s ρ with
  | .ok d ρ' => EPost G io Rv F σ ρ' d Q
  | .exc x ρ' => XPost G W io Rv F ρ' x
  | .stuck => False
def tT (G : Gx) (W : WX) (s : ST) : TT := fun σ H Q => ∃ ρ F Rv, ∃ io : Io G.ex.tabs, Rel G.K io Rv ρ F σ H ∧ match s ρ with
  | .ok b ρ' => ∀ H' F', FLe F F' → Rel G.K io Rv ρ' F' σ H' → Q b H'
  | .exc x ρ' => XPost G W io Rv F ρ' x
  | .stuck => False
def tA (G : Gx) (W : WX) (s : SA) : TA := fun σ H Q => ∃ ρ F Rv, ∃ io : Io G.ex.tabs, Rel G.K io Rv ρ F σ H ∧ match s ρ with
  | .ok ds ρ' => ∀ vs H' F', FLe F F' → Rel G.K io Rv ρ' F' σ H' → Rps G.K F' vs ds → Q vs H'
  | .exc x ρ' => XPost G W io Rv F ρ' x
  | .stuck => False
def tO (G : Gx) (W : WX) (s : SO) : TE := fun σ H Q => ∃ ρ F Rv, ∃ io : Io G.ex.tabs, Rel G.K io Rv ρ F σ H ∧ match s ρ with
  | .ok o ρ' => ∀ v H' F', FLe F F' → Rel G.K io Rv ρ' F' σ H' → OpdOk G.K F' σ v o → Q v H'
  | .exc x ρ' => XPost G W io Rv F ρ' x
  | .stuck => False
def tB (G : Gx) (W : WX) (s : SB) : TA := fun σ H Q => ∃ ρ F Rv, ∃ io : Io G.ex.tabs, Rel G.K io Rv ρ F σ H ∧ match s ρ with
  | .ok os ρ' => ∀ vs H' F', FLe F F' → Rel G.K io Rv ρ' F' σ H' → OpdsOk G.K F' σ vs os → Q vs H'
  | .exc x ρ' => XPost G W io Rv F ρ' x
  | .stuck => False
/-- a new object that nobody else holds -/
def tF (G : Gx) (W : WX) (s : SE) : TE := fun σ H Q => ∃ ρ F Rv, ∃ io : Io G.ex.tabs, Rel G.K io Rv ρ F σ H ∧ match s ρ with
  | .ok d ρ' => ∀ p H' F', FLe F F' → Rel G.K io Rv ρ' F' σ H' → OwnAt G.K F' Rv H' p d → Loose ρ' σ p → Q (.ref p) H'
  | .exc x ρ' => XPost G W io Rv F ρ' x
  | .stuck => False
def SPost {T : List (Addr × Str)} (G : Gx) (W : WX) (io : Io T) (Rv F : Hp) (r : R Fl) (D : Ends) : Prop := match r with
  | .ok .nx ρ' => ∀ σ' H' F', FLe F F' → Rel G.K io Rv ρ' F' σ' H' → D.nx σ' H'
  | .ok .bk ρ' => ∀ σ' H' F', FLe F F' → Rel G.K io Rv ρ' F' σ' H' → D.bk σ' H'
  | .ok .ct ρ' => ∀ σ' H' F', FLe F F' → Rel G.K io Rv ρ' F' σ' H' → D.ct σ' H'
  | .ok (.rt d) ρ' => ∀ v σ' H' F', FLe F F' → Rel G.K io Rv ρ' F' σ' H' → Rp G.K F' v d → D.rt v H'
  | .exc x ρ' => XPost G W io Rv F ρ' x
  | .stuck => False
def tS (G : Gx) (W : WX) (s : SS) : TS := fun D σ H => ∃ ρ F Rv, ∃ io : Io G.ex.tabs, Rel G.K io Rv ρ F σ H ∧ SPost G W io Rv F (s ρ) D
/-- only the slots js differ -/
def Keeps (js : List Nat) (σ σ' : L2.St) : Prop := σ'.length = σ.length ∧ ∀ j, j ∉ js → σ'[j]? = σ[j]?
/-- a target: what it is given is frozen; js: the slots that it may change -/
def tG (G : Gx) (W : WX) (js : List Nat) (s : SG) : TG := fun v σ H Q => ∃ d ρ F Rv, ∃ io : Io G.ex.tabs, Rel G.K io Rv ρ F σ H ∧ Rp G.K F v d ∧ match s d ρ with
  | .ok _ ρ' => ∀ σ' H' F', FLe F F' → Rel G.K io Rv ρ' F' σ' H' → Keeps js σ σ' → Q σ' H'
  | .exc x ρ' => XPost G W io Rv F ρ' x
  | .stuck => False
theorem wkE {X : Cx} {e : Expr} {t u : TE} (h : PE X e t) (w : ∀ σ H Q, u σ H Q → t σ H Q) : PE X e u := ⟨fun pins s σ H Q I q => h.run pins s σ H Q I (w σ H Q q)⟩
theorem wkT {X : Cx} {e : Expr} {t u : TT} (h : PT X e t) (w : ∀ σ H Q, u σ H Q → t σ H Q) : PT X e u := ⟨fun pins s σ H Q I q => h.run pins s σ H Q I (w σ H Q q)⟩
theorem wkA {X : Cx} {e : List Expr} {t u : TA} (h : PA X e t) (w : ∀ σ H Q, u σ H Q → t σ H Q) : PA X e u := ⟨fun pos pins s σ H Q I q => h.run pos pins s σ H Q I (w σ H Q q)⟩
theorem wkS {X : Cx} {e : Stmt} {t u : TS} (h : PS X e t) (w : ∀ D σ H, u D σ H → t D σ H) : PS X e u := ⟨fun pins s σ H D I q => h.run pins s σ H D I (w D σ H q)⟩
theorem wkSs {X : Cx} {e : List Stmt} {t u : TS} (h : PSs X e t) (w : ∀ D σ H, u D σ H → t D σ H) : PSs X e u := ⟨fun pins s σ H D I q => h.run pins s σ H D I (w D σ H q)⟩
/-- an expression's value, locked behind it -/
def tLk (t : TE) : TE := fun σ H Q => t σ H fun v H' => Q v H' ∨ ∃ p o, v = .ref p ∧ H' p = some o ∧ Lkb o ∧ ∀ od, Q v (L2.upd H' p (lk od o))
theorem pe_lk {X : Cx} {e : Expr} {t : TE} (h : PE X e t) : PE X e (tLk t) := ⟨fun pins s σ H Q I q => thn (h.run pins s σ H _ I q) fun v s1 ⟨x, H1, I1, r, q1⟩ => by
  rcases q1 with q1 | ⟨p, o, rfl, e1, l, q1⟩
  · exact ⟨x, H1, I1, r, q1⟩
  · rcases l with ⟨xs, rfl⟩ | ⟨kvs, rfl⟩ | ⟨φ, rfl⟩ | ⟨C, dx, fs, rfl⟩
    · have e2 : L2.upd H1 p (.lst xs) = H1 := by
        funext a
        by_cases z : a = p
        · subst z; rw [upd_same, e1]
        · rw [upd_ne z]
      obtain ⟨od, _⟩ := I1.lock e1 trivial
      exact ⟨_, H1, I1, r, by have q2 := q1 od; rw [lk_lst, e2] at q2; exact q2⟩
    · obtain ⟨od, I2⟩ := I1.lock e1 trivial
      exact ⟨_, _, I2, r, q1 od⟩
    · obtain ⟨od, I2⟩ := I1.lock e1 trivial
      exact ⟨_, _, I2, r, q1 od⟩
    · have e2 : L2.upd H1 p (.ins C dx fs) = H1 := by
        funext a
        by_cases z : a = p
        · subst z; rw [upd_same, e1]
        · rw [upd_ne z]
      exact ⟨_, H1, I1, r, by have q2 := q1 { cls := .none, data := .plain }; rw [lk_ins, e2] at q2; exact q2⟩⟩
/-- where one stands: the law's context, the wish of exceptions -/
structure At (X : Cx) (W : WX) : Prop where
  calm : X.calm = true
  nd : X.N.Nodup
  un : X.A.units + 64 < cLine
  tk : L2N.Takes X W
  wd : X.w = HW.w
abbrev DE (G : Gx) (X : Cx) (W : WX) (e : Expr) (s : SE) : Prop := PE X e (tE G W s)
abbrev DT (G : Gx) (X : Cx) (W : WX) (e : Expr) (s : ST) : Prop := PT X e (tT G W s)
abbrev DA (G : Gx) (X : Cx) (W : WX) (e : List Expr) (s : SA) : Prop := PA X e (tA G W s)
abbrev DO (G : Gx) (X : Cx) (W : WX) (e : Expr) (s : SO) : Prop := PE X e (tO G W s)
abbrev DB (G : Gx) (X : Cx) (W : WX) (e : List Expr) (s : SB) : Prop := PA X e (tB G W s)
abbrev DF (G : Gx) (X : Cx) (W : WX) (e : Expr) (s : SE) : Prop := PE X e (tF G W s)
abbrev DS (G : Gx) (X : Cx) (W : WX) (e : Stmt) (s : SS) : Prop := PS X e (tS G W s)
abbrev DSs (G : Gx) (X : Cx) (W : WX) (e : List Stmt) (s : SS) : Prop := PSs X e (tS G W s)
abbrev DG (G : Gx) (X : Cx) (W : WX) (js : List Nat) (e : Expr) (s : SG) : Prop := PG X e (tG G W js s)
section
variable {G : Gx} {W : WX} {T : List (Addr × Str)} {io : Io T} {Rv F F' F1 : Hp} {ρ ρ' : Env} {σ : L2.St} {H H' : Hp}
theorem XPost.le {x : Exn} (h : XPost G W io Rv F ρ x) (le : FLe F F1) : XPost G W io Rv F1 ρ x := fun cls dd σ' H' F' l => h cls dd σ' H' F' (le.trans l)
theorem EPost.le {d : D} {Q : VK} (h : EPost G io Rv F σ ρ d Q) (le : FLe F F1) : EPost G io Rv F1 σ ρ d Q := fun v H' F' l => h v H' F' (le.trans l)
def Vw (K : PySem.W.Frag) (F H : Hp) (v : V) (d : D) : Prop := Rp K F v d ∨ ∃ p o, v = .ref p ∧ H p = some o ∧ OwnObj K F p o d
inductive Vws (K : PySem.W.Frag) (F H : Hp) : List V → List D → Prop
  | nil : Vws K F H [] []
  | cons {v : V} {vs : List V} {d : D} {ds : List D} : Vw K F H v d → Vws K F H vs ds → Vws K F H (v :: vs) (d :: ds)
theorem Rel.view (r : Rel G.K io Rv ρ F σ H) {v : V} {o : Opd} {d : D} (h : OpdOk G.K F σ v o) (e : o.get ρ = some d) : Vw G.K F H v d := by
  cases o with
  | val d' => cases e; exact .inl h
  | loc i =>
    have e : (ρ[i]?).bind Cell.data = some d := e
    cases ec : ρ[i]? with
    | none => rw [ec] at e; cases e
    | some c =>
      rw [ec] at e
      have e' : c.data = some d := e
      have q := r.cell i c _ ec h
      cases c with
      | no => cases e'
      | fro _ => cases e'; obtain ⟨x, ex, q⟩ := q; cases ex; exact .inl q
      | own _ => cases e'; obtain ⟨p, ex, q⟩ := q; cases ex; obtain ⟨o, h1, h2⟩ := q.at_; exact .inr ⟨p, o, rfl, h1, h2⟩
      | io _ => cases e'; obtain ⟨p, ex, q⟩ := q; cases ex; obtain ⟨o, h1, h2⟩ := q.at_; exact .inr ⟨p, o, rfl, h1, h2⟩
def getAll (ρ : Env) : List Opd → Option (List D)
  | [] => some []
  | o :: os => (o.get ρ).bind fun d => (getAll ρ os).map fun ds => d :: ds
theorem Rel.views (r : Rel G.K io Rv ρ F σ H) : ∀ {vs : List V} {os : List Opd} {ds : List D}, OpdsOk G.K F σ vs os → getAll ρ os = some ds → Vws G.K F H vs ds
  | _, _, _, .nil, e => by cases e; exact .nil
  | _, _, _, .cons (o := o) (os := os) a b, e => by
    unfold getAll at e
    cases e1 : o.get ρ with
    | none => rw [e1] at e; cases e
    | some d =>
      cases e2 : getAll ρ os with
      | none => rw [e1, e2] at e; cases e
      | some ds => rw [e1, e2] at e; cases e; exact .cons (r.view a e1) (r.views b e2)
theorem Vw.sqT {K : PySem.W.Frag} (fh : FLe F H) {v : V} {ds : List D} (h : Vw K F H v (.tup ds)) : ∃ a xs, v = .ref a ∧ SqT K H a xs ∧ Rps K F xs ds := by
  rcases h with h | ⟨p, o, _, _, h⟩
  · cases h with
    | tup t r => exact ⟨_, _, rfl, fh.sqT t.sq, r⟩
  · exact h.elim
theorem Vw.etup {K : PySem.W.Frag} {v : V} (h : Vw K F H v .etup) : ∃ a, v = .ref a ∧ EtC K a := by
  rcases h with h | ⟨p, o, _, _, h⟩
  · cases h with
    | etup t => exact ⟨_, rfl, t⟩
  · exact h.elim
theorem Vw.argT {K : PySem.W.Frag} (fh : FLe F H) {v : V} {ds : List D} (h : Vw K F H v (.arg ds)) : ∃ a xs, v = .ref a ∧ SqT K H a xs ∧ Rps K F xs ds := by
  rcases h with h | ⟨p, o, _, _, h⟩
  · cases h with
    | arg t r => exact ⟨_, _, rfl, fh.sqT t, r⟩
  · exact h.elim
theorem Vw.lst {K : PySem.W.Frag} (fh : FLe F H) {v : V} {ds : List D} (h : Vw K F H v (.lst ds)) : ∃ a xs, v = .ref a ∧ H a = some (.lst xs) ∧ Rps K F xs ds := by
  rcases h with h | ⟨p, o, e, h1, xs, rfl, r⟩
  · cases h with
    | lst t r => exact ⟨_, _, rfl, fh _ _ t, r⟩
  · exact ⟨p, xs, e, h1, r⟩
theorem Vw.dct {K : PySem.W.Frag} (fh : FLe F H) {v : V} {ks : List Key} {ds : List D} (h : Vw K F H v (.dct ks ds)) : ∃ a kvs, v = .ref a ∧ Rd H a (.dK kvs) ∧ kvs.map (·.1) = ks ∧ Rps K F (kvs.map (·.2)) ds := by
  rcases h with h | ⟨p, o, e, h1, kvs, rfl, e2, r⟩
  · cases h with
    | dct t r => exact ⟨_, _, rfl, .inr ⟨_, fh _ _ t⟩, rfl, r⟩
  · exact ⟨p, kvs, e, .inl h1, e2, r⟩
theorem Vw.int {K : PySem.W.Frag} {v : V} {i : Int} (h : Vw K F H v (.int i)) : v = .int i := by
  rcases h with h | ⟨p, o, _, _, h⟩
  · cases h; rfl
  · exact h.elim
theorem Vw.bl {K : PySem.W.Frag} {v : V} {i : Bool} (h : Vw K F H v (.bl i)) : v = .bl i := by
  rcases h with h | ⟨p, o, _, _, h⟩
  · cases h; rfl
  · exact h.elim
theorem Vw.str {K : PySem.W.Frag} {v : V} {i : Str} (h : Vw K F H v (.str i)) : v = .str i := by
  rcases h with h | ⟨p, o, _, _, h⟩
  · cases h; rfl
  · exact h.elim
theorem Vw.non {K : PySem.W.Frag} {v : V} (h : Vw K F H v .non) : v = .non := by
  rcases h with h | ⟨p, o, _, _, h⟩
  · cases h; rfl
  · exact h.elim
theorem Vws.one {K : PySem.W.Frag} {vs : List V} {d : D} (h : Vws K F H vs [d]) : ∃ v, vs = [v] ∧ Vw K F H v d := by
  cases h with
  | cons a b => cases b; exact ⟨_, rfl, a⟩
theorem Vws.two {K : PySem.W.Frag} {vs : List V} {d e : D} (h : Vws K F H vs [d, e]) : ∃ v w, vs = [v, w] ∧ Vw K F H v d ∧ Vw K F H w e := by
  cases h with
  | cons a b => cases b with
    | cons b c => cases c; exact ⟨_, _, rfl, a, b⟩
/-- behind an operation: more is there, what is frozen of it is new -/
structure New (F H F' H' : Hp) : Prop where
  f : FLe F F'
  h : FLe H H'
  fh : FLe F' H'
  new : ∀ a o, F' a = some o → F a = some o ∨ H a = none
  nt : NoTb F → NoTb F'
theorem New.refl (fh : FLe F H) : New F H F H := ⟨FLe.refl F, FLe.refl H, fh, (fun _ _ e => .inl e), fun h => h⟩
theorem Rel.after {K : PySem.W.Frag} (r : Rel K io Rv ρ F σ H) (n : New F H F' H') : Rel K io Rv ρ F' σ H' := r.grow n.f n.h n.fh n.new (n.nt r.nt)
theorem New.obj (fh : FLe F H) {p : Addr} (n : H p = none) (o : HO) (no : Lone o = true := by rfl) : New F H (upd F p o) (upd H p o) := by
  refine ⟨FLe.upd o (fh.noneOf n), FLe.upd o n, (fun a u e => ?_), (fun a u e => ?_), fun h => h.upd no⟩
  · by_cases h : a = p
    · subst h; rw [upd_same] at e ⊢; exact e
    · rw [upd_ne h] at e ⊢; exact fh a u e
  · by_cases h : a = p
    · subst h; exact .inr n
    · rw [upd_ne h] at e; exact .inl e
abbrev RL := List V → Hp → VK → Prop
/-- the rule r computes g on operands that are looked at -/
def PSem (G : Gx) (r : RL) (g : List D → Option D) : Prop := ∀ F H vs ds d (Q : VK), FLe F H → Vws G.K F H vs ds → g ds = some d → (∀ v H' F', New F H F' H' → Rp G.K F' v d → Q v H') → r vs H Q
/-- .. a new object -/
def FSem (G : Gx) (r : RL) (g : List D → Option D) : Prop := ∀ F H vs ds d (Q : VK), FLe F H → Vws G.K F H vs ds → g ds = some d → (∀ p o, H p = none → OwnObj G.K F p o d → Q (.ref p) (upd H p o)) → r vs H Q
theorem FSem.pure {r : RL} {g : List D → Option D} (h : FSem G r g) (hl : ∀ ds d, g ds = some d → ∃ xs, d = .lst xs) : PSem G r g := fun F H vs ds d Q fh vw e q => h F H vs ds d Q fh vw e fun p o n ob => by
  obtain ⟨xs, rfl⟩ := hl ds d e
  obtain ⟨ys, rfl, r⟩ := ob
  exact q _ _ _ (New.obj fh n _) (.lst upd_same (r.mono (FLe.upd _ (fh.noneOf n))))
end
section
variable {G : Gx} {X : Cx} {W : WX}
def sCst (d : D) : SE := fun ρ => .ok d ρ
theorem d_cst {e : Expr} {v : V} {d : D} (h : PE X e (tC v)) (r : ∀ F, Rp G.K F v d) : DE G X W e (sCst d) := wkE h fun σ H Q ⟨ρ, F, Rv, io, rel, q⟩ => q v H F (FLe.refl F) rel (r F)
theorem d_int {i j pos} : DE G X W (.Constant (.int i) j pos) (sCst (.int i)) := d_cst pe_int fun _ => .int i
theorem d_bl {i j pos} : DE G X W (.Constant (.bool i) j pos) (sCst (.bl i)) := d_cst pe_bl fun _ => .bl i
theorem d_non {j pos} : DE G X W (.Constant .none j pos) (sCst .non) := d_cst pe_non fun _ => .non
theorem d_str {i j pos} : DE G X W (.Constant (.str i) j pos) (sCst (.str i)) := d_cst pe_str fun _ => .str i
/-- a variable: its own object is frozen -/
def sVar (i : Nat) : SE := fun ρ => match ρ[i]? with
  | some (.fro d) => .ok d ρ
  | some (.own d) => .ok d (ρ.set i (.fro d))
  | _ => .stuck
theorem d_var {e : Expr} {i : Nat} (h : PE X e (tVar i)) : DE G X W e (sVar i) := wkE (pe_lk h) fun σ H Q ⟨ρ, F, Rv, io, rel, q⟩ => by
  unfold sVar at q
  cases e : ρ[i]? with
  | none => rw [e] at q; exact q.elim
  | some c =>
    rw [e] at q
    obtain ⟨v, e2, ok⟩ := rel.slot e
    cases c with
    | no => exact q.elim
    | io _ => exact q.elim
    | fro d =>
      obtain ⟨x, rfl, r⟩ := ok
      exact ⟨x, e2, .inl (q x H F (FLe.refl F) rel r)⟩
    | own d =>
      obtain ⟨p, rfl, w⟩ := ok
      obtain ⟨o, h1, h2⟩ := w.at_
      refine ⟨_, e2, .inr ⟨p, o, rfl, h1, h2.lkb, fun od => ?_⟩⟩
      obtain ⟨le, rel', rp⟩ := rel.freeze e e2 h1 h2 od
      exact q _ _ _ le rel' rp
/-- looked at -/
def sLoc (i : Nat) : SO := fun ρ => match ρ[i]? with
  | some .no => .stuck
  | none => .stuck
  | _ => .ok (.loc i) ρ
theorem d_loc {e : Expr} {i : Nat} (h : PE X e (tVar i)) : DO G X W e (sLoc i) := wkE h fun σ H Q ⟨ρ, F, Rv, io, rel, q⟩ => by
  unfold sLoc at q
  cases e : ρ[i]? with
  | none => rw [e] at q; exact q.elim
  | some c =>
    rw [e] at q
    obtain ⟨v, e2, ok⟩ := rel.slot e
    cases c with
    | no => exact q.elim
    | io d => obtain ⟨p, rfl, w⟩ := ok; exact ⟨_, e2, q _ H F (FLe.refl F) rel e2⟩
    | fro d => obtain ⟨x, rfl, r⟩ := ok; exact ⟨_, e2, q _ H F (FLe.refl F) rel e2⟩
    | own d => obtain ⟨p, rfl, w⟩ := ok; exact ⟨_, e2, q _ H F (FLe.refl F) rel e2⟩
def sVal (s : SE) : SO := fun ρ => (s ρ).bind fun d ρ' => .ok (.val d) ρ'
theorem d_val {e : Expr} {s : SE} (h : DE G X W e s) : DO G X W e (sVal s) := wkE h fun σ H Q ⟨ρ, F, Rv, io, rel, q⟩ => by
  refine ⟨ρ, F, Rv, io, rel, ?_⟩
  unfold sVal at q
  cases e : s ρ with
  | stuck => rw [e] at q; exact q.elim
  | exc x ρ' => rw [e] at q; exact q
  | ok d ρ' => rw [e] at q; exact fun v H' F' le rel' r => q v H' F' le rel' r
def sNil : SA := fun ρ => .ok [] ρ
def sCons (s : SE) (t : SA) : SA := fun ρ => (s ρ).bind fun d ρ1 => (t ρ1).bind fun ds ρ2 => .ok (d :: ds) ρ2
theorem d_nil : DA G X W [] sNil := wkA pa_nil fun σ H Q ⟨ρ, F, Rv, io, rel, q⟩ => q [] H F (FLe.refl F) rel .nil
theorem d_cons {e : Expr} {es : List Expr} {s : SE} {t : SA} (h : DE G X W e s) (ht : DA G X W es t) (hs : starEach (e :: es) X.env = (false, eval e X.env) :: starEach es X.env := by rfl) : DA G X W (e :: es) (sCons s t) :=
  wkA (pa_cons h ht hs) fun σ H Q ⟨ρ, F, Rv, io, rel, q⟩ => by
    refine ⟨ρ, F, Rv, io, rel, ?_⟩
    unfold sCons at q
    cases e : s ρ with
    | stuck => rw [e] at q; exact q.elim
    | exc x ρ' => rw [e] at q; exact q
    | ok d ρ' =>
      rw [e] at q
      refine fun v H' F' le rel' r => ⟨ρ', F', Rv, io, rel', ?_⟩
      rw [R.bind_ok] at q
      cases e2 : t ρ' with
      | stuck => rw [e2] at q; exact q.elim
      | exc x ρ'' => rw [e2] at q; exact XPost.le q le
      | ok ds ρ'' => rw [e2] at q; exact fun vs H2 F2 le2 rel2 r2 => q (v :: vs) H2 F2 (le.trans le2) rel2 (.cons (r.mono le2) r2)
def bNil : SB := fun ρ => .ok [] ρ
def bCons (s : SO) (t : SB) : SB := fun ρ => (s ρ).bind fun d ρ1 => (t ρ1).bind fun ds ρ2 => .ok (d :: ds) ρ2
theorem d_bnil : DB G X W [] bNil := wkA pa_nil fun σ H Q ⟨ρ, F, Rv, io, rel, q⟩ => q [] H F (FLe.refl F) rel .nil
theorem d_bcons {e : Expr} {es : List Expr} {s : SO} {t : SB} (h : DO G X W e s) (ht : DB G X W es t) (hs : starEach (e :: es) X.env = (false, eval e X.env) :: starEach es X.env := by rfl) : DB G X W (e :: es) (bCons s t) :=
  wkA (pa_cons h ht hs) fun σ H Q ⟨ρ, F, Rv, io, rel, q⟩ => by
    refine ⟨ρ, F, Rv, io, rel, ?_⟩
    unfold bCons at q
    cases e : s ρ with
    | stuck => rw [e] at q; exact q.elim
    | exc x ρ' => rw [e] at q; exact q
    | ok d ρ' =>
      rw [e] at q
      refine fun v H' F' le rel' r => ⟨ρ', F', Rv, io, rel', ?_⟩
      rw [R.bind_ok] at q
      cases e2 : t ρ' with
      | stuck => rw [e2] at q; exact q.elim
      | exc x ρ'' => rw [e2] at q; exact XPost.le q le
      | ok ds ρ'' => rw [e2] at q; exact fun vs H2 F2 le2 rel2 r2 => q (v :: vs) H2 F2 (le.trans le2) rel2 (.cons (r.mono le2) r2)
/-- an operation on operands that are looked at -/
def ofO {α : Type} (o : Option α) (ρ : Env) : R α := match o with
  | some a => .ok a ρ
  | none => .stuck
def sOps (g : List D → Option D) (s : SB) : SE := fun ρ => (s ρ).bind fun os ρ' => ofO ((getAll ρ' os).bind g) ρ'
def b1 (s : SO) : SB := bCons s bNil
def b2 (s t : SO) : SB := bCons s (bCons t bNil)
/-- a list of operands behind a rule by values -/
theorem ops_core {r : RL} {g : List D → Option D} (hg : PSem G r g) {s : SB} {σ : L2.St} {H : Hp} {Q : VK} (h : tE G W (sOps g s) σ H Q) : tB G W s σ H fun vs H' => r vs H' Q := by
  obtain ⟨ρ, F, Rv, io, rel, q⟩ := h
  refine ⟨ρ, F, Rv, io, rel, ?_⟩
  unfold sOps at q
  cases e : s ρ with
  | stuck => rw [e] at q; exact q.elim
  | exc x ρ' => rw [e] at q; exact q
  | ok os ρ' =>
    rw [e, R.bind_ok] at q
    refine fun vs H' F' le rel' ok => ?_
    cases e2 : getAll ρ' os with
    | none => rw [e2] at q; exact q.elim
    | some ds =>
      rw [e2, Option.bind_some] at q
      cases e3 : g ds with
      | none => rw [e3] at q; exact q.elim
      | some d =>
        rw [e3] at q
        exact hg F' H' vs ds d Q rel'.fH (rel'.views ok e2) e3 fun v H2 F2 n rp => q v H2 F2 (le.trans n.f) (rel'.after n) rp
theorem opsF_core {r : RL} {g : List D → Option D} (hg : FSem G r g) {s : SB} {σ : L2.St} {H : Hp} {Q : VK} (h : tF G W (sOps g s) σ H Q) : tB G W s σ H fun vs H' => r vs H' Q := by
  obtain ⟨ρ, F, Rv, io, rel, q⟩ := h
  refine ⟨ρ, F, Rv, io, rel, ?_⟩
  unfold sOps at q
  cases e : s ρ with
  | stuck => rw [e] at q; exact q.elim
  | exc x ρ' => rw [e] at q; exact q
  | ok os ρ' =>
    rw [e, R.bind_ok] at q
    refine fun vs H' F' le rel' ok => ?_
    cases e2 : getAll ρ' os with
    | none => rw [e2] at q; exact q.elim
    | some ds =>
      rw [e2, Option.bind_some] at q
      cases e3 : g ds with
      | none => rw [e3] at q; exact q.elim
      | some d =>
        rw [e3] at q
        refine hg F' H' vs ds d Q rel'.fH (rel'.views ok e2) e3 fun p o n ob => ?_
        have nF : F' p = none := rel'.fH.noneOf n
        have nR : Rv p = none := rel'.rH.noneOf n
        exact q p _ F' le (rel'.newH n o) ⟨nF, nR, o, upd_same, ob⟩ (rel'.loose n)
/-- two operands, one after the other -/
theorem two_core {a b : Expr} {sa sb : SO} {σ : L2.St} {H : Hp} {k : List V → Hp → Prop} (h : tB G W (b2 sa sb) σ H k) : tO G W sa σ H fun x H1 => tO G W sb σ H1 fun y H2 => k [x, y] H2 := by
  obtain ⟨ρ, F, Rv, io, rel, q⟩ := h
  refine ⟨ρ, F, Rv, io, rel, ?_⟩
  unfold b2 bCons at q
  cases e : sa ρ with
  | stuck => rw [e] at q; exact q.elim
  | exc x ρ' => rw [e] at q; exact q
  | ok o ρ' =>
    rw [e, R.bind_ok] at q
    refine fun v H' F' le rel' r => ⟨ρ', F', Rv, io, rel', ?_⟩
    cases e2 : sb ρ' with
    | stuck => rw [e2] at q; exact q.elim
    | exc x ρ'' => rw [e2] at q; exact XPost.le q le
    | ok o2 ρ'' =>
      rw [e2] at q
      exact fun w H2 F2 le2 rel2 r2 => q [v, w] H2 F2 (le.trans le2) rel2 (.cons (r.mono le2) (.cons r2 .nil))
theorem one_core {sa : SO} {σ : L2.St} {H : Hp} {k : List V → Hp → Prop} (h : tB G W (b1 sa) σ H k) : tO G W sa σ H fun x H1 => k [x] H1 := by
  obtain ⟨ρ, F, Rv, io, rel, q⟩ := h
  refine ⟨ρ, F, Rv, io, rel, ?_⟩
  unfold b1 bCons at q
  cases e : sa ρ with
  | stuck => rw [e] at q; exact q.elim
  | exc x ρ' => rw [e] at q; exact q
  | ok o ρ' =>
    rw [e, R.bind_ok] at q
    exact fun v H' F' le rel' r => q [v] H' F' le rel' (.cons r .nil)
def r2L (r : R2) : RL := fun vs H Q => ∃ x y, vs = [x, y] ∧ r x y H Q
end
end Dt
set_option Elab.async false
set_option linter.all false
set_option maxRecDepth 100000
set_option maxHeartbeats 4000000
namespace Dt
open PySem PySem.Spec PyProof.Rows L2
variable [HW]
abbrev tupO (its : List Value) : Obj := { cls := .type "tuple", data := .seq its.toArray }
/-- the new tuple at p -/
def NewT (H : Hp) (xs : List V) (Q : VK) : Prop := ∀ p o, H p = none → o.dict = none → Q (.ref p) (upd H p (.frz o (.tup xs)))
section
variable {X : Cx} {pins : List (Addr × Obj)} {σ : L2.St} {H : Hp} {s : Shared}
theorem frz_ok {P : Program} {w : World} {H : Hp} {h : Heap} {its : List Value} {xs : List V} (z : xs.length ≤ sizeLine) (r : Vals xs its) : ObjOk P w H (h.push (tupO its)) h.objs.size (.frz (tupO its) (.tup xs)) :=
  ⟨Heap.get?_push_size _ rfl, z, its, r, IsTup.new _ _⟩
theorem made {its : List Value} {xs : List V} {Q : VK} (I : Inv X pins σ H s) (r : Vals xs its) (z : xs.length ≤ sizeLine) (q : NewT H xs Q) : EP X pins σ Q (.ref s.heap.objs.size) { s with heap := s.heap.push (tupO its) } :=
  ⟨.ref s.heap.objs.size, _, I.laid (t' := s.toks) (o := .frz (tupO its) (.tup xs)) (fun b ob e => Heap.get?_push_of_some _ e) (Nat.le_refl _) (frz_ok z r), rfl, q _ _ (I.hok.fresh (Nat.le_refl _)) rfl⟩
/-- (a, b, ..) -/
def tTupZ (t : TA) : TE := fun σ H Q => t σ H fun xs H1 => xs.length ≤ sizeLine ∧ NewT H1 xs Q
theorem pe_tupZ {es : List Expr} {t : TA} {x1 : Nat} {pos : Pos} (h : PA X es t) : PE X (.Tuple es x1 pos) (tTupZ t) :=
  ⟨fun pins s σ H Q I hq => wpAny_Tuple_spliced (thn (h.run pos pins s σ H _ I hq) fun us s1 ⟨xs, H1, I1, r, z, q⟩ => ⟨by rw [← r.length]; exact z, made I1 r z q⟩)⟩
/-- t + u -/
def rCatZ (K : PySem.W.Frag) : R2 := fun x y H Q => ∃ (a b : Addr) (xs ys : List V), x = V.ref a ∧ y = V.ref b ∧ SqT K H a xs ∧ SqT K H b ys ∧ xs.length + ys.length ≤ sizeLine ∧ (xs = [] → Q (.ref b) H) ∧ (xs ≠ [] → ys = [] → Q (.ref a) H) ∧ (xs ≠ [] → ys ≠ [] → NewT H (xs ++ ys) Q)
theorem op_catZ : OpR X (binaryOp .Add) (rCatZ X.K) := by
  intro pins s σ H x y v u Q I rx ry ⟨a, b, xs, ys, ex, ey, ha, hb, hz, q0, q1, q2⟩
  subst ex ey
  by_cases hx : xs = []
  · exact op_catA pins s σ H _ _ v u Q I rx ry ⟨a, b, xs, ys, rfl, rfl, ha, hb, hz, q0, q1, fun n => absurd hx n⟩
  · cases rx; cases ry
    obtain ⟨its, r1, p1, _⟩ := I.tuple ha
    obtain ⟨its2, r2, p2, _⟩ := I.tuple hb
    exact HT.cat_tup p1 p2 (fun z => hx (r1.nil_iff.mp z)) (fun z => ⟨.ref a, H, I, rfl, q1 hx (r2.nil_iff.mp z)⟩) (fun z => made I (r1.append r2) (by rw [List.length_append]; exact hz) (q2 hx fun w => z (r2.nil_iff.mpr w))) (by rw [← r1.length, ← r2.length]; exact hz)
/-- tuple(x) -/
theorem call_tupleZ : CallR X (.type "tuple") (fun xs H Q => ∃ (p : Addr) (ys : List V), xs = [V.ref p] ∧ ((SqL X.K H p ys ∧ NewT H ys Q) ∨ (SqT X.K H p ys ∧ Q (.ref p) H))) := by
  intro pins s σ H xs us Q I r ⟨p, ys, ex, h⟩
  subst ex
  obtain ⟨u, eu, rx⟩ := vals1 r
  subst eu; cases rx
  rcases h with ⟨hq, q⟩ | ⟨hq, q⟩
  · obtain ⟨its, r', pl, hz⟩ := I.list hq
    have hlen := r'.length
    exact call_tuple_list pl.isList (fun h1 kp => made (s := { s with heap := h1 }) (I.kept (t' := s.toks) kp) r' hz q) (by simp only [List.size_toArray]; omega)
  · obtain ⟨its, r', pl, hz⟩ := I.tuple hq
    exact call_tuple_same pl ⟨.ref p, H, I, rfl, q⟩
/-- t * k -/
theorem tuple_mul1 (l : Addr) (items : Array Value) (n : Nat) (dd : Option Addr) (sl : Array (Option Value)) (u : Tok) :
    Meets (Builtin.«tuple.__mul__» ⟨[.ref l, .int 1 u], []⟩) (fun _ R s => s.heap.get? l = some { cls := .type "tuple", dict := dd, data := .seq items n, slots := sl } ∧ R (.ok (.ret (Value.ref l))) s) :=
  .of_wp fun prog w A R s h => by
    obtain ⟨hp, g, d, tk, os⟩ := s
    obtain ⟨hl, h⟩ := h
    have f1 := AutoSeq1.idx_int
    wp_walk using wpAny_loadPart' hl
    repeat (first
      | (refine wpAny_ite_false (decide_eq_false (by decide)) ?_; wp_walk using wpAny_loadPart' hl)
      | (refine wpAny_ite_true (decide_eq_true (by simp)) ?_; wp_walk using wpAny_loadPart' hl))
    exact ⟨_, rfl, h⟩
/-- t * 1: the same tuple -/
def rRep1 (K : PySem.W.Frag) : R2 := fun x y H Q => ∃ (l : Addr) (xs : List V), x = V.ref l ∧ y = V.int 1 ∧ SqT K H l xs ∧ Q (.ref l) H
theorem op_rep1 : OpR X (binaryOp .Mult) (rRep1 X.K) := by
  intro pins s σ H x y v u Q I rx ry ⟨l, xs, ex, ey, hT, q⟩
  subst ex ey
  cases rx
  obtain ⟨t, rfl⟩ := ry
  obtain ⟨its, r, ⟨⟨cls, dd, data, sl⟩, ho, hc, n, hd⟩, hs⟩ := I.tuple hT
  obtain rfl : cls = _ := hc
  obtain rfl : data = _ := hd
  exact wpAny_binaryOp_repeat_ref (T := "tuple") (U := "int") (by decide) ⟨_, ho, rfl⟩ (fun z => typeIs_int z 1 t) noFill_tuple_mul F.fills_int_mul F.slot_int_rmul repeat_tuple F.slot_int_index.lookup (call_meets F.slot_int_rmul (typeIs_int s 1 t) F.entry_int_rmul (F.args_int_rmul_2 _ _) (int_rmul_tuple 1 t l its.toArray n dd sl)
    ⟨ho, rfl, ⟨_, ho, rfl⟩, call_meets F.slot_tuple_mul ⟨_, ho, rfl⟩ F.entry_tuple_mul (F.args_tuple_mul_2 _ _) (tuple_mul1 l its.toArray n dd sl t) ⟨ho, ⟨.ref l, H, I, rfl, q⟩⟩⟩)
def rRepZ (K : PySem.W.Frag) : R2 := fun x y H Q => ∃ (l : Addr) (k : Int) (xs : List V), x = V.ref l ∧ y = V.int k ∧ SqT K H l xs ∧ xs ≠ [] ∧ 2 ≤ k ∧ k ≤ 1000 ∧ xs.length ≤ 1000 ∧ NewT H (List.replicate k.toNat xs).flatten Q
theorem rep_len {α : Type} {l : List α} {k : Int} (h1 : l.length ≤ 1000) (h2 : k ≤ 1000) : (List.replicate k.toNat l).flatten.length ≤ sizeLine := by
  have h3 : k.toNat * l.length ≤ 1000 * 1000 := Nat.mul_le_mul (by omega) h1
  rw [PyProof.Rows.lm_len_rep_flat, sizeLine_eq]; omega
theorem op_repZ : OpR X (binaryOp .Mult) (rRepZ X.K) := by
  intro pins s σ H x y v u Q I rx ry ⟨l, k, xs, ex, ey, hT, ne, h1, h2, hz, q⟩
  subst ex ey
  cases rx
  obtain ⟨t, rfl⟩ := ry
  obtain ⟨its, r, ⟨⟨cls, dd, data, sl⟩, ho, hc, n, hd⟩, hs⟩ := I.tuple hT
  obtain rfl : cls = _ := hc
  obtain rfl : data = _ := hd
  have le := r.length
  have full : its.toArray.isEmpty = false := by
    cases its with
    | nil => exact absurd (List.eq_nil_of_length_eq_zero le) ne
    | cons a b => rfl
  have sz : ((its.toArray.size : Nat) : Int) * k ≤ 1000 * k := Int.mul_le_mul_of_nonneg_right (by rw [List.size_toArray]; omega) (by omega)
  have b0 : (decide (k < -(2 ^ 63)) || decide (k ≥ 2 ^ 63)) = false := by simp; omega
  have b1 : (its.toArray.isEmpty || k == 1) = false := by rw [full, Bool.false_or]; exact beq_eq_false_iff_ne.mpr (by omega)
  have b2 : (decide (k ≤ 0) || its.toArray.isEmpty) = false := by rw [full, Bool.or_false]; exact decide_eq_false (by omega)
  have b3 : Builtin.Tuple.tupleTooMany (((its.toArray.size : Nat) : Int) * k) = false := by unfold Builtin.Tuple.tupleTooMany; rw [sizeLine_eq]; exact decide_eq_false (by omega)
  refine wpAny_binaryOp_repeat_ref (T := "tuple") (U := "int") (by decide) ⟨_, ho, rfl⟩ (fun z => typeIs_int z k t) noFill_tuple_mul F.fills_int_mul F.slot_int_rmul repeat_tuple F.slot_int_index.lookup (call_meets F.slot_int_rmul (typeIs_int s k t) F.entry_int_rmul (F.args_int_rmul_2 _ _) (int_rmul_tuple k t l its.toArray n dd sl)
    ⟨ho, rfl, ⟨_, ho, rfl⟩, call_meets F.slot_tuple_mul ⟨_, ho, rfl⟩ F.entry_tuple_mul (F.args_tuple_mul_2 _ _) (tuple_mulW l its.toArray n dd sl k t b0 b1 b2 (by omega) b3 (by rw [size_rep, List.size_toArray]; exact rep_len (by omega) h2)) ⟨ho, ?_⟩⟩)
  rw [size_rep]
  exact made I (r.rep k.toNat) (rep_len hz h2) q
end
end Dt
set_option Elab.async false
set_option linter.all false
set_option maxRecDepth 100000
set_option maxHeartbeats 2000000
namespace Dt
open PySem PySem.Spec PyProof.Rows L2
variable [HW]
mutual
def D.py : D → Option PyData
  | .non => some .none
  | .bl b => some (.bool b)
  | .int i => some (.int i)
  | .str s => some (.str s)
  | .tup ds => (D.pys ds).map .tuple
  | .lst ds => (D.pys ds).map .list
  | .dct _ _ => none
  | .scr _ => none
  | .arg _ => none
  | .fn _ => none
  | .exn _ => none
  | .xv _ => none
  | .xm _ _ => none
  | .tal _ => none
  | .etup => none
  | .nd _ _ => none
def D.pys : List D → Option (List PyData)
  | [] => some []
  | d :: ds => (D.py d).bind fun x => (D.pys ds).map fun xs => x :: xs
end
mutual
theorem Rp.dp {K : PySem.W.Frag} {F : Hp} : ∀ {v : V} {d : D} {e : PyData}, Rp K F v d → d.py = some e → Dp K F v e
  | _, _, _, .non, h => by simp only [D.py] at h; cases h; exact .non
  | _, _, _, .bl b, h => by simp only [D.py] at h; cases h; exact .bl b
  | _, _, _, .int b, h => by simp only [D.py] at h; cases h; exact .int b
  | _, _, _, .str b, h => by simp only [D.py] at h; cases h; exact .str b
  | _, _, _, .tup (ds := ds) t r, h => by
    simp only [D.py] at h
    cases e : D.pys ds with
    | none => rw [e] at h; cases h
    | some xs => rw [e] at h; cases h; exact .tup t.sq (Rps.dp r e)
  | _, _, _, .lst (ds := ds) t r, h => by
    simp only [D.py] at h
    cases e : D.pys ds with
    | none => rw [e] at h; cases h
    | some xs => rw [e] at h; cases h; exact .lst (SqL.of t) (Rps.dp r e)
  | _, _, _, .dct _ _, h => by simp only [D.py] at h; cases h
  | _, _, _, .scr _, h => by simp only [D.py] at h; cases h
  | _, _, _, .arg _ _, h => by simp only [D.py] at h; cases h
  | _, _, _, .fn _, h => by simp only [D.py] at h; cases h
  | _, _, _, .exn _, h => by simp only [D.py] at h; cases h
  | _, _, _, .xv _ _, h => by simp only [D.py] at h; cases h
  | _, _, _, .xm _ _ _ _, h => by simp only [D.py] at h; cases h
  | _, _, _, .tal _ _, h => by simp only [D.py] at h; cases h
  | _, _, _, .etup _, h => by simp only [D.py] at h; cases h
  | _, _, _, .nd _ _ _ _, h => by simp only [D.py] at h; cases h
theorem Rps.dp {K : PySem.W.Frag} {F : Hp} : ∀ {vs : List V} {ds : List D} {es : List PyData}, Rps K F vs ds → D.pys ds = some es → DpAll K F vs es
  | _, _, _, .nil, h => by simp only [D.pys] at h; cases h; exact .nil
  | _, _, _, .cons (d := d) (ds := ds) a b, h => by
    simp only [D.pys] at h
    cases e1 : D.py d with
    | none => rw [e1] at h; cases h
    | some x =>
      cases e2 : D.pys ds with
      | none => rw [e1, e2] at h; cases h
      | some xs => rw [e1, e2] at h; cases h; exact .cons (Rp.dp a e1) (Rps.dp b e2)
end
theorem Vw.dp {K : PySem.W.Frag} {F H : Hp} (fh : FLe F H) {v : V} {d : D} {e : PyData} (h : Vw K F H v d) (q : d.py = some e) : Dp K H v e := by
  rcases h with h | ⟨p, o, rfl, h1, h2⟩
  · exact (h.mono fh).dp q
  · cases d with
    | lst ds =>
      obtain ⟨xs, rfl, r⟩ := h2
      exact Rp.dp (.lst h1 (r.mono fh)) q
    | _ => first | exact h2.elim | (simp only [D.py] at q; cases q)
section
variable {G : Gx}
def gI (C : Int → Int → Prop) [∀ i j, Decidable (C i j)] (f : Int → Int → D) : List D → Option D
  | [.int i, .int j] => if C i j then some (f i j) else none
  | _ => none
/-- a result that is no object -/
theorem fin_flat {F H : Hp} {K : PySem.W.Frag} {v : V} {d : D} {Q : VK} (fh : FLe F H) (q : ∀ v H' F', New F H F' H' → Rp K F' v d → Q v H') (r : Rp K F v d) : Q v H := q v H F (New.refl fh) r
/-- a rule of two ints -/
theorem psem_I {C : Int → Int → Prop} [∀ i j, Decidable (C i j)] {f : Int → Int → D} {fv : Int → Int → V} (hf : ∀ F i j, Rp G.K F (fv i j) (f i j)) : PSem G (r2L (rI C fv)) (gI C f) := fun F H vs ds d Q fh vw e q => by
  unfold gI at e
  split at e
  · rename_i i j
    split at e
    · rename_i hc
      cases e
      obtain ⟨v, w, rfl, h1, h2⟩ := vw.two
      exact ⟨v, w, rfl, i, j, h1.int, h2.int, hc, fin_flat fh q (hf F i j)⟩
    · cases e
  · cases e
theorem psem_I0 {f : Int → Int → D} {fv : Int → Int → V} (hf : ∀ F i j, Rp G.K F (fv i j) (f i j)) : PSem G (r2L (rI0 fv)) (gI (fun _ _ => True) f) := fun F H vs ds d Q fh vw e q => by
  unfold gI at e
  split at e
  · rename_i i j
    split at e
    · cases e
      obtain ⟨v, w, rfl, h1, h2⟩ := vw.two
      exact ⟨v, w, rfl, i, j, h1.int, h2.int, fin_flat fh q (hf F i j)⟩
    · cases e
  · cases e
def gStr2 (C : Str → Str → Prop) [∀ i j, Decidable (C i j)] (f : Str → Str → D) : List D → Option D
  | [.str i, .str j] => if C i j then some (f i j) else none
  | _ => none
instance (i j : Str) : Decidable (i.length + j.length ≤ sizeLine) := inferInstance
theorem psem_catS : PSem G (r2L fun x y H Q => ∃ i j, x = .str i ∧ y = .str j ∧ i.length + j.length ≤ sizeLine ∧ Q (.str (i ++ j)) H) (gStr2 (fun i j => i.length + j.length ≤ sizeLine) fun i j => .str (i ++ j)) := fun F H vs ds d Q fh vw e q => by
  unfold gStr2 at e
  split at e
  · rename_i i j
    split at e
    · rename_i hc
      cases e
      obtain ⟨v, w, rfl, h1, h2⟩ := vw.two
      exact ⟨v, w, rfl, i, j, h1.str, h2.str, hc, fin_flat fh q (.str _)⟩
    · cases e
  · cases e
/-- tuples -/
def gCatT : List D → Option D
  | [.tup a, .tup b] => if a.length + b.length ≤ sizeLine then some (.tup (a ++ b)) else none
  | _ => none
theorem psem_catT : PSem G (r2L (rCatZ G.K)) gCatT := fun F H vs ds d Q fh vw e q => by
  unfold gCatT at e
  split at e
  · rename_i ds1 ds2
    split at e
    · rename_i hc
      cases e
      obtain ⟨v, w, rfl, h1, h2⟩ := vw.two
      obtain ⟨a, xs, rfl, t1, r1⟩ := h1.sqT fh
      obtain ⟨b, ys, rfl, t2, r2⟩ := h2.sqT fh
      have rp1 : Rp G.K F (.ref a) (.tup ds1) := by rcases h1 with z | ⟨_, _, _, _, z⟩; exact z; exact z.elim
      have rp2 : Rp G.K F (.ref b) (.tup ds2) := by rcases h2 with z | ⟨_, _, _, _, z⟩; exact z; exact z.elim
      refine ⟨_, _, rfl, a, b, xs, ys, rfl, rfl, t1, t2, by rw [r1.length, r2.length]; exact hc, fun z => ?_, fun z1 z2 => ?_, fun z1 z2 p o hp ho => ?_⟩
      · subst z
        cases r1
        exact fin_flat fh q (by simpa using rp2)
      · subst z2
        cases r2
        exact fin_flat fh q (by simpa using rp1)
      · exact q _ _ _ (New.obj fh hp _) (.tup (.new ho) ((r1.append r2).mono (FLe.upd _ (fh.noneOf hp))))
    · cases e
  · cases e
/-- lists -/
def gCatL : List D → Option D
  | [.lst a, .lst b] => if a.length + b.length ≤ sizeLine then some (.lst (a ++ b)) else none
  | _ => none
theorem catL_lst (ds : List D) (d : D) (e : gCatL ds = some d) : ∃ xs, d = .lst xs := by
  unfold gCatL at e
  split at e
  · split at e
    · cases e; exact ⟨_, rfl⟩
    · cases e
  · cases e
theorem fsem_catL : FSem G (r2L rCat) gCatL := fun F H vs ds d Q fh vw e q => by
  unfold gCatL at e
  split at e
  · rename_i ds1 ds2
    split at e
    · rename_i hc
      cases e
      obtain ⟨v, w, rfl, h1, h2⟩ := vw.two
      obtain ⟨a, xs, rfl, t1, r1⟩ := h1.lst fh
      obtain ⟨b, ys, rfl, t2, r2⟩ := h2.lst fh
      exact ⟨_, _, rfl, a, b, xs, ys, rfl, rfl, t1, t2, by rw [r1.length, r2.length]; exact hc, fun p hp => q p _ hp ⟨_, rfl, r1.append r2⟩⟩
    · cases e
  · cases e
/-- a + b -/
def rAddAll (K : PySem.W.Frag) : R2 := fun x y H Q => rI0 (fun i j => .int (i + j)) x y H Q ∨ ((∃ i j, x = .str i ∧ y = .str j ∧ i.length + j.length ≤ sizeLine ∧ Q (.str (i ++ j)) H) ∨ (rCatZ K x y H Q ∨ rCat x y H Q))
theorem op_addAll {X : Cx} : OpR X (binaryOp .Add) (rAddAll X.K) := op_add.or (op_add_str.or (op_catZ.or op_cat))
def gAdd : List D → Option D
  | [.int i, .int j] => some (.int (i + j))
  | [.str i, .str j] => if i.length + j.length ≤ sizeLine then some (.str (i ++ j)) else none
  | [.tup a, .tup b] => if a.length + b.length ≤ sizeLine then some (.tup (a ++ b)) else none
  | [.lst a, .lst b] => if a.length + b.length ≤ sizeLine then some (.lst (a ++ b)) else none
  | _ => none
theorem psem_add : PSem G (r2L (rAddAll G.K)) gAdd := fun F H vs ds d Q fh vw e q => by
  unfold gAdd at e
  split at e
  · rename_i i j
    obtain ⟨x, y, e1, z⟩ := psem_I0 (G := G) (f := fun i j => .int (i + j)) (fv := fun i j => .int (i + j)) (fun _ _ _ => .int _) F H vs [.int i, .int j] d Q fh vw e q
    exact ⟨x, y, e1, .inl z⟩
  · rename_i i j
    obtain ⟨x, y, e1, z⟩ := psem_catS F H vs [.str i, .str j] d Q fh vw e q
    exact ⟨x, y, e1, .inr (.inl z)⟩
  · rename_i i j
    obtain ⟨x, y, e1, z⟩ := psem_catT F H vs [.tup i, .tup j] d Q fh vw e q
    exact ⟨x, y, e1, .inr (.inr (.inl z))⟩
  · rename_i i j
    obtain ⟨x, y, e1, z⟩ := (fsem_catL.pure catL_lst) F H vs [.lst i, .lst j] d Q fh vw e q
    exact ⟨x, y, e1, .inr (.inr (.inr z))⟩
  · cases e
abbrev gSub : List D → Option D := gI (fun _ _ => True) fun i j => .int (i - j)
theorem psem_sub : PSem G (r2L (rI0 fun i j => .int (i - j))) gSub := psem_I0 fun _ _ _ => .int _
instance (i j : Int) : Decidable (CMulW i j) := by unfold CMulW; infer_instance
/-- one factor below 2^64, or both together not too long -/
def CMulA (i j : Int) : Prop := CMul i j ∨ CMulW i j
instance (i j : Int) : Decidable (CMulA i j) := by unfold CMulA CMul; infer_instance
instance (i j : Int) : Decidable (CDivW i j) := by unfold CDivW; infer_instance
instance (i j : Int) : Decidable (CPow i j) := by unfold CPow; infer_instance
/-- a * b: ints; a tuple so often -/
def rMulAll (K : PySem.W.Frag) : R2 := fun x y H Q => rI CMulA (fun i j => .int (i * j)) x y H Q ∨ rRepZ K x y H Q ∨ rRep1 K x y H Q
def gMul : List D → Option D
  | [.int i, .int j] => if CMulA i j then some (.int (i * j)) else none
  | [.tup a, .int k] => if a.isEmpty = false ∧ 1 ≤ k ∧ k ≤ 1000 ∧ a.length ≤ 1000 then some (.tup (List.replicate k.toNat a).flatten) else none
  | _ => none
theorem psem_mul : PSem G (r2L (rMulAll G.K)) gMul := fun F H vs ds d Q fh vw e q => by
  unfold gMul at e
  split at e
  · rename_i i j
    split at e
    · rename_i hc
      cases e
      obtain ⟨v, w, rfl, h1, h2⟩ := vw.two
      exact ⟨v, w, rfl, .inl ⟨i, j, h1.int, h2.int, hc, fin_flat fh q (.int _)⟩⟩
    · cases e
  · rename_i ds1 k
    split at e
    · rename_i hc
      cases e
      obtain ⟨v, w, rfl, h1, h2⟩ := vw.two
      obtain ⟨a, xs, rfl, t1, r1⟩ := h1.sqT fh
      have e2 := h2.int
      subst e2
      obtain ⟨c1, c2, c3, c4⟩ := hc
      by_cases k1 : k = 1
      · subst k1
        refine ⟨_, _, rfl, .inr (.inr ⟨a, xs, rfl, rfl, t1, ?_⟩)⟩
        rcases h1 with h1 | ⟨_, _, _, _, h1⟩
        · refine fin_flat fh q ?_
          have : (List.replicate (1 : Int).toNat ds1).flatten = ds1 := by simp
          rw [this]
          exact h1
        · exact h1.elim
      refine ⟨_, _, rfl, .inr (.inl ⟨a, k, xs, rfl, rfl, t1, fun z => ?_, by omega, c3, by rw [r1.length]; exact c4, fun p o hp ho => q _ _ _ (New.obj fh hp _) (.tup (.new ho) ((r1.rep _).mono (FLe.upd _ (fh.noneOf hp))))⟩)⟩
      subst z
      cases r1
      cases c1
    · cases e
  · cases e
theorem op_mulA {X : Cx} : OpR X (binaryOp .Mult) (rI CMulA fun i j => .int (i * j)) := by
  intro pins s σ H x y v u Q I rx ry ⟨i, j, h1, h2, hc, q⟩
  rcases hc with hc | hc
  · exact op_mul pins s σ H x y v u Q I rx ry ⟨i, j, h1, h2, hc, q⟩
  · exact op_mulW pins s σ H x y v u Q I rx ry ⟨i, j, h1, h2, hc, q⟩
theorem op_mulAll {X : Cx} : OpR X (binaryOp .Mult) (rMulAll X.K) := op_mulA.or (op_repZ.or op_rep1)
abbrev gDiv : List D → Option D := gI CDivW fun i j => .int (i / j)
theorem psem_div : PSem G (r2L (rI CDivW fun i j => .int (i / j))) gDiv := psem_I fun _ _ _ => .int _
abbrev gMod : List D → Option D := gI (fun _ j => 0 < j) fun i j => .int (i % j)
theorem psem_mod : PSem G (r2L (rI (fun _ j => 0 < j) fun i j => .int (i % j))) gMod := psem_I fun _ _ _ => .int _
abbrev gPow : List D → Option D := gI CPow fun i j => .int (i ^ j.toNat)
theorem psem_pow : PSem G (r2L (rI CPow fun i j => .int (i ^ j.toNat))) gPow := psem_I fun _ _ _ => .int _
def gNeg : List D → Option D
  | [.int i] => some (.int (-i))
  | _ => none
theorem psem_neg : PSem G (fun vs H Q => ∃ x, vs = [x] ∧ rU (fun i => .int (-i)) x H Q) gNeg := fun F H vs ds d Q fh vw e q => by
  unfold gNeg at e
  split at e
  · rename_i i
    cases e
    obtain ⟨v, rfl, h1⟩ := vw.one
    exact ⟨v, rfl, i, h1.int, fin_flat fh q (.int _)⟩
  · cases e
def lexI (f : Int → Int → Bool) (g : Str → Str → Bool) : List D → Option D
  | [.int i, .int j] => some (.bl (f i j))
  | [.str i, .str j] => some (.bl (g i j))
  | _ => none
def rOrd (f : Int → Int → Bool) (g : Str → Str → Bool) : R2 := fun x y H Q => rI0 (fun i j => .bl (f i j)) x y H Q ∨ ∃ i j, x = .str i ∧ y = .str j ∧ Q (.bl (g i j)) H
theorem psem_ord {f : Int → Int → Bool} {g : Str → Str → Bool} : PSem G (r2L (rOrd f g)) (lexI f g) := fun F H vs ds d Q fh vw e q => by
  unfold lexI at e
  split at e
  · rename_i i j
    cases e
    obtain ⟨v, w, rfl, h1, h2⟩ := vw.two
    exact ⟨v, w, rfl, .inl ⟨i, j, h1.int, h2.int, fin_flat fh q (.bl _)⟩⟩
  · rename_i i j
    cases e
    obtain ⟨v, w, rfl, h1, h2⟩ := vw.two
    exact ⟨v, w, rfl, .inr ⟨i, j, h1.str, h2.str, fin_flat fh q (.bl _)⟩⟩
  · cases e
abbrev sLt (i j : Str) : Bool := decide (i.cps.toList < j.cps.toList)
abbrev sLe (i j : Str) : Bool := !decide (j.cps.toList < i.cps.toList)
abbrev gLt : List D → Option D := lexI (fun i j => decide (i < j)) sLt
abbrev gLe : List D → Option D := lexI (fun i j => decide (i ≤ j)) sLe
abbrev gGt : List D → Option D := lexI (fun i j => decide (j < i)) fun i j => sLt j i
abbrev gGe : List D → Option D := lexI (fun i j => decide (j ≤ i)) fun i j => sLe j i
theorem op_ltA {X : Cx} : OpR X (compareOp .Lt) (rOrd (fun i j => decide (i < j)) sLt) := op_lt.or op_lt_str
theorem op_leA {X : Cx} : OpR X (compareOp .LtE) (rOrd (fun i j => decide (i ≤ j)) sLe) := op_le.or op_le_str
theorem op_gtA {X : Cx} : OpR X (compareOp .Gt) (rOrd (fun i j => decide (j < i)) fun i j => sLt j i) := op_gt.or op_gt_str
theorem op_geA {X : Cx} : OpR X (compareOp .GtE) (rOrd (fun i j => decide (j ≤ i)) fun i j => sLe j i) := op_ge.or op_ge_str
/-- == at any depth -/
def eqD (a b : D) : Option Bool := (a.py).bind fun x => (b.py).bind fun y => if (SeqAt.shaped x && SeqAt.shaped y) = true then some (PyData.eqv x y) else none
def gEq : List D → Option D
  | [a, b] => (eqD a b).map .bl
  | _ => none
def gNe : List D → Option D
  | [a, b] => (eqD a b).map fun k => .bl (!k)
  | _ => none
theorem eqD_some {a b : D} {k : Bool} (h : eqD a b = some k) : ∃ x y, a.py = some x ∧ b.py = some y ∧ SeqAt.shaped x = true ∧ SeqAt.shaped y = true ∧ k = PyData.eqv x y := by
  unfold eqD at h
  cases e1 : a.py with
  | none => rw [e1] at h; cases h
  | some x =>
    cases e2 : b.py with
    | none => rw [e1, e2] at h; cases h
    | some y =>
      rw [e1, e2] at h
      simp only [Option.bind_some] at h
      split at h
      · rename_i hs
        rw [Bool.and_eq_true] at hs
        cases h
        exact ⟨x, y, rfl, rfl, hs.1, hs.2, rfl⟩
      · cases h
theorem psem_eq : PSem G (r2L (rEqD G.K)) gEq := fun F H vs ds d Q fh vw e q => by
  unfold gEq at e
  split at e
  · rename_i a b
    cases e1 : eqD a b with
    | none => rw [e1] at e; cases e
    | some k =>
      rw [e1] at e
      cases e
      obtain ⟨v, w, rfl, h1, h2⟩ := vw.two
      obtain ⟨x, y, p1, p2, s1, s2, rfl⟩ := eqD_some e1
      exact ⟨v, w, rfl, x, y, h1.dp fh p1, h2.dp fh p2, s1, s2, fin_flat fh q (.bl _)⟩
  · cases e
theorem psem_ne : PSem G (r2L (rNeD G.K)) gNe := fun F H vs ds d Q fh vw e q => by
  unfold gNe at e
  split at e
  · rename_i a b
    cases e1 : eqD a b with
    | none => rw [e1] at e; cases e
    | some k =>
      rw [e1] at e
      cases e
      obtain ⟨v, w, rfl, h1, h2⟩ := vw.two
      obtain ⟨x, y, p1, p2, s1, s2, rfl⟩ := eqD_some e1
      exact ⟨v, w, rfl, x, y, h1.dp fh p1, h2.dp fh p2, s1, s2, fin_flat fh q (.bl _)⟩
  · cases e
/-- is None, is True, is False -/
def isD : D → D → Option Bool
  | .non, .non => some true
  | .bl a, .bl b => some (decide (a = b))
  | _, .non => some false
  | _, _ => none
def gIs : List D → Option D
  | [a, b] => (isD a b).map .bl
  | _ => none
def gIsNot : List D → Option D
  | [a, b] => (isD a b).map fun k => .bl (!k)
  | _ => none
def rIsA (k : Bool) : R2 := fun x y H Q => (y = .non ∧ Q (.bl (xor k (decide (x = .non)))) H) ∨ ∃ a b, x = .bl a ∧ y = .bl b ∧ Q (.bl (xor k (decide (a = b)))) H
theorem op_isA {X : Cx} : OpR X (compareOp .Is) (rIsA false) := by
  intro pins s σ H x y v u Q I rx ry h
  rcases h with ⟨h1, h2⟩ | ⟨a, b, h1, h2, h3⟩
  · exact op_isN pins s σ H x y v u Q I rx ry ⟨h1, by simpa using h2⟩
  · exact op_is_bl pins s σ H x y v u Q I rx ry ⟨a, b, h1, h2, by simpa using h3⟩
theorem op_isNotA {X : Cx} : OpR X (compareOp .IsNot) (rIsA true) := by
  intro pins s σ H x y v u Q I rx ry h
  rcases h with ⟨h1, h2⟩ | ⟨a, b, h1, h2, h3⟩
  · exact op_notN pins s σ H x y v u Q I rx ry ⟨h1, by simpa using h2⟩
  · exact op_isnot_bl pins s σ H x y v u Q I rx ry ⟨a, b, h1, h2, by simpa using h3⟩
theorem Vw.not_non {K : PySem.W.Frag} {F H : Hp} {v : V} {d : D} (h : Vw K F H v d) (n : d ≠ .non) : v ≠ .non := fun e => by
  subst e
  rcases h with h | ⟨p, o, e, _⟩
  · cases h; exact n rfl
  · cases e
theorem isD_vw {K : PySem.W.Frag} {F H : Hp} {v w : V} {a b : D} {k : Bool} (e : isD a b = some k) (h1 : Vw K F H v a) (h2 : Vw K F H w b) : (w = .non ∧ k = decide (v = .non)) ∨ ∃ x y, v = .bl x ∧ w = .bl y ∧ k = decide (x = y) := by
  cases b with
  | non =>
    have ew := h2.non
    subst ew
    left
    refine ⟨rfl, ?_⟩
    cases a with
    | non => have ev := h1.non; subst ev; simp only [isD] at e; cases e; rfl
    | _ =>
      have ne := h1.not_non (by intro z; cases z)
      simp only [isD] at e
      cases e
      exact (decide_eq_false ne).symm
  | bl y =>
    cases a with
    | bl x => simp only [isD] at e; cases e; exact .inr ⟨x, y, h1.bl, h2.bl, rfl⟩
    | _ => simp only [isD] at e; cases e
  | _ => cases a <;> (simp only [isD] at e; cases e)
theorem psem_is : PSem G (r2L (rIsA false)) gIs := fun F H vs ds d Q fh vw e q => by
  unfold gIs at e
  split at e
  · rename_i a b
    cases e1 : isD a b with
    | none => rw [e1] at e; cases e
    | some k =>
      rw [e1] at e
      cases e
      obtain ⟨v, w, rfl, h1, h2⟩ := vw.two
      refine ⟨v, w, rfl, ?_⟩
      rcases isD_vw e1 h1 h2 with ⟨z1, z2⟩ | ⟨x, y, z1, z2, z3⟩
      · subst z2; exact .inl ⟨z1, fin_flat fh q (by simpa using Rp.bl _)⟩
      · subst z3; exact .inr ⟨x, y, z1, z2, fin_flat fh q (by simpa using Rp.bl _)⟩
  · cases e
theorem psem_isNot : PSem G (r2L (rIsA true)) gIsNot := fun F H vs ds d Q fh vw e q => by
  unfold gIsNot at e
  split at e
  · rename_i a b
    cases e1 : isD a b with
    | none => rw [e1] at e; cases e
    | some k =>
      rw [e1] at e
      cases e
      obtain ⟨v, w, rfl, h1, h2⟩ := vw.two
      refine ⟨v, w, rfl, ?_⟩
      rcases isD_vw e1 h1 h2 with ⟨z1, z2⟩ | ⟨x, y, z1, z2, z3⟩
      · subst z2; exact .inl ⟨z1, fin_flat fh q (by simpa using Rp.bl _)⟩
      · subst z3; exact .inr ⟨x, y, z1, z2, fin_flat fh q (by simpa using Rp.bl _)⟩
  · cases e
end
end Dt
set_option Elab.async false
set_option linter.all false
set_option maxRecDepth 100000
set_option maxHeartbeats 2000000
namespace Dt
open PySem PySem.Spec PyProof.Rows L2
variable [HW]
def keyOf : D → Option Key
  | .int i => some (.inl i)
  | .str s => some (.inr s)
  | _ => none
def dLook : List Key → List D → Key → Option D
  | k :: ks, d :: ds, x => if k = x then some d else dLook ks ds x
  | _, _, _ => none
def flatD : D → Bool
  | .non => true
  | .bl _ => true
  | .int _ => true
  | .str _ => true
  | _ => false
def eqF : D → D → Bool
  | .non, .non => true
  | .bl a, .bl b => a == b
  | .bl a, .int b => (if a then 1 else 0) == b
  | .int a, .bl b => a == (if b then 1 else 0)
  | .int a, .int b => a == b
  | .str a, .str b => a == b
  | _, _ => false
section
variable {G : Gx} {K : PySem.W.Frag} {F H : Hp}
theorem keyOf_vw {v : V} {d : D} {k : Key} (h : Vw K F H v d) (e : keyOf d = some k) : v = kV k := by
  cases d with
  | int i => cases e; exact h.int
  | str i => cases e; exact h.str
  | _ => cases e
theorem dLook_val : ∀ {kvs : List (Key × V)} {ks : List Key} {ds : List D} (k : Key), kvs.map (·.1) = ks → Rps K F (kvs.map (·.2)) ds → (valV kvs k = none ∧ dLook ks ds k = none) ∨ ∃ v d, valV kvs k = some v ∧ dLook ks ds k = some d ∧ Rp K F v d
  | [], _, _, k, e, r => by
    subst e
    cases r
    exact .inl ⟨rfl, rfl⟩
  | (k0, v0) :: kvs, _, _, k, e, r => by
    subst e
    cases r with
    | cons a b =>
      by_cases hk : k0 = k
      · exact .inr ⟨v0, _, valV_pos (p := (k0, v0)) hk, by simp only [List.map_cons, dLook]; rw [if_pos hk], a⟩
      · have e1 : valV ((k0, v0) :: kvs) k = valV kvs k := valV_neg (p := (k0, v0)) hk
        simp only [List.map_cons, dLook]
        rw [e1, if_neg hk]
        exact dLook_val k rfl b
theorem flat_vw {v : V} {d : D} (h : Rp K F v d) (f : flatD d = true) : flatV v = true := by
  cases h <;> first | rfl | cases f
theorem eqF_vw {v w : V} {d e : D} (h1 : Rp K F v d) (h2 : Rp K F w e) (f1 : flatD d = true) (f2 : flatD e = true) : eqV v w = eqF d e := by
  cases h1 <;> first
    | (cases f1; done)
    | (cases h2 <;> first | (cases f2; done) | rfl)
theorem flats : ∀ {vs : List V} {ds : List D}, Rps K F vs ds → ds.all flatD = true → vs.all flatV = true
  | _, _, .nil, _ => rfl
  | _, _, .cons a b, h => by
    rw [List.all_cons, Bool.and_eq_true] at h
    rw [List.all_cons, flat_vw a h.1, flats b h.2]
    rfl
theorem inF : ∀ {vs : List V} {ds : List D} {x : V} {d : D}, Rps K F vs ds → Rp K F x d → ds.all flatD = true → flatD d = true → inV x vs = ds.any fun y => eqF y d
  | _, _, _, _, .nil, _, _, _ => rfl
  | _, _, _, _, .cons a b, r, h, f => by
    rw [List.all_cons, Bool.and_eq_true] at h
    have ih := inF b r h.2 f
    unfold inV at ih ⊢
    rw [List.any_cons, List.any_cons, eqF_vw a r h.1 f, ih]
theorem Vw.flat {v : V} {d : D} (h : Vw K F H v d) (f : flatD d = true) : Rp K F v d := by
  rcases h with h | ⟨_, _, _, _, h⟩
  · exact h
  · cases d <;> first | exact h.elim | cases f
/-- x in y -/
def inD (x y : D) : Option Bool := match y with
  | .lst ys => if (flatD x && ys.all flatD) = true then some (ys.any fun y => eqF y x) else none
  | .tup ys => if (flatD x && ys.all flatD) = true then some (ys.any fun y => eqF y x) else none
  | .arg ys => if (flatD x && ys.all flatD) = true then some (ys.any fun y => eqF y x) else none
  | .str j => match x with
    | .str i => some (!(Builtin.Str.occurrences j i 0 j.length 1).isEmpty)
    | _ => none
  | .dct ks ds => (keyOf x).map fun k => (dLook ks ds k).isSome
  | _ => none
def gIn : List D → Option D
  | [x, y] => (inD x y).map .bl
  | _ => none
def gNotIn : List D → Option D
  | [x, y] => (inD x y).map fun k => .bl (!k)
  | _ => none
def rInA (K : PySem.W.Frag) (neg : Bool) : R2 := fun x y H Q => rIn K neg x y H Q ∨ (∃ i j, x = .str i ∧ y = .str j ∧ Q (.bl (xor neg (!(Builtin.Str.occurrences j i 0 j.length 1).isEmpty))) H) ∨
  ∃ a o, y = .ref a ∧ DGet H a x o ∧ Q (.bl (xor neg o.isSome)) H
theorem op_inA {X : Cx} (hu : X.A.units + 64 < cLine) : OpR X (compareOp .In) (rInA X.K false) := by
  intro pins s σ H x y v u Q I rx ry h
  rcases h with h | ⟨i, j, h1, h2, h3⟩ | ⟨a, o, h1, h2, h3⟩
  · exact op_in_seq pins s σ H x y v u Q I rx ry h
  · exact op_in_str pins s σ H x y v u Q I rx ry ⟨i, j, h1, h2, by simpa using h3⟩
  · subst h1
    obtain rfl : u = Value.ref a := ry
    exact d_in (by omega) I h2 rx fun s' I' => ⟨.bl o.isSome, H, I', rfl, by simpa using h3⟩
theorem op_notInA {X : Cx} (hu : X.A.units + 64 < cLine) : OpR X (compareOp .NotIn) (rInA X.K true) := by
  intro pins s σ H x y v u Q I rx ry h
  rcases h with h | ⟨i, j, h1, h2, h3⟩ | ⟨a, o, h1, h2, h3⟩
  · exact op_notIn_seq pins s σ H x y v u Q I rx ry h
  · exact op_notIn_str pins s σ H x y v u Q I rx ry ⟨i, j, h1, h2, by simpa using h3⟩
  · subst h1
    obtain rfl : u = Value.ref a := ry
    exact d_notIn (by omega) I h2 rx fun s' I' => ⟨.bl (!o.isSome), H, I', rfl, by simpa using h3⟩
theorem inD_vw {Q : VK} {neg : Bool} {x y : V} {d e : D} {k : Bool} (fh : FLe F H) (h1 : Vw K F H x d) (h2 : Vw K F H y e) (q : inD d e = some k) (z : Q (.bl (xor neg k)) H) : rInA K neg x y H Q := by
  cases e with
  | lst ys =>
    simp only [inD] at q
    split at q
    · rename_i hf
      cases q
      rw [Bool.and_eq_true] at hf
      obtain ⟨a, xs, rfl, t, r⟩ := h2.lst fh
      have rx := h1.flat hf.1
      refine .inl ⟨a, xs, rfl, .inl (SqL.of t), flat_vw rx hf.1, flats r hf.2, ?_⟩
      rw [inF r rx hf.2 hf.1]
      cases neg <;> simpa using z
    · cases q
  | tup ys =>
    simp only [inD] at q
    split at q
    · rename_i hf
      cases q
      rw [Bool.and_eq_true] at hf
      obtain ⟨a, xs, rfl, t, r⟩ := h2.sqT fh
      have rx := h1.flat hf.1
      refine .inl ⟨a, xs, rfl, .inr t, flat_vw rx hf.1, flats r hf.2, ?_⟩
      rw [inF r rx hf.2 hf.1]
      cases neg <;> simpa using z
    · cases q
  | arg ys =>
    simp only [inD] at q
    split at q
    · rename_i hf
      cases q
      rw [Bool.and_eq_true] at hf
      obtain ⟨a, xs, rfl, t, r⟩ := h2.argT fh
      have rx := h1.flat hf.1
      refine .inl ⟨a, xs, rfl, .inr t, flat_vw rx hf.1, flats r hf.2, ?_⟩
      rw [inF r rx hf.2 hf.1]
      cases neg <;> simpa using z
    · cases q
  | str j =>
    cases d with
    | str i => simp only [inD] at q; cases q; exact .inr (.inl ⟨i, j, h1.str, h2.str, z⟩)
    | _ => simp only [inD] at q; cases q
  | dct ks ds =>
    simp only [inD] at q
    cases ek : keyOf d with
    | none => rw [ek] at q; cases q
    | some k' =>
      rw [ek] at q
      cases q
      obtain ⟨a, kvs, rfl, t, e1, r⟩ := h2.dct fh
      have ex := keyOf_vw h1 ek
      subst ex
      refine .inr (.inr ⟨a, valV kvs k', rfl, .inl ⟨kvs, k', t, rfl, rfl⟩, ?_⟩)
      have z : Q (.bl (xor neg (dLook ks ds k').isSome)) H := z
      rcases dLook_val k' e1 r with ⟨z1, z2⟩ | ⟨v, d', z1, z2, _⟩
      · rw [z1]; rw [z2] at z; exact z
      · rw [z1]; rw [z2] at z; exact z
  | _ => simp only [inD] at q; cases q
theorem psem_in : PSem G (r2L (rInA G.K false)) gIn := fun F H vs ds d Q fh vw e q => by
  unfold gIn at e
  split at e
  · rename_i a b
    cases e1 : inD a b with
    | none => rw [e1] at e; cases e
    | some k =>
      rw [e1] at e
      cases e
      obtain ⟨v, w, rfl, h1, h2⟩ := vw.two
      exact ⟨v, w, rfl, inD_vw fh h1 h2 e1 (fin_flat fh q (by simpa using Rp.bl _))⟩
  · cases e
theorem psem_notIn : PSem G (r2L (rInA G.K true)) gNotIn := fun F H vs ds d Q fh vw e q => by
  unfold gNotIn at e
  split at e
  · rename_i a b
    cases e1 : inD a b with
    | none => rw [e1] at e; cases e
    | some k =>
      rw [e1] at e
      cases e
      obtain ⟨v, w, rfl, h1, h2⟩ := vw.two
      exact ⟨v, w, rfl, inD_vw fh h1 h2 e1 (fin_flat fh q (by simpa using Rp.bl _))⟩
  · cases e
def idxD (x y : D) : Option D := match x with
  | .lst xs => match y with
    | .int i => atI xs i
    | _ => none
  | .tup xs => match y with
    | .int i => atI xs i
    | _ => none
  | .str z => match y with
    | .int i => if z.length ≤ sizeLine then (atI z.cps.toList i).map fun c => .str ⟨#[c]⟩ else none
    | _ => none
  | .dct ks ds => (keyOf y).bind fun k => dLook ks ds k
  | _ => none
def gIdx : List D → Option D
  | [x, y] => idxD x y
  | _ => none
theorem atI_rps {vs : List V} {ds : List D} {i : Int} {d : D} (r : Rps K F vs ds) (h : atI ds i = some d) : ∃ v, atI vs i = some v ∧ Rp K F v d := by
  unfold atI at h ⊢
  rw [r.length]
  cases e : ixN ds.length i with
  | none => rw [e] at h; cases h
  | some j =>
    rw [e] at h
    exact r.get h
def rIxA (K : PySem.W.Frag) : R2 := fun x y H Q => rIx K x y H Q ∨ ∃ a v, x = .ref a ∧ DGet H a y (some v) ∧ Q v H
theorem psem_idx : PSem G (r2L (rIxA G.K)) gIdx := fun F H vs ds d Q fh vw e q => by
  unfold gIdx at e
  split at e
  · rename_i x y
    obtain ⟨v, w, rfl, h1, h2⟩ := vw.two
    refine ⟨v, w, rfl, ?_⟩
    cases x with
    | lst xs =>
      cases y with
      | int i =>
        obtain ⟨a, zs, rfl, t, r⟩ := h1.lst fh
        obtain ⟨u, e1, rp⟩ := atI_rps r e
        exact .inl (.inl ⟨a, zs, i, u, rfl, h2.int, SqL.of t, e1, fin_flat fh q rp⟩)
      | _ => simp only [idxD] at e; cases e
    | tup xs =>
      cases y with
      | int i =>
        obtain ⟨a, zs, rfl, t, r⟩ := h1.sqT fh
        obtain ⟨u, e1, rp⟩ := atI_rps r e
        exact .inl (.inr (.inl ⟨a, zs, i, u, rfl, h2.int, t, e1, fin_flat fh q rp⟩))
      | _ => simp only [idxD] at e; cases e
    | str z =>
      cases y with
      | int i =>
        simp only [idxD] at e
        split at e
        · rename_i hz
          cases e1 : atI z.cps.toList i with
          | none => rw [e1] at e; cases e
          | some c => rw [e1] at e; cases e; exact .inl (.inr (.inr ⟨z, i, c, h1.str, h2.int, hz, e1, fin_flat fh q (.str _)⟩))
        · cases e
      | _ => simp only [idxD] at e; cases e
    | dct ks ds' =>
      simp only [idxD] at e
      cases ek : keyOf y with
      | none => rw [ek] at e; cases e
      | some k =>
        rw [ek] at e
        have e : dLook ks ds' k = some d := e
        obtain ⟨a, kvs, rfl, t, e1, r⟩ := h1.dct fh
        have ew := keyOf_vw h2 ek
        subst ew
        rcases dLook_val k e1 r with ⟨_, z2⟩ | ⟨u, d', z1, z2, rp⟩
        · rw [z2] at e; cases e
        · rw [z2] at e; cases e; exact .inr ⟨a, u, rfl, .inl ⟨kvs, k, t, rfl, z1.symm⟩, fin_flat fh q rp⟩
    | _ => simp only [idxD] at e; cases e
  · cases e
def r1L (r : V → Hp → VK → Prop) : RL := fun vs H Q => ∃ x, vs = [x] ∧ r x H Q
def gLen : List D → Option D
  | [.str s] => if s.length ≤ sizeLine then some (.int s.length) else none
  | [.tup xs] => some (.int xs.length)
  | [.lst xs] => some (.int xs.length)
  | [.dct ks _] => some (.int ks.length)
  | [.etup] => some (.int 0)
  | _ => none
def rLenA (K : PySem.W.Frag) : RL := fun xs H Q => (∃ x n, xs = [x] ∧ LenV K x H n ∧ Q (.int n) H) ∨ ∃ a kvs, xs = [V.ref a] ∧ Rd H a (.dK kvs) ∧ Q (.int kvs.length) H
theorem call_lenA {X : Cx} : CallR X (.builtin "len") (rLenA X.K) := by
  intro pins s σ H xs us Q I r h
  rcases h with h | ⟨a, kvs, rfl, ha, q⟩
  · exact call_len pins s σ H xs us Q I r h
  · obtain ⟨u, rfl, ru⟩ := vals1 r
    cases ru
    exact d_len I ha fun t s' I' => ⟨.int kvs.length, H, I', ⟨t, rfl⟩, q⟩
theorem psem_len : PSem G (rLenA G.K) gLen := fun F H vs ds d Q fh vw e q => by
  unfold gLen at e
  split at e
  · split at e
    · rename_i z hz
      cases e
      obtain ⟨v, rfl, h⟩ := vw.one
      have ev := h.str
      subst ev
      exact .inl ⟨_, _, rfl, ⟨hz, rfl⟩, fin_flat fh q (.int _)⟩
    · cases e
  · cases e
    obtain ⟨v, rfl, h⟩ := vw.one
    obtain ⟨a, xs, rfl, t, r⟩ := h.sqT fh
    exact .inl ⟨_, _, rfl, .inr ⟨xs, t, r.length.symm⟩, fin_flat fh q (.int _)⟩
  · cases e
    obtain ⟨v, rfl, h⟩ := vw.one
    obtain ⟨a, xs, rfl, t, r⟩ := h.lst fh
    exact .inl ⟨_, _, rfl, .inl ⟨xs, SqL.of t, r.length.symm⟩, fin_flat fh q (.int _)⟩
  · cases e
    obtain ⟨v, rfl, h⟩ := vw.one
    obtain ⟨a, kvs, rfl, t, e1, r⟩ := h.dct fh
    refine .inr ⟨a, kvs, rfl, t, fin_flat fh q ?_⟩
    rw [← e1, List.length_map]
    exact .int _
  · cases e
    obtain ⟨v, rfl, h⟩ := vw.one
    obtain ⟨a, rfl, t⟩ := h.etup
    exact .inl ⟨_, _, rfl, .inr ⟨[], t.sq H, rfl⟩, fin_flat fh q (.int _)⟩
  · cases e
def gInt : List D → Option D
  | [.int i] => some (.int i)
  | [.bl b] => some (.int (if b then 1 else 0))
  | _ => none
theorem psem_int : PSem G (fun xs H Q => (∃ i, xs = [V.int i] ∧ Q (.int i) H) ∨ ∃ k, xs = [V.bl k] ∧ Q (.int (if k then 1 else 0)) H) gInt := fun F H vs ds d Q fh vw e q => by
  unfold gInt at e
  split at e
  · cases e
    obtain ⟨v, rfl, h⟩ := vw.one
    exact .inl ⟨_, by rw [h.int], fin_flat fh q (.int _)⟩
  · cases e
    obtain ⟨v, rfl, h⟩ := vw.one
    exact .inr ⟨_, by rw [h.bl], fin_flat fh q (.int _)⟩
  · cases e
def gMax2 : List D → Option D
  | [.int i, .int j] => some (.int (if j > i then j else i))
  | _ => none
theorem psem_max2 : PSem G (fun xs H Q => ∃ i j, xs = [V.int i, V.int j] ∧ Q (.int (if j > i then j else i)) H) gMax2 := fun F H vs ds d Q fh vw e q => by
  unfold gMax2 at e
  split at e
  · cases e
    obtain ⟨v, w, rfl, h1, h2⟩ := vw.two
    exact ⟨_, _, by rw [h1.int, h2.int], fin_flat fh q (.int _)⟩
  · cases e
def gMin2 : List D → Option D
  | [.int i, .int j] => some (.int (if j < i then j else i))
  | _ => none
theorem psem_min2 : PSem G (fun xs H Q => ∃ i j, xs = [V.int i, V.int j] ∧ Q (.int (if j < i then j else i)) H) gMin2 := fun F H vs ds d Q fh vw e q => by
  unfold gMin2 at e
  split at e
  · cases e
    obtain ⟨v, w, rfl, h1, h2⟩ := vw.two
    exact ⟨_, _, by rw [h1.int, h2.int], fin_flat fh q (.int _)⟩
  · cases e
def blsOf : List D → Option (List Bool)
  | [] => some []
  | .bl i :: ds => (blsOf ds).map fun r => i :: r
  | _ => none
theorem bls_vw : ∀ {vs : List V} {ds : List D} {ns : List Bool}, Rps K F vs ds → blsOf ds = some ns → vs = ns.map V.bl
  | _, _, _, .nil, e => by simp only [blsOf] at e; cases e; rfl
  | _, _, _, .cons (d := d) (ds := ds) a b, e => by
    cases a with
    | bl i =>
      simp only [blsOf] at e
      cases e1 : blsOf ds with
      | none => rw [e1] at e; cases e
      | some r => rw [e1] at e; cases e; rw [List.map_cons, bls_vw b e1]
    | _ => simp only [blsOf] at e; cases e
def gAll : List D → Option D
  | [.lst xs] => (blsOf xs).map fun ns => .bl (ns.all id)
  | _ => none
theorem psem_all : PSem G (rAll G.K) gAll := fun F H vs ds d Q fh vw e q => by
  unfold gAll at e
  split at e
  · rename_i xs
    cases e1 : blsOf xs with
    | none => rw [e1] at e; cases e
    | some ns =>
      rw [e1] at e
      cases e
      obtain ⟨v, rfl, h⟩ := vw.one
      obtain ⟨a, zs, rfl, t, r⟩ := h.lst fh
      have ez := bls_vw r e1
      subst ez
      exact ⟨a, ns, rfl, SqL.of t, fin_flat fh q (.bl _)⟩
  · cases e
/-- a key as data -/
def keyD : Key → D
  | .inl i => .int i
  | .inr z => .str z
theorem rp_key (k : Key) : Rp K F (kV k) (keyD k) := by
  cases k with
  | inl i => exact .int i
  | inr z => exact .str z
theorem rps_keys : ∀ {kvs : List (Key × V)}, Rps K F (kvs.map fun kv => kV kv.1) ((kvs.map (·.1)).map keyD)
  | [] => .nil
  | kv :: kvs => .cons (rp_key kv.1) rps_keys
def rListA (K : PySem.W.Frag) : List V → Hp → VK → Prop := fun xs H Q => (∃ p ys, xs = [V.ref p] ∧ (SqL K H p ys ∨ SqT K H p ys) ∧ ∀ l, H l = none → Q (.ref l) (upd H l (.lst ys))) ∨
  ∃ (a : Addr) (kvs : List (Key × V)), xs = [V.ref a] ∧ Rd H a (.dK kvs) ∧ ∀ p, H p = none → Q (.ref p) (upd H p (.lst (kvs.map fun kv => kV kv.1)))
theorem call_listA {X : Cx} (calm : X.calm = true) : CallR X (.type "list") (rListA X.K) := by
  intro pins s σ H xs us Q I r h
  rcases h with h | h
  · exact call_list_of pins s σ H xs us Q I r h
  · exact call_listD calm pins s σ H xs us Q I r h
/-- list(..): a new list -/
def gList : List D → Option D
  | [.lst xs] => some (.lst xs)
  | [.tup xs] => some (.lst xs)
  | [.scr ns] => some (.lst (ns.map .int))
  | [.dct ks _] => some (.lst (ks.map keyD))
  | _ => none
theorem rps_ints : ∀ ns : List Int, Rps K F (ns.map V.int) (ns.map D.int)
  | [] => .nil
  | n :: ns => .cons (.int n) (rps_ints ns)
theorem fsem_list : FSem G (rListA G.K) gList := fun F H vs ds d Q fh vw e q => by
  unfold gList at e
  split at e
  · cases e
    obtain ⟨v, rfl, h⟩ := vw.one
    obtain ⟨a, zs, rfl, t, r⟩ := h.lst fh
    exact .inl ⟨a, zs, rfl, .inl (SqL.of t), fun l hl => q l _ hl ⟨_, rfl, r⟩⟩
  · cases e
    obtain ⟨v, rfl, h⟩ := vw.one
    obtain ⟨a, zs, rfl, t, r⟩ := h.sqT fh
    exact .inl ⟨a, zs, rfl, .inr t, fun l hl => q l _ hl ⟨_, rfl, r⟩⟩
  · rename_i ns
    cases e
    obtain ⟨v, rfl, h⟩ := vw.one
    rcases h with h | ⟨_, _, _, _, h⟩
    · cases h with
      | scr t => exact .inl ⟨_, _, rfl, .inl (fh.sqL t), fun l hl => q l _ hl ⟨_, rfl, rps_ints ns⟩⟩
    · exact h.elim
  · cases e
    obtain ⟨v, rfl, h⟩ := vw.one
    obtain ⟨a, kvs, rfl, rd, rfl, r⟩ := h.dct fh
    exact .inr ⟨a, kvs, rfl, rd, fun l hl => q l _ hl ⟨_, rfl, rps_keys⟩⟩
  · cases e
def gTuple : List D → Option D
  | [.lst xs] => some (.tup xs)
  | [.tup xs] => some (.tup xs)
  | _ => none
theorem psem_tuple : PSem G (fun xs H Q => ∃ p ys, xs = [V.ref p] ∧ ((SqL G.K H p ys ∧ NewT H ys Q) ∨ (SqT G.K H p ys ∧ Q (.ref p) H))) gTuple := fun F H vs ds d Q fh vw e q => by
  unfold gTuple at e
  split at e
  · cases e
    obtain ⟨v, rfl, h⟩ := vw.one
    obtain ⟨a, zs, rfl, t, r⟩ := h.lst fh
    exact ⟨a, zs, rfl, .inl ⟨SqL.of t, fun l o hl ho => q _ _ _ (New.obj fh hl _) (.tup (.new ho) (r.mono (FLe.upd _ (fh.noneOf hl))))⟩⟩
  · cases e
    obtain ⟨v, rfl, h⟩ := vw.one
    obtain ⟨a, zs, rfl, t, r⟩ := h.sqT fh
    rcases h with h | ⟨_, _, _, _, h⟩
    · exact ⟨a, zs, rfl, .inr ⟨t, fin_flat fh q h⟩⟩
    · exact h.elim
  · cases e
def cutD (xs : List D) (lo hi : Option Int) : List D := (xs.drop (HT.sIx xs.length 0 lo)).take (HT.sIx xs.length xs.length hi - HT.sIx xs.length 0 lo)
def sliceD (x : D) (lo hi : Option Int) : Option D := match x with
  | .tup xs => some (.tup (cutD xs lo hi))
  | .lst xs => some (.lst (cutD xs lo hi))
  | .str z => if z.length ≤ sizeLine then some (.str (cutS z lo hi)) else none
  | _ => none
def tyN : D → String
  | .non => "NoneType"
  | .bl _ => "bool"
  | .int _ => "int"
  | .str _ => "str"
  | .tup _ => "tuple"
  | .lst _ => "list"
  | .dct _ _ => "dict"
  | .scr _ => "list"
  | .arg _ => "tuple"
  | .fn _ => "NoneType"
  | .exn _ => "NoneType"
  | .xv _ => "NoneType"
  | .xm _ _ => "NoneType"
  | .tal _ => "NoneType"
  | .etup => "tuple"
  | .nd _ _ => "dict"
/-- a def as a value: its type is not asked -/
def D.isFn : D → Bool
  | .fn _ => true
  | .exn _ => true
  | .xv _ => true
  | .xm _ _ => true
  | .tal _ => true
  | .nd _ _ => true
  | _ => false
theorem ty_vw {v : V} {d : D} (fh : FLe F H) (h : Vw K F H v d) (hd : d.isFn = false) : TyX K H v (.type (tyN d)) := by
  rcases h with h | ⟨p, o, rfl, h1, h2⟩
  · cases h with
    | fn _ => cases hd
    | exn _ => cases hd
    | xv _ _ => cases hd
    | xm _ _ _ _ => cases hd
    | tal _ _ => cases hd
    | etup t => obtain ⟨n, sl, e⟩ := t; exact .kTuple e rfl
    | nd _ _ _ _ => cases hd
    | non => exact .base .non
    | bl b => exact .base (.bl b)
    | int b => exact .base (.int b)
    | str b => exact .base (.str b)
    | arg t r =>
      rcases fh.sqT t with (t | ⟨o, t⟩) | ⟨o, its, n, hk, hc, _⟩
      · exact .base (.tup t)
      · exact .fTuple t
      · exact .kTuple hk hc
    | tup t r =>
      rcases fh.sqT (t.sq (K := K)) with (t | ⟨o, t⟩) | ⟨o, its, n, hk, hc, _⟩
      · exact .base (.tup t)
      · exact .fTuple t
      · exact .kTuple hk hc
    | lst t r => exact .base (.lst (fh _ _ t))
    | dct t r => exact .fDict (fh _ _ t)
    | scr t =>
      rcases fh.sqL t with (t | ⟨o, t⟩) | ⟨o, its, n, hk, hc, _⟩
      · exact .base (.lst t)
      · exact .base (.frz t)
      · exact .kList hk hc
  · cases d with
    | lst ds => obtain ⟨xs, rfl, _⟩ := h2; exact .base (.lst h1)
    | dct ks ds => obtain ⟨kvs, rfl, _⟩ := h2; exact .base (.dK h1)
    | nd ks ds => cases hd
    | tal _ => cases hd
    | _ => exact h2.elim
end
end Dt
set_option Elab.async false
set_option linter.all false
set_option maxRecDepth 100000
set_option maxHeartbeats 2000000
namespace Dt
open PySem PySem.Spec PyProof.Rows L2
variable [HW]
section
variable {K : PySem.W.Frag} {ex : Exx} {X : Cx} {W : WX} {σ : L2.St} {H : Hp}
abbrev GK (X : Cx) (ex : Exx) : Gx := ⟨X.K, ex⟩
theorem tO_mono {G : Gx} {s : SO} {Q Q' : VK} (h : tO G W s σ H Q) (w : ∀ v H, Q v H → Q' v H) : tO G W s σ H Q' := by
  obtain ⟨ρ, F, Rv, io, rel, q⟩ := h
  refine ⟨ρ, F, Rv, io, rel, ?_⟩
  revert q
  cases s ρ with
  | stuck => exact fun q => q
  | exc x ρ' => exact fun q => q
  | ok o ρ' => exact fun q v H' F' le rel' r => w v H' (q v H' F' le rel' r)
theorem tE_mono {G : Gx} {s : SE} {Q Q' : VK} (h : tE G W s σ H Q) (w : ∀ v H, Q v H → Q' v H) : tE G W s σ H Q' := by
  obtain ⟨ρ, F, Rv, io, rel, q⟩ := h
  refine ⟨ρ, F, Rv, io, rel, ?_⟩
  revert q
  cases s ρ with
  | stuck => exact fun q => q
  | exc x ρ' => exact fun q => q
  | ok o ρ' => exact fun q v H' F' le rel' r => w v H' (q v H' F' le rel' r)
theorem two_ops {G : Gx} {r : R2} {g : List D → Option D} {sa sb : SO} {Q : VK} (hg : PSem G (r2L r) g) (h : tE G W (sOps g (b2 sa sb)) σ H Q) : tO G W sa σ H fun x H1 => tO G W sb σ H1 fun y H2 => r x y H2 Q :=
  tO_mono (two_core (a := .Name Str.empty ⟨0, 0, 0, 0⟩) (b := .Name Str.empty ⟨0, 0, 0, 0⟩) (ops_core hg h)) fun x H1 z => tO_mono z fun y H2 ⟨x', y', e, z'⟩ => by cases e; exact z'
theorem one_ops {G : Gx} {r : V → Hp → VK → Prop} {g : List D → Option D} {sa : SO} {Q : VK} (hg : PSem G (r1L r) g) (h : tE G W (sOps g (b1 sa)) σ H Q) : tO G W sa σ H fun x H1 => r x H1 Q :=
  tO_mono (one_core (ops_core hg h)) fun x H1 ⟨x', e, z'⟩ => by cases e; exact z'
variable {a b c : Expr} {pos : Pos} {sa sb sc : SO}
/-- a op b -/
theorem d_op {op : Operator} {r : R2} {g : List D → Option D} (ho : OpR X (binaryOp op) r) (hg : PSem (GK X ex) (r2L r) g) (ha : DO (GK X ex) X W a sa) (hb : DO (GK X ex) X W b sb) : DE (GK X ex) X W (.BinOp a op b pos) (sOps g (b2 sa sb)) :=
  wkE (pe_op ho ha hb) fun σ H Q h => two_ops hg h
theorem d_add (ha : DO (GK X ex) X W a sa) (hb : DO (GK X ex) X W b sb) : DE (GK X ex) X W (.BinOp a .Add b pos) (sOps gAdd (b2 sa sb)) := d_op op_addAll psem_add ha hb
theorem d_sub (ha : DO (GK X ex) X W a sa) (hb : DO (GK X ex) X W b sb) : DE (GK X ex) X W (.BinOp a .Sub b pos) (sOps gSub (b2 sa sb)) := d_op op_sub psem_sub ha hb
theorem d_mul (ha : DO (GK X ex) X W a sa) (hb : DO (GK X ex) X W b sb) : DE (GK X ex) X W (.BinOp a .Mult b pos) (sOps gMul (b2 sa sb)) := d_op op_mulAll psem_mul ha hb
theorem d_div (ha : DO (GK X ex) X W a sa) (hb : DO (GK X ex) X W b sb) : DE (GK X ex) X W (.BinOp a .FloorDiv b pos) (sOps gDiv (b2 sa sb)) := d_op op_fdivW psem_div ha hb
theorem d_mod (ha : DO (GK X ex) X W a sa) (hb : DO (GK X ex) X W b sb) : DE (GK X ex) X W (.BinOp a .Mod b pos) (sOps gMod (b2 sa sb)) := d_op op_mod psem_mod ha hb
theorem d_pow (ha : DO (GK X ex) X W a sa) (hb : DO (GK X ex) X W b sb) : DE (GK X ex) X W (.BinOp a .Pow b pos) (sOps gPow (b2 sa sb)) := d_op op_pow psem_pow ha hb
theorem d_neg (ha : DO (GK X ex) X W a sa) : DE (GK X ex) X W (.UnaryOp .USub a pos) (sOps gNeg (b1 sa)) :=
  wkE (pe_un un_neg ha) fun σ H Q h => one_ops (r := rU fun i => .int (-i)) psem_neg h
def sTst (s : SE) : ST := fun ρ => (s ρ).bind fun d ρ' => match d with
  | .bl k => .ok k ρ'
  | _ => .stuck
theorem tst_core {G : Gx} {s : SE} {Q : Bool → Hp → Prop} (h : tT G W (sTst s) σ H Q) : tE G W s σ H fun x H' => ∃ k, x = .bl k ∧ Q k H' := by
  obtain ⟨ρ, F, Rv, io, rel, q⟩ := h
  refine ⟨ρ, F, Rv, io, rel, ?_⟩
  unfold sTst at q
  cases e : s ρ with
  | stuck => rw [e] at q; exact q.elim
  | exc x ρ' => rw [e] at q; exact q
  | ok d ρ' =>
    rw [e, R.bind_ok] at q
    cases d with
    | bl k => intro v H' F' le rel' r; cases r; exact ⟨k, rfl, q H' F' le rel'⟩
    | _ => exact q.elim
theorem d_cmp {op : CmpOp} {r : R2} {g : List D → Option D} (ho : OpR X (compareOp op) r) (hg : PSem (GK X ex) (r2L r) g) (ha : DO (GK X ex) X W a sa) (hb : DO (GK X ex) X W b sb) (hm : behindInMarks op b = false) : DE (GK X ex) X W (.Compare a [op] [b] pos) (sOps g (b2 sa sb)) :=
  wkE (pe_cmpR ho ha hb hm) fun σ H Q h => two_ops hg h
theorem d_tcmp {op : CmpOp} {r : R2} {g : List D → Option D} (ho : OpR X (compareOp op) r) (hg : PSem (GK X ex) (r2L r) g) (ha : DO (GK X ex) X W a sa) (hb : DO (GK X ex) X W b sb) (hm : behindInMarks op b = false) : DT (GK X ex) X W (.Compare a [op] [b] pos) (sTst (sOps g (b2 sa sb))) :=
  wkT (pt_cmpR ho ha hb hm) fun σ H Q h => two_ops hg (tst_core h)
/-- a op1 b op2 c; b is a value that is looked at once -/
def sChain (g g' : List D → Option D) (sa sb sc : SO) : SE := fun ρ => (sa ρ).bind fun x ρ1 => (sb ρ1).bind fun y ρ2 => (ofO ((getAll ρ2 [x, y]).bind g) ρ2).bind fun z ρ2 => match z with
  | .bl true => (sc ρ2).bind fun w ρ3 => ofO ((getAll ρ3 [y, w]).bind g') ρ3
  | .bl false => .ok (.bl false) ρ2
  | _ => .stuck
theorem chain_core {G : Gx} {r r' : R2} {g g' : List D → Option D} (hg : PSem G (r2L r) g) (hg' : PSem G (r2L r') g') {Q : VK} (h : tE G W (sChain g g' sa sb sc) σ H Q) : tChain r r' (tO G W sa) (tO G W sb) (tO G W sc) σ H Q := by
  obtain ⟨ρ, F, Rv, io, rel, q⟩ := h
  refine ⟨ρ, F, Rv, io, rel, ?_⟩
  unfold sChain at q
  cases e : sa ρ with
  | stuck => rw [e] at q; exact q.elim
  | exc x ρ' => rw [e] at q; exact q
  | ok x ρ1 =>
    rw [e, R.bind_ok] at q
    refine fun v H1 F1 le1 rel1 ok1 => ⟨ρ1, F1, Rv, io, rel1, ?_⟩
    cases e2 : sb ρ1 with
    | stuck => rw [e2] at q; exact q.elim
    | exc x ρ' => rw [e2] at q; exact XPost.le q le1
    | ok y ρ2 =>
      rw [e2, R.bind_ok] at q
      refine fun w H2 F2 le2 rel2 ok2 => ?_
      cases e3 : getAll ρ2 [x, y] with
      | none => rw [e3] at q; exact q.elim
      | some ds =>
        rw [e3, Option.bind_some] at q
        cases e4 : g ds with
        | none => rw [e4] at q; exact q.elim
        | some z =>
          rw [e4] at q
          have vw := rel2.views (.cons (ok1.mono le2) (.cons ok2 .nil)) e3
          obtain ⟨_, _, e5, z5⟩ := hg F2 H2 [v, w] ds z (fun zv H3 => ∃ k, zv = .bl k ∧ if k = true then tO G W sc σ H3 (fun w' H4 => r' w w' H4 Q) else Q (.bl false) H3) rel2.fH vw e4 (by
            intro zv H3 F3 n rp
            cases z with
            | bl k =>
              cases rp
              refine ⟨k, rfl, ?_⟩
              have rel3 := rel2.after n
              cases k with
              | false => exact iteF (q _ H3 F3 ((le1.trans le2).trans n.f) rel3 (.bl false))
              | true =>
                refine iteT ⟨ρ2, F3, Rv, io, rel3, ?_⟩
                simp only [ofO, R.bind_ok] at q
                cases e6 : sc ρ2 with
                | stuck => rw [e6] at q; exact q.elim
                | exc x ρ' => rw [e6] at q; exact XPost.le q ((le1.trans le2).trans n.f)
                | ok u ρ3 =>
                  rw [e6, R.bind_ok] at q
                  refine fun w' H4 F4 le4 rel4 ok4 => ?_
                  cases e7 : getAll ρ3 [y, u] with
                  | none => rw [e7] at q; exact q.elim
                  | some ds' =>
                    rw [e7, Option.bind_some] at q
                    cases e8 : g' ds' with
                    | none => rw [e8] at q; exact q.elim
                    | some z' =>
                      rw [e8] at q
                      have vw' := rel4.views (.cons (ok2.mono (n.f.trans le4)) (.cons ok4 .nil)) e7
                      obtain ⟨_, _, e9, z9⟩ := hg' F4 H4 [w, w'] ds' z' Q rel4.fH vw' e8 fun zv H5 F5 n5 rp5 => q zv H5 F5 ((((le1.trans le2).trans n.f).trans le4).trans n5.f) (rel4.after n5) rp5
                      cases e9; exact z9
            | _ => exact q.elim)
          cases e5; exact z5
theorem d_chain {op op' : CmpOp} {r r' : R2} {g g' : List D → Option D} (ho : OpR X (compareOp op) r) (ho' : OpR X (compareOp op') r') (hg : PSem (GK X ex) (r2L r) g) (hg' : PSem (GK X ex) (r2L r') g') (ha : DO (GK X ex) X W a sa) (hb : DO (GK X ex) X W b sb) (hc : DO (GK X ex) X W c sc)
    (hm : lastMarks [op, op'] [b, c] = false := by with_unfolding_all rfl) : DE (GK X ex) X W (.Compare a [op, op'] [b, c] pos) (sChain g g' sa sb sc) :=
  wkE (pe_chain ho ho' ha hb hc hm) fun σ H Q h => chain_core hg hg' h
def D.truth : D → Option Bool
  | .non => some false
  | .bl b => some b
  | .int i => some (i != 0)
  | .str s => if s.length ≤ sizeLine then some ((s.length : Int) != 0) else none
  | .tup xs => some (!xs.isEmpty)
  | .lst xs => some (!xs.isEmpty)
  | .etup => some false
  | _ => none
theorem isEmpty_rps {F : Hp} {vs : List V} {ds : List D} (r : Rps K F vs ds) : vs.isEmpty = ds.isEmpty := by cases r <;> rfl
theorem Vw.truth {F : Hp} {v : V} {d : D} {k : Bool} (fh : FLe F H) (h : Vw K F H v d) (e : d.truth = some k) : TruV K v H k := by
  cases d with
  | non => cases e; have := h.non; subst this; rfl
  | bl b => cases e; have := h.bl; subst this; rfl
  | int i => cases e; have := h.int; subst this; rfl
  | str z =>
    simp only [D.truth] at e
    split at e
    · rename_i hz; cases e; have := h.str; subst this; exact ⟨hz, rfl⟩
    · cases e
  | tup xs => cases e; obtain ⟨a, zs, rfl, t, r⟩ := h.sqT fh; exact .inr (.inl ⟨zs, t, by rw [isEmpty_rps r]⟩)
  | lst xs => cases e; obtain ⟨a, zs, rfl, t, r⟩ := h.lst fh; exact .inl ⟨zs, SqL.of t, by rw [isEmpty_rps r]⟩
  | etup => cases e; obtain ⟨a, rfl, t⟩ := h.etup; exact .inr (.inl ⟨[], t.sq H, rfl⟩)
  | _ => simp only [D.truth] at e; cases e
def sTru (s : SO) : ST := fun ρ => (s ρ).bind fun o ρ' => ofO ((o.get ρ').bind D.truth) ρ'
theorem tru_core {G : Gx} {s : SO} {Q : Bool → Hp → Prop} (h : tT G W (sTru s) σ H Q) : tO G W s σ H fun x H' => ∃ k, TruV G.K x H' k ∧ Q k H' := by
  obtain ⟨ρ, F, Rv, io, rel, q⟩ := h
  refine ⟨ρ, F, Rv, io, rel, ?_⟩
  unfold sTru at q
  cases e : s ρ with
  | stuck => rw [e] at q; exact q.elim
  | exc x ρ' => rw [e] at q; exact q
  | ok o ρ' =>
    rw [e, R.bind_ok] at q
    intro v H' F' le rel' ok
    cases e1 : o.get ρ' with
    | none => rw [e1] at q; exact q.elim
    | some d =>
      rw [e1, Option.bind_some] at q
      cases e2 : d.truth with
      | none => rw [e2] at q; exact q.elim
      | some k => rw [e2] at q; exact ⟨k, (rel'.view ok e1).truth rel'.fH e2, q H' F' le rel'⟩
/-- any expression as a test, by its truth -/
theorem d_tru (ha : DO (GK X ex) X W a sa) (he : ∀ whole, isTrue a X.env whole = (do let v ← whole; standAt a.pos; holding [v] (truthy v)) := by intro _; rfl) : DT (GK X ex) X W a (sTru sa) :=
  wkT (pt_truth ha he) fun σ H Q h => tru_core h
def tAndS (s t : ST) : ST := fun ρ => (s ρ).bind fun k ρ' => match k with
  | true => t ρ'
  | false => .ok false ρ'
def tOrS (s t : ST) : ST := fun ρ => (s ρ).bind fun k ρ' => match k with
  | true => .ok true ρ'
  | false => t ρ'
def tNotS (s : ST) : ST := fun ρ => (s ρ).bind fun k ρ' => .ok (!k) ρ'
abbrev DW (G : Gx) (X : Cx) (W : WX) (e : Expr) (s : ST) : Prop := PW X e (tT G W s)
theorem wkW {X : Cx} {e : Expr} {t u : TT} (h : PW X e t) (w : ∀ σ H Q, u σ H Q → t σ H Q) : PW X e u := ⟨fun wh pins s σ H Q I q => h.run wh pins s σ H Q I (w σ H Q q)⟩
theorem and_core {G : Gx} {s t : ST} {Q : Bool → Hp → Prop} (h : tT G W (tAndS s t) σ H Q) : tAnd (tT G W s) (tT G W t) σ H Q := by
  obtain ⟨ρ, F, Rv, io, rel, q⟩ := h
  refine ⟨ρ, F, Rv, io, rel, ?_⟩
  unfold tAndS at q
  cases e : s ρ with
  | stuck => rw [e] at q; exact q.elim
  | exc x ρ' => rw [e] at q; exact q
  | ok k ρ' =>
    rw [e, R.bind_ok] at q
    intro H' F' le rel'
    cases k with
    | false => exact iteF (q H' F' le rel')
    | true =>
      refine iteT ⟨ρ', F', Rv, io, rel', ?_⟩
      revert q
      show (match t ρ' with | .ok b ρ'' => _ | .exc x ρ'' => _ | .stuck => False) → _
      cases t ρ' with
      | stuck => exact fun q => q
      | exc x ρ'' => exact fun q => XPost.le q le
      | ok k2 ρ'' => exact fun q H2 F2 le2 rel2 => q H2 F2 (le.trans le2) rel2
theorem or_core {G : Gx} {s t : ST} {Q : Bool → Hp → Prop} (h : tT G W (tOrS s t) σ H Q) : tOr (tT G W s) (tT G W t) σ H Q := by
  obtain ⟨ρ, F, Rv, io, rel, q⟩ := h
  refine ⟨ρ, F, Rv, io, rel, ?_⟩
  unfold tOrS at q
  cases e : s ρ with
  | stuck => rw [e] at q; exact q.elim
  | exc x ρ' => rw [e] at q; exact q
  | ok k ρ' =>
    rw [e, R.bind_ok] at q
    intro H' F' le rel'
    cases k with
    | true => exact iteT (q H' F' le rel')
    | false =>
      refine iteF ⟨ρ', F', Rv, io, rel', ?_⟩
      revert q
      show (match t ρ' with | .ok b ρ'' => _ | .exc x ρ'' => _ | .stuck => False) → _
      cases t ρ' with
      | stuck => exact fun q => q
      | exc x ρ'' => exact fun q => XPost.le q le
      | ok k2 ρ'' => exact fun q H2 F2 le2 rel2 => q H2 F2 (le.trans le2) rel2
variable {s t : ST} {rest : List Expr}
theorem d_wand1 (h : DT (GK X ex) X W a s) : DW (GK X ex) X W (.BoolOp .And [a] pos) s := pw_and1 h
theorem d_wor1 (h : DT (GK X ex) X W a s) : DW (GK X ex) X W (.BoolOp .Or [a] pos) s := pw_or1 h
theorem d_wand (h : DT (GK X ex) X W a s) (h2 : DW (GK X ex) X W (.BoolOp .And (b :: rest) pos) t) : DW (GK X ex) X W (.BoolOp .And (a :: b :: rest) pos) (tAndS s t) := wkW (pw_and h h2) fun σ H Q q => and_core q
theorem d_wor (h : DT (GK X ex) X W a s) (h2 : DW (GK X ex) X W (.BoolOp .Or (b :: rest) pos) t) : DW (GK X ex) X W (.BoolOp .Or (a :: b :: rest) pos) (tOrS s t) := wkW (pw_or h h2) fun σ H Q q => or_core q
theorem d_tnot (h : DT (GK X ex) X W a s) : DT (GK X ex) X W (.UnaryOp .Not a pos) (tNotS s) := wkT (pt_not h) fun σ H Q q => by
  obtain ⟨ρ, F, Rv, io, rel, q⟩ := q
  refine ⟨ρ, F, Rv, io, rel, ?_⟩
  unfold tNotS at q
  cases e : s ρ with
  | stuck => rw [e] at q; exact q.elim
  | exc x ρ' => rw [e] at q; exact q
  | ok k ρ' => rw [e] at q; exact q
/-- .. as values: by truth -/
def sAnd (s t : SE) : SE := fun ρ => (s ρ).bind fun d ρ' => match d.truth with
  | some true => t ρ'
  | some false => .ok d ρ'
  | none => .stuck
def sOr (s t : SE) : SE := fun ρ => (s ρ).bind fun d ρ' => match d.truth with
  | some true => .ok d ρ'
  | some false => t ρ'
  | none => .stuck
def sNot (s : SO) : SE := fun ρ => (sTru s ρ).bind fun k ρ' => .ok (.bl (!k)) ρ'
variable {ea eb : SE}
theorem d_one {op} (h : DE (GK X ex) X W a ea) : DE (GK X ex) X W (.BoolOp op [a] pos) ea := pe_one h
theorem d_and (ha : DE (GK X ex) X W a ea) (hb : DE (GK X ex) X W (.BoolOp .And (b :: rest) pos) eb) : DE (GK X ex) X W (.BoolOp .And (a :: b :: rest) pos) (sAnd ea eb) := wkE (pe_andT ha hb) fun σ H Q h => by
  obtain ⟨ρ, F, Rv, io, rel, q⟩ := h
  refine ⟨ρ, F, Rv, io, rel, ?_⟩
  unfold sAnd at q
  cases e : ea ρ with
  | stuck => rw [e] at q; exact q.elim
  | exc x ρ' => rw [e] at q; exact q
  | ok d ρ' =>
    rw [e, R.bind_ok] at q
    intro v H' F' le rel' rp
    cases e2 : d.truth with
    | none => rw [e2] at q; exact q.elim
    | some k =>
      rw [e2] at q
      refine ⟨k, Vw.truth rel'.fH (.inl rp) e2, ?_⟩
      cases k with
      | false => exact iteF (q v H' F' le rel' rp)
      | true =>
        refine iteT ⟨ρ', F', Rv, io, rel', ?_⟩
        revert q
        show (match eb ρ' with | .ok b ρ'' => _ | .exc x ρ'' => _ | .stuck => False) → _
        cases eb ρ' with
        | stuck => exact fun q => q
        | exc x ρ'' => exact fun q => XPost.le q le
        | ok k2 ρ'' => exact fun q => EPost.le q le
theorem d_not (ha : DO (GK X ex) X W a sa) : DE (GK X ex) X W (.UnaryOp .Not a pos) (sNot sa) := wkE (pe_notT ha) fun σ H Q h => by
  refine tru_core (Q := fun k H1 => Q (.bl (!k)) H1) ?_
  obtain ⟨ρ, F, Rv, io, rel, q⟩ := h
  refine ⟨ρ, F, Rv, io, rel, ?_⟩
  unfold sNot at q
  cases e : sTru sa ρ with
  | stuck => rw [e] at q; exact q.elim
  | exc x ρ' => rw [e] at q; exact q
  | ok d ρ' => rw [e] at q; exact fun H' F' le rel' => q _ H' F' le rel' (.bl _)
/-- a if t else b -/
def sIf (t : ST) (a b : SE) : SE := fun ρ => (t ρ).bind fun k ρ' => match k with
  | true => a ρ'
  | false => b ρ'
theorem d_if (hc : DT (GK X ex) X W c t) (ha : DE (GK X ex) X W a ea) (hb : DE (GK X ex) X W b eb) : DE (GK X ex) X W (.IfExp c a b pos) (sIf t ea eb) := wkE (pe_ifExp hc ha hb) fun σ H Q h => by
  obtain ⟨ρ, F, Rv, io, rel, q⟩ := h
  refine ⟨ρ, F, Rv, io, rel, ?_⟩
  unfold sIf at q
  cases e : t ρ with
  | stuck => rw [e] at q; exact q.elim
  | exc x ρ' => rw [e] at q; exact q
  | ok k ρ' =>
    rw [e, R.bind_ok] at q
    intro H' F' le rel'
    cases k with
    | true =>
      refine iteT ⟨ρ', F', Rv, io, rel', ?_⟩
      revert q
      show (match ea ρ' with | .ok b ρ'' => _ | .exc x ρ'' => _ | .stuck => False) → _
      cases ea ρ' with
      | stuck => exact fun q => q
      | exc x ρ'' => exact fun q => XPost.le q le
      | ok k2 ρ'' => exact fun q => EPost.le q le
    | false =>
      refine iteF ⟨ρ', F', Rv, io, rel', ?_⟩
      revert q
      show (match eb ρ' with | .ok b ρ'' => _ | .exc x ρ'' => _ | .stuck => False) → _
      cases eb ρ' with
      | stuck => exact fun q => q
      | exc x ρ'' => exact fun q => XPost.le q le
      | ok k2 ρ'' => exact fun q => EPost.le q le
end
end Dt
set_option Elab.async false
set_option linter.all false
set_option maxRecDepth 100000
set_option maxHeartbeats 2000000
namespace Dt
open PySem PySem.Spec PyProof.Rows L2
variable [HW]
section
variable {ex : Exx} {X : Cx} {W : WX} {σ : L2.St} {H : Hp} {a b c e : Expr} {es : List Expr} {pos p : Pos} {sa sb sc : SO} {ea eb : SE} {sB : SB} {sA : SA} {x : Str} {id : String}
theorem ix_dct {X : Cx} (hu : X.A.units + 64 < cLine) : IxR X (fun x y H Q => ∃ a v, x = .ref a ∧ DGet H a y (some v) ∧ Q v H) := by
  intro value slice pins s σ H x y v u Q I rx ry h hs
  obtain ⟨a, w, rfl, g, q⟩ := h
  obtain rfl : v = Value.ref a := rx
  exact tail_any (ops := [.ref a, u]) (dict_typeIs I g) PySem.F.slot_dict_getitem.lookup (d_getItem (by omega) I g ry fun w' s3 I3 rw' => ⟨w, H, I3, rw', q⟩) hs
theorem d_idx (hu : At X W) (ha : DO (GK X ex) X W a sa) (hb : DO (GK X ex) X W b sb) (hs : PlainIx b := by intro _ _; rfl) : DE (GK X ex) X W (.Subscript a b pos) (sOps gIdx (b2 sa sb)) :=
  wkE (pe_ix (ix_seq.or (ix_dct hu.un)) ha hb hs) fun σ H Q h => two_ops (r := rIxA X.K) psem_idx h
/-- a part of a slice -/
abbrev SP' := Env → R (Option Int)
def sPn : SP' := fun ρ => .ok none ρ
def sPe (s : SE) : SP' := fun ρ => (s ρ).bind fun d ρ' => match d with
  | .int i => .ok (some i) ρ'
  | _ => .stuck
def sSlice (s : SO) (lo hi : SP') : SE := fun ρ => (s ρ).bind fun o ρ1 => (lo ρ1).bind fun l ρ2 => (hi ρ2).bind fun h ρ3 => ofO ((o.get ρ3).bind fun d => sliceD d l h) ρ3
/-- xs[::-1]: a new list -/
def sRev (s : SO) : SE := fun ρ => (s ρ).bind fun o ρ' => match o.get ρ' with
  | some (.lst xs) => .ok (.lst xs.reverse) ρ'
  | _ => .stuck
theorem d_fz (h : DF (GK X ex) X W e ea) : DE (GK X ex) X W e ea := wkE (pe_lk h) fun σ H Q ⟨ρ, F, Rv, io, rel, q⟩ => by
  refine ⟨ρ, F, Rv, io, rel, ?_⟩
  revert q
  cases ea ρ with
  | stuck => exact fun q => q
  | exc x ρ' => exact fun q => q
  | ok d ρ' =>
    intro q p H' F' le rel' ow lo
    obtain ⟨o, h1, h2⟩ := ow.at_
    refine .inr ⟨p, o, rfl, h1, h2.lkb, fun od => ?_⟩
    have le2 := FLe.upd (p := p) (lk od o) ow.nF
    have nR : ∀ a u, Rv a = some u → a ≠ p := fun a u e z => by subst z; rw [ow.nR] at e; cases e
    refine q _ (upd H' p (lk od o)) (upd F' p (lk od o)) (le.trans le2) ⟨fun a u e => ?_, fun a u e => by rw [upd_ne (nR a u e)]; exact rel'.rH a u e, fun a u e => ?_, rel'.len, fun i c v e1 e2 => ?_, rel'.inj, rel'.ios, rel'.ioc, fun t ht => let q := rel'.tab t ht; let ⟨ps, ep⟩ := q.tbl; q.mv (by rw [upd_ne (own_ne ow ep)]; exact q.1) q.2.1 (fun ps e => by rw [upd_ne (own_ne ow e)]; exact e) le2 q.nR, rel'.nt.upd (h2.lone od).2⟩ ((h2.mono le2).rp upd_same)
    · by_cases z : a = p
      · subst z; rw [upd_same] at e; cases e; exact upd_same
      · rw [upd_ne z] at e; rw [upd_ne z]; exact rel'.fH a u e
    · by_cases z : a = p
      · subst z; exact ow.nR
      · rw [upd_ne z] at e; exact rel'.dj a u e
    · have q := rel'.cell i c v e1 e2
      have keep : ∀ {p' d'}, c.held = some d' → v = some (.ref p') → OwnAt X.K F' Rv H' p' d' → OwnAt X.K (upd F' p (lk od o)) Rv (upd H' p (lk od o)) p' d' := fun {p' d'} h3 h4 w => by
        obtain ⟨o', e, q3⟩ := w.at_
        have ne : p' ≠ p := by intro z; subst z; subst h4; exact lo i c d' e1 h3 e2
        exact ⟨by rw [upd_ne ne]; exact w.nF, w.nR, o', by rw [upd_ne ne]; exact e, q3.mono le2⟩
      cases c with
      | no => trivial
      | fro d' => obtain ⟨y, e, q⟩ := q; exact ⟨y, e, q.mono le2⟩
      | own d' => obtain ⟨p', e, q⟩ := q; exact ⟨p', e, keep rfl e q⟩
      | io d' => obtain ⟨p', e, q⟩ := q; exact ⟨p', e, keep rfl e q⟩
def sTup (s : SA) : SE := fun ρ => (s ρ).bind fun ds ρ' => if ds.length ≤ sizeLine then .ok (.tup ds) ρ' else .stuck
def sLst (s : SA) : SE := fun ρ => (s ρ).bind fun ds ρ' => if ds.length ≤ sizeLine then .ok (.lst ds) ρ' else .stuck
theorem d_tup {k : Nat} (h : DA (GK X ex) X W es sA) : DE (GK X ex) X W (.Tuple es k pos) (sTup sA) := wkE (pe_tupZ h) fun σ H Q ⟨ρ, F, Rv, io, rel, q⟩ => by
  refine ⟨ρ, F, Rv, io, rel, ?_⟩
  unfold sTup at q
  cases e : sA ρ with
  | stuck => rw [e] at q; exact q.elim
  | exc x ρ' => rw [e] at q; exact q
  | ok ds ρ' =>
    rw [e, R.bind_ok] at q
    intro vs H' F' le rel' r
    by_cases hz : ds.length ≤ sizeLine
    · rw [if_pos hz] at q
      exact ⟨by rw [r.length]; exact hz, fun p o hp ho => q _ _ _ (le.trans (FLe.upd _ (rel'.fH.noneOf hp))) (rel'.new hp _) (.tup (.new ho) (r.mono (FLe.upd _ (rel'.fH.noneOf hp))))⟩
    · rw [if_neg hz] at q; exact q.elim
theorem d_lstF (h : DA (GK X ex) X W es sA) : DF (GK X ex) X W (.List es pos) (sLst sA) := wkE (pe_lst h) fun σ H Q ⟨ρ, F, Rv, io, rel, q⟩ => by
  refine ⟨ρ, F, Rv, io, rel, ?_⟩
  unfold sLst at q
  cases e : sA ρ with
  | stuck => rw [e] at q; exact q.elim
  | exc x ρ' => rw [e] at q; exact q
  | ok ds ρ' =>
    rw [e, R.bind_ok] at q
    intro vs H' F' le rel' r
    by_cases hz : ds.length ≤ sizeLine
    · rw [if_pos hz] at q
      exact ⟨by rw [r.length]; exact hz, fun p hp => q p _ F' le (rel'.newH hp _) ⟨rel'.fH.noneOf hp, rel'.rH.noneOf hp, _, upd_same, _, rfl, r⟩ (rel'.loose hp)⟩
    · rw [if_neg hz] at q; exact q.elim
/-- {}: keys will be ints and texts -/
theorem d_dctF : DF (GK X ex) X W (.Dict [] [] pos) (sCst (.dct [] [])) := wkE pe_dnewK fun σ H Q ⟨ρ, F, Rv, io, rel, q⟩ =>
  fun p hp => q p _ F (FLe.refl F) (rel.newH hp _) ⟨rel.fH.noneOf hp, rel.rH.noneOf hp, _, upd_same, [], rfl, rfl, .nil⟩ (rel.loose hp)
theorem d_callB {r : RL} {g : List D → Option D} (hc : CallR X (.builtin id) r) (hG : PSem (GK X ex) r g) (hg : Gl X x) (hm : X.mg x = none) (ha : DB (GK X ex) X W (e :: es) sB) (hv : bootBuiltins x = some (.builtin id) := by decide +kernel) (hn : x ≠ "__name__" := by decide) (hdb : (x == ("__debug__" : Str)) = false := by decide)
    (he : starEach (e :: es) X.env = (false, eval e X.env) :: starEach es X.env := by rfl) (hpl : (backTo pos (starEach es X.env)).any (·.1) = false := by rfl) : DE (GK X ex) X W (.Call (.Name x p) (e :: es) [] pos) (sOps g sB) :=
  wkE (pe_callB hc hg hm hv ha hn hdb he hpl) fun σ H Q h => ops_core hG h
theorem d_callTy {r : RL} {g : List D → Option D} (hc : CallR X (.type id) r) (hG : PSem (GK X ex) r g) (hg : Gl X x) (hm : X.mg x = none) (ha : DB (GK X ex) X W (e :: es) sB) (hv : bootBuiltins x = some (.type id) := by decide +kernel) (hn : x ≠ "__name__" := by decide) (hdb : (x == ("__debug__" : Str)) = false := by decide)
    (he : starEach (e :: es) X.env = (false, eval e X.env) :: starEach es X.env := by rfl) (hpl : (backTo pos (starEach es X.env)).any (·.1) = false := by rfl) : DE (GK X ex) X W (.Call (.Name x p) (e :: es) [] pos) (sOps g sB) :=
  wkE (pe_callTy hc hg hm hv ha hn hdb he hpl) fun σ H Q h => ops_core hG h
theorem d_callTyF {r : RL} {g : List D → Option D} (hc : CallR X (.type id) r) (hG : FSem (GK X ex) r g) (hg : Gl X x) (hm : X.mg x = none) (ha : DB (GK X ex) X W (e :: es) sB) (hv : bootBuiltins x = some (.type id) := by decide +kernel) (hn : x ≠ "__name__" := by decide) (hdb : (x == ("__debug__" : Str)) = false := by decide)
    (he : starEach (e :: es) X.env = (false, eval e X.env) :: starEach es X.env := by rfl) (hpl : (backTo pos (starEach es X.env)).any (·.1) = false := by rfl) : DF (GK X ex) X W (.Call (.Name x p) (e :: es) [] pos) (sOps g sB) :=
  wkE (pe_callTy hc hg hm hv ha hn hdb he hpl) fun σ H Q h => opsF_core hG h
/-- of a built-in type: bool is an int -/
def isTn (n t : String) : Bool := n == t || (t == "int" && n == "bool")
def isT (d : D) (t : String) : Bool := isTn (tyN d) t
def kindL : List String := ["int", "bool", "str", "tuple", "list", "dict"]
abbrev Kinds (t : String) : Prop := t ∈ kindL
theorem kit_all : ("NoneType" :: kindL).all (fun n => kindL.all fun t => kitB n t == some (isTn n t)) = true := by decide +kernel
theorem tyN_mem (d : D) : tyN d ∈ "NoneType" :: kindL := by cases d <;> simp [tyN, kindL]
theorem kit_isT {K : PySem.W.Frag} (d : D) {t : String} (h : Kinds t) : PySem.W.kitOne K (.type (tyN d)) (.type t) = some (isT d t) := by
  refine kit_ty ?_
  have z := List.all_eq_true.mp (List.all_eq_true.mp kit_all _ (tyN_mem d)) t h
  exact beq_iff_eq.mp z
def isTo (ts : List String) (d : D) : Option D := if d.isFn = true then none else some (.bl (ts.any (isT d)))
def sIsi (ts : List String) (s : SO) : SE := fun ρ => (s ρ).bind fun o ρ' => ofO ((o.get ρ').bind (isTo ts)) ρ'
theorem isi_core {G : Gx} {ts : List String} {Q : VK} (h : tE G W (sIsi ts sa) σ H Q) : tO G W sa σ H fun x H1 => ∃ F d, FLe F H1 ∧ Vw G.K F H1 x d ∧ d.isFn = false ∧ ∀ H2, FLe H1 H2 → Q (.bl (ts.any (isT d))) H2 := by
  obtain ⟨ρ, F, Rv, io, rel, q⟩ := h
  refine ⟨ρ, F, Rv, io, rel, ?_⟩
  unfold sIsi at q
  cases e : sa ρ with
  | stuck => rw [e] at q; exact q.elim
  | exc x ρ' => rw [e] at q; exact q
  | ok o ρ' =>
    rw [e, R.bind_ok] at q
    intro v H' F' le rel' ok
    cases e1 : o.get ρ' with
    | none => rw [e1] at q; exact q.elim
    | some d =>
      rw [e1, Option.bind_some] at q
      unfold isTo at q
      cases hd : d.isFn with
      | true => rw [if_pos hd] at q; exact q.elim
      | false =>
      rw [if_neg (by rw [hd]; decide)] at q
      exact ⟨F', d, rel'.fH, rel'.view ok e1, hd, fun H2 h2 => q _ H2 F' le (rel'.grow (FLe.refl _) h2 (rel'.fH.trans h2) (fun _ _ e => .inl e) rel'.nt) (.bl _)⟩
theorem isi_gl (hg : Gl X "isinstance") (hm : X.mg "isinstance" = none) {t : TA} {r : RL} {e2 : Expr} (hc : CallR X (.builtin "isinstance") r) (ha : PA X (a :: e2 :: []) t) (he : starEach (a :: e2 :: []) X.env = (false, eval a X.env) :: starEach (e2 :: []) X.env) (hpl : (backTo pos (starEach (e2 :: []) X.env)).any (·.1) = false) :
    PE X (.Call (.Name "isinstance" p) (a :: e2 :: []) [] pos) (tCB r t) := pe_callB hc hg hm (by decide +kernel) ha (by decide) (by decide) he hpl
theorem d_isi1 {t : Str} {ty : String} {q : Pos} (hg : Gl X "isinstance") (hm : X.mg "isinstance" = none) (ht : Kinds ty) (gt : Gl X t) (mt : X.mg t = none) (ha : DO (GK X ex) X W a sa) (hv : bootBuiltins t = some (.type ty) := by decide +kernel) (hn : t ≠ "__name__" := by decide) (hdb : (t == ("__debug__" : Str)) = false := by decide)
    (he : starEach (a :: (.Name t q) :: []) X.env = (false, eval a X.env) :: starEach ((.Name t q) :: []) X.env := by rfl) (hpl : (backTo pos (starEach ((.Name t q) :: []) X.env)).any (·.1) = false := by rfl) (hs2 : starEach ((.Name t q) :: []) X.env = (false, eval (.Name t q) X.env) :: starEach [] X.env := by rfl) :
    DE (GK X ex) X W (.Call (.Name "isinstance" p) (a :: (.Name t q) :: []) [] pos) (sIsi [ty] sa) :=
  wkE (isi_gl hg hm call_isi (pa_cons ha (pa_cons (pe_bltn (v := .ty ty) gt mt hv rfl hn hdb) pa_nil hs2) he) he hpl) fun σ H Q h =>
    tO_mono (isi_core h) fun x H1 ⟨F, d, fh, vw, hd, q⟩ => ⟨x, .ty ty, .type (tyN d), .type ty, isT d ty, rfl, .ty _, ty_vw fh vw hd, kit_isT d ht, by have z := q H1 (FLe.refl _); simpa using z⟩
theorem d_isi2 {t t' : Str} {ty ty' : String} {q q' q2 : Pos} {k : Nat} (hg : Gl X "isinstance") (hm : X.mg "isinstance" = none) (ht : Kinds ty) (ht' : Kinds ty') (gt : Gl X t) (mt : X.mg t = none) (gt' : Gl X t') (mt' : X.mg t' = none) (ha : DO (GK X ex) X W a sa)
    (hv : bootBuiltins t = some (.type ty) := by decide +kernel) (hn : t ≠ "__name__" := by decide) (hdb : (t == ("__debug__" : Str)) = false := by decide) (hv' : bootBuiltins t' = some (.type ty') := by decide +kernel) (hn' : t' ≠ "__name__" := by decide) (hdb' : (t' == ("__debug__" : Str)) = false := by decide)
    (he : starEach (a :: (.Tuple [.Name t q, .Name t' q'] k q2) :: []) X.env = (false, eval a X.env) :: starEach ((.Tuple [.Name t q, .Name t' q'] k q2) :: []) X.env := by rfl) (hpl : (backTo pos (starEach ((.Tuple [.Name t q, .Name t' q'] k q2) :: []) X.env)).any (·.1) = false := by rfl)
    (hs2 : starEach ((.Tuple [.Name t q, .Name t' q'] k q2) :: []) X.env = (false, eval (.Tuple [.Name t q, .Name t' q'] k q2) X.env) :: starEach [] X.env := by rfl)
    (hs3 : starEach (.Name t q :: [.Name t' q']) X.env = (false, eval (.Name t q) X.env) :: starEach [.Name t' q'] X.env := by rfl) (hs4 : starEach (.Name t' q' :: []) X.env = (false, eval (.Name t' q') X.env) :: starEach [] X.env := by rfl) :
    DE (GK X ex) X W (.Call (.Name "isinstance" p) (a :: (.Tuple [.Name t q, .Name t' q'] k q2) :: []) [] pos) (sIsi [ty, ty'] sa) :=
  wkE (isi_gl hg hm call_isiT (pa_cons ha (pa_cons (pe_tup (pa_cons (pe_bltn (v := .ty ty) gt mt hv rfl hn hdb) (pa_cons (pe_bltn (v := .ty ty') gt' mt' hv' rfl hn' hdb') pa_nil hs4) hs3)) pa_nil hs2) he) he hpl) fun σ H Q h =>
    tO_mono (isi_core h) fun x H1 ⟨F, d, fh, vw, hd, q⟩ => ⟨(by show 2 ≤ sizeLine; decide), fun pp hp => ⟨x, pp, [.ty ty, .ty ty'], .type (tyN d), [.type ty, .type ty'], [ty, ty'].any (isT d), rfl, upd_same, .cons (.ty _) (.cons (.ty _) .nil),
      (by
        have g := ty_vw (K := X.K) (fh.trans (FLe.upd (.tup [.ty ty, .ty ty']) hp)) (v := x) (d := d) (by
          rcases vw with z | ⟨p', o, e1, e2, e3⟩
          · exact .inl z
          · exact .inr ⟨p', o, e1, by rw [upd_ne (ne_of_none e2 hp)]; exact e2, e3⟩) hd
        exact g),
      (by
        have k1 := kit_isT (K := X.K) d ht
        have k2 := kit_isT (K := X.K) d ht'
        cases e1 : isT d ty <;> cases e2 : isT d ty' <;> rw [e1] at k1 <;> rw [e2] at k2
        · exact kitAny_cons k1 (fun _ => kitAny_cons k2 (fun _ => by simp [e1, e2, kitAny_nil]) (fun z => nomatch z)) (fun z => nomatch z)
        · exact kitAny_cons k1 (fun _ => kitAny_cons k2 (fun z => nomatch z) (fun _ => by simp [e1, e2])) (fun z => nomatch z)
        · exact kitAny_cons k1 (fun z => nomatch z) (fun _ => by simp [e1])
        · exact kitAny_cons k1 (fun z => nomatch z) (fun _ => by simp [e1])), q _ (FLe.upd _ hp)⟩⟩
end
end Dt
set_option Elab.async false
set_option linter.all false
set_option maxRecDepth 100000
set_option maxHeartbeats 2000000
namespace Dt
open PySem PySem.Spec PyProof.Rows L2
variable [HW]
/-- an iterator that gives these, whatever more there is -/
structure IterOk (K : PySem.W.Frag) (J : It) (F : Hp) (ds : List D) : Prop where
  go : ∀ (i : Nat) (F1 H : Hp), FLe F F1 → FLe F1 H → i < ds.length → J.go i H
  stop : ∀ (F1 H : Hp), FLe F F1 → FLe F1 H → J.stop ds.length H
  yld : ∀ (i : Nat) (F1 H H' : Hp) (x : V) (d : D), FLe F F1 → FLe F1 H → ds[i]? = some d → J.yld i H x H' → ∃ F2, New F1 H F2 H' ∧ Rp K F2 x d
def tI (G : Gx) (W : WX) (s : SA) : TI := fun σ H Q => ∃ ρ F Rv, ∃ io : Io G.ex.tabs, Rel G.K io Rv ρ F σ H ∧ match s ρ with
  | .ok ds ρ' => ∀ J H' F', FLe F F' → Rel G.K io Rv ρ' F' σ H' → IterOk G.K J F' ds → Q J H'
  | .exc x ρ' => XPost G W io Rv F ρ' x
  | .stuck => False
abbrev DI (G : Gx) (X : Cx) (W : WX) (tg e : Expr) (s : SA) : Prop := PI X tg e (tI G W s)
theorem wkI {X : Cx} {tg e : Expr} {t u : TI} (h : PI X tg e t) (w : ∀ σ H Q, u σ H Q → t σ H Q) : PI X tg e u := ⟨fun pins s σ H Q I q => h.run pins s σ H Q I (w σ H Q q)⟩
section
variable {K : PySem.W.Frag} {F : Hp}
theorem iter_lst {a : Addr} {xs : List V} {ds : List D} (t : F a = some (.lst xs)) (r : Rps K F xs ds) : IterOk K (Itl K a) F ds := by
  have at_ : ∀ {F1 H : Hp}, FLe F F1 → FLe F1 H → SqL K H a xs := fun h1 h2 => SqL.of (h2 _ _ (h1 _ _ t))
  refine ⟨fun i F1 H h1 h2 hi => ?_, fun F1 H h1 h2 => ⟨xs, at_ h1 h2, Nat.le_of_eq r.length⟩, fun i F1 H H' x d h1 h2 e y => ?_⟩
  · have hi' : i < xs.length := by rw [r.length]; exact hi
    exact ⟨xs, xs[i], at_ h1 h2, by simp [hi']⟩
  · obtain ⟨v, e1, rp⟩ := r.get e
    have e2 := y.2 xs (at_ h1 h2)
    rw [e1] at e2
    cases e2
    rw [y.1]
    exact ⟨F1, New.refl h2, rp.mono h1⟩
theorem iter_tup {a : Addr} {xs : List V} {ds : List D} (t : SqT K F a xs) (r : Rps K F xs ds) : IterOk K (Itt K a) F ds := by
  have at_ : ∀ {F1 H : Hp}, FLe F F1 → FLe F1 H → SqT K H a xs := fun h1 h2 => h2.sqT (h1.sqT t)
  refine ⟨fun i F1 H h1 h2 hi => ?_, fun F1 H h1 h2 => ⟨xs, at_ h1 h2, Nat.le_of_eq r.length⟩, fun i F1 H H' x d h1 h2 e y => ?_⟩
  · have hi' : i < xs.length := by rw [r.length]; exact hi
    exact ⟨xs, xs[i], at_ h1 h2, by simp [hi']⟩
  · obtain ⟨v, e1, rp⟩ := r.get e
    have e2 := y.2 xs (at_ h1 h2)
    rw [e1] at e2
    cases e2
    rw [y.1]
    exact ⟨F1, New.refl h2, rp.mono h1⟩
/-- a dict by its keys: it is locked -/
theorem iter_dct {a : Addr} {od : Obj} {kvs : List (Key × V)} (t : F a = some (.frz od (.dK kvs))) : IterOk K (Itk a od kvs) F ((kvs.map (·.1)).map keyD) := by
  have at_ : ∀ {F1 H : Hp}, FLe F F1 → FLe F1 H → H a = some (.frz od (.dK kvs)) := fun h1 h2 => h2 _ _ (h1 _ _ t)
  refine ⟨fun i F1 H h1 h2 hi => ⟨at_ h1 h2, by simpa using hi⟩, fun F1 H h1 h2 => ⟨at_ h1 h2, by simp⟩, fun i F1 H H' x d h1 h2 e y => ?_⟩
  obtain ⟨e1, k, v, e2, rfl⟩ := y
  rw [e1]
  refine ⟨F1, New.refl h2, ?_⟩
  rw [List.getElem?_map, List.getElem?_map, e2] at e
  cases e
  exact rp_key k
def signs (z : Str) : List D := z.cps.toList.map fun c => .str ⟨#[c]⟩
theorem iter_str {z : Str} : IterOk K (Its z) F (signs z) := by
  refine ⟨fun i F1 H h1 h2 hi => (show i < z.cps.size from by simpa [signs] using hi), fun F1 H h1 h2 => by simp [signs, Its], fun i F1 H H' x d h1 h2 e y => ?_⟩
  obtain ⟨e1, c, e2, rfl⟩ := y
  rw [e1]
  refine ⟨F1, New.refl h2, ?_⟩
  have e3 : z.cps.toList[i]? = some c := by simpa using e2
  unfold signs at e
  rw [List.getElem?_map, e3] at e
  cases e
  exact .str _
def upto (lo : Int) (n : Nat) : List D := (List.range n).map fun i => .int (lo + (i : Nat))
end
section
variable {ex : Exx} {X : Cx} {W : WX} {σ : L2.St} {H : Hp} {a b c e tg : Expr} {es : List Expr} {pos p : Pos} {sa sb sc : SO} {ea eb : SE} {sB : SB} {sA : SA} {x : Str} {id : String}
/-- a list, a tuple, a text, a locked dict -/
theorem pi_any (he : PE X e ta) : PI X tg e (fun σ H R => ta σ H fun x H1 => (∃ a xs, x = V.ref a ∧ SqL X.K H1 a xs ∧ R (Itl X.K a) H1) ∨ (∃ a xs, x = V.ref a ∧ SqT X.K H1 a xs ∧ R (Itt X.K a) H1) ∨ (∃ z, x = V.str z ∧ R (Its z) H1) ∨ ∃ a od kvs, x = V.ref a ∧ H1 a = some (.frz od (.dK kvs)) ∧ R (Itk a od kvs) H1) := by
  refine ⟨fun pins s σ H R I h => thn (he.run pins s σ H _ I h) fun v s1 ⟨x, H1, I1, r1, q1⟩ => ?_⟩
  rcases q1 with ⟨a, xs, rfl, hq, q⟩ | ⟨a, xs, rfl, hq, q⟩ | ⟨z, rfl, q⟩ | ⟨a, od, kvs, rfl, hd, q⟩
  · obtain rfl : v = Value.ref a := r1
    obtain ⟨its, _, pl, _⟩ := I1.list hq
    exact wpAny_pyIter_list pl.isList (pi_one (tk := s1.toks) I1 _ (turn_list a _) ⟨_, Heap.get?_push_size _ rfl, rfl, rfl⟩ q)
  · obtain rfl : v = Value.ref a := r1
    obtain ⟨its, _, pl, _⟩ := I1.tuple hq
    exact wpAny_pyIter_tuple (show s1.heap.IsTuple a its.toArray from pl) (pi_one (tk := s1.toks) I1 _ (turn_tuple a _) ⟨_, Heap.get?_push_size _ rfl, rfl, rfl⟩ q)
  · obtain ⟨t, rfl⟩ := r1
    cases hz : z.cps.all (· < 128) with
    | false => exact wpAny_pyIter_wide hz (pi_one (tk := s1.toks) I1 _ (turn_str _ z t "str_iterator" (.inr rfl)) ⟨_, Heap.get?_push_size _ rfl, rfl, rfl⟩ q)
    | true => exact wpAny_pyIter_ascii hz (pi_one (tk := s1.toks) I1 _ (turn_str _ z t "str_ascii_iterator" (.inl rfl)) ⟨_, Heap.get?_push_size _ rfl, rfl, rfl⟩ q)
  · obtain rfl : v = Value.ref a := r1
    obtain ⟨hs, hgd, hx, es, ep, vs, hdt, hsz, kv, hm⟩ := I1.frzK hd
    refine iter_keys hs hgd hx hdt (pi_one (tk := s1.toks) I1 _ (turn_keys _ hdt) ⟨_, Heap.get?_push_size _ rfl, rfl, ?_⟩ q)
    rw [hsz] <;> rfl
def itemsD : D → Option (List D)
  | .lst ds => some ds
  | .tup ds => some ds
  | .str z => some (signs z)
  | .arg ds => some ds
  | .dct ks _ => some (ks.map keyD)
  | .etup => some []
  | _ => none
def iAny (s : SE) : SA := fun ρ => (s ρ).bind fun d ρ' => ofO (itemsD d) ρ'
theorem d_iAny (h : DE (GK X ex) X W e ea) : DI (GK X ex) X W tg e (iAny ea) := wkI (pi_any h) fun σ H Q ⟨ρ, F, Rv, io, rel, q⟩ => by
  refine ⟨ρ, F, Rv, io, rel, ?_⟩
  unfold iAny at q
  cases e : ea ρ with
  | stuck => rw [e] at q; exact q.elim
  | exc x ρ' => rw [e] at q; exact q
  | ok d ρ' =>
    rw [e, R.bind_ok] at q
    intro v H' F' le rel' rp
    cases rp with
    | lst t r => exact .inl ⟨_, _, rfl, SqL.of (rel'.fH _ _ t), q _ H' F' le rel' (iter_lst t r)⟩
    | tup t r => exact .inr (.inl ⟨_, _, rfl, rel'.fH.sqT t.sq, q _ H' F' le rel' (iter_tup t.sq r)⟩)
    | arg t r => exact .inr (.inl ⟨_, _, rfl, rel'.fH.sqT t, q _ H' F' le rel' (iter_tup t r)⟩)
    | etup t => exact .inr (.inl ⟨_, _, rfl, t.sq H', q _ H' F' le rel' (iter_tup (t.sq F') .nil)⟩)
    | str z => exact .inr (.inr (.inl ⟨z, rfl, q _ H' F' le rel' iter_str⟩))
    | dct t r => exact .inr (.inr (.inr ⟨_, _, _, rfl, rel'.fH _ _ t, q _ H' F' le rel' (iter_dct t)⟩))
    | _ => exact q.elim
def rng1D : List D → Option (List D)
  | [.int j] => if -(2 ^ 62) ≤ j ∧ j < 2 ^ 62 then some (upto 0 j.toNat) else none
  | _ => none
def iRng1' (s : SA) : SA := fun ρ => (s ρ).bind fun ds ρ' => ofO (rng1D ds) ρ'
def rng2D : List D → Option (List D)
  | [.int i, .int j] => if -(2 ^ 62) ≤ i ∧ i < 2 ^ 62 ∧ -(2 ^ 62) ≤ j ∧ j < 2 ^ 62 then some (upto i (j - i).toNat) else none
  | _ => none
def iRng2' (s : SA) : SA := fun ρ => (s ρ).bind fun ds ρ' => ofO (rng2D ds) ρ'
def gSet (i : Nat) : SG := fun d ρ => match ρ[i]? with
  | some (.io _) => .stuck
  | none => .stuck
  | _ => .ok () (ρ.set i (.fro d))
theorem wkG {X : Cx} {e : Expr} {t u : TG} (h : PG X e t) (w : ∀ v σ H Q, u v σ H Q → t v σ H Q) : PG X e u := ⟨fun pins s σ H v vv Q I r q => h.run pins s σ H v vv Q I r (w v σ H Q q)⟩
theorem gSet_ok {ρ ρ' : Env} {i : Nat} {d : D} {u : Unit} (h : gSet i d ρ = .ok u ρ') : (∀ e, ρ[i]? ≠ some (Cell.io e)) ∧ ρ' = ρ.set i (.fro d) := by
  unfold gSet at h
  split at h
  · cases h
  · cases h
  · rename_i h1 h2
    cases h
    exact ⟨fun e z => h1 e z, rfl⟩
theorem d_gName {i : Nat} (hN : X.N.Nodup) (hi : X.N[i]? = some x) (hx : Loc X.env.scope x) (hf : X.fn x = true ∨ X.env.scope.names.lookup x = some .local) : DG (GK X ex) X W [i] (.Name x pos) (gSet i) :=
  wkG (pg_name hN hi hx hf) fun v σ H Q ⟨d, ρ, F, Rv, io, rel, rp, q⟩ => by
    show Q (σ.set i (some v)) H
    cases e : gSet i d ρ with
    | stuck => rw [e] at q; exact q.elim
    | exc x ρ' => unfold gSet at e; split at e <;> cases e
    | ok u ρ' =>
      rw [e] at q
      obtain ⟨h1, rfl⟩ := gSet_ok e
      exact q _ H F (FLe.refl F) (rel.setFro rp h1) ⟨List.length_set, fun j hj => List.getElem?_set_ne fun z => hj (by simp [z])⟩
abbrev SGs := List D → Env → R Unit
def tGs (G : Gx) (W : WX) (js : List Nat) (s : SGs) : TGs := fun vs σ H Q => ∃ ds ρ F Rv, ∃ io : Io G.ex.tabs, Rel G.K io Rv ρ F σ H ∧ Rps G.K F vs ds ∧ match s ds ρ with
  | .ok _ ρ' => ∀ σ' H' F', FLe F F' → Rel G.K io Rv ρ' F' σ' H' → Keeps js σ σ' → Q σ' H'
  | .exc x ρ' => XPost G W io Rv F ρ' x
  | .stuck => False
abbrev DGs (G : Gx) (X : Cx) (W : WX) (js : List Nat) (e : List Expr) (s : SGs) : Prop := PGs X e (tGs G W js s)
theorem wkGs {X : Cx} {e : List Expr} {t u : TGs} (h : PGs X e t) (w : ∀ v σ H Q, u v σ H Q → t v σ H Q) : PGs X e u := ⟨fun pins s σ H v vv Q I r q => h.run pins s σ H v vv Q I r (w v σ H Q q)⟩
def gN : SGs := fun ds ρ => match ds with
  | [] => .ok () ρ
  | _ => .stuck
def gC (g : SG) (gs : SGs) : SGs := fun ds ρ => match ds with
  | d :: ds => (g d ρ).bind fun _ ρ' => gs ds ρ'
  | [] => .stuck
theorem d_gN : DGs (GK X ex) X W [] [] gN := wkGs pgs_nil fun v σ H Q ⟨ds, ρ, F, Rv, io, rel, rp, q⟩ => by
  cases rp with
  | nil => exact ⟨rfl, q σ H F (FLe.refl F) rel ⟨rfl, fun _ _ => rfl⟩⟩
  | cons _ _ => exact q.elim
theorem d_gC {g : SG} {gs : SGs} {js ks : List Nat} (h : DG (GK X ex) X W js e g) (h2 : DGs (GK X ex) X W ks es gs) (hs : (assignEach (e :: es) X.env).map (·.2) = assign e X.env :: (assignEach es X.env).map (·.2) := by rfl) : DGs (GK X ex) X W (js ++ ks) (e :: es) (gC g gs) :=
  wkGs (pgs_cons h h2 hs) fun vs σ H Q ⟨ds, ρ, F, Rv, io, rel, rp, q⟩ => by
    cases rp with
    | nil => exact q.elim
    | @cons v vs d ds r rr =>
      refine ⟨v, vs, rfl, d, ρ, F, Rv, io, rel, r, ?_⟩
      have q : (match (g d ρ).bind fun _ ρ' => gs ds ρ' with | .ok _ ρ' => ∀ σ' H' F', FLe F F' → Rel X.K io Rv ρ' F' σ' H' → Keeps (js ++ ks) σ σ' → Q σ' H' | .exc x ρ' => XPost (GK X ex) W io Rv F ρ' x | .stuck => False) := q
      cases e : g d ρ with
      | stuck => rw [e] at q; exact q.elim
      | exc x ρ' => rw [e] at q; exact q
      | ok u ρ' =>
        rw [e, R.bind_ok] at q
        refine fun σ' H' F' le rel' hj => ⟨ds, ρ', F', Rv, io, rel', rr.mono le, ?_⟩
        cases e2 : gs ds ρ' with
        | stuck => rw [e2] at q; exact q.elim
        | exc x ρ'' => rw [e2] at q; exact XPost.le q le
        | ok u ρ'' => rw [e2] at q; exact fun σ2 H2 F2 le2 rel2 hj2 => q σ2 H2 F2 (le.trans le2) rel2 ⟨hj2.1.trans hj.1, fun j hjk => (hj2.2 j fun z => hjk (List.mem_append_right _ z)).trans (hj.2 j fun z => hjk (List.mem_append_left _ z))⟩
/-- (a, b, ..): of a tuple or of a list -/
def gTup' (n : Nat) (gs : SGs) : SG := fun d ρ => match d with
  | .tup ds => if ds.length = n then gs ds ρ else .stuck
  | .lst ds => if ds.length = n then gs ds ρ else .stuck
  | .arg ds => if ds.length = n then gs ds ρ else .stuck
  | _ => .stuck
theorem pg_both {k n : Nat} {t : TGs} (hc : X.calm = true) (h : PGs X es t) (hn : (assignEach es X.env).length = n) (hst : (assignEach es X.env).findIdx? (·.1) = none) :
    PG X (.Tuple es k pos) (fun v σ H Q => gTup X.K n t v σ H Q ∨ gUnl X.K n t v σ H Q) :=
  ⟨fun pins s σ H v u Q I r hw => hw.elim (fun hw => (pg_tup hc h hn hst).run pins s σ H v u Q I r hw) fun hw => (pg_unl hc h hn hst).run pins s σ H v u Q I r hw⟩
theorem d_gTup {k n : Nat} {gs : SGs} {js : List Nat} (hc : X.calm = true) (h : DGs (GK X ex) X W js es gs) (hn : (assignEach es X.env).length = n := by rfl) (hst : (assignEach es X.env).findIdx? (·.1) = none := by rfl) : DG (GK X ex) X W js (.Tuple es k pos) (gTup' n gs) :=
  wkG (pg_both hc h hn hst) fun v σ H Q ⟨d, ρ, F, Rv, io, rel, rp, q⟩ => by
    cases d with
    | tup ds =>
      obtain ⟨a, xs, rfl, t, r⟩ := Vw.sqT (F := F) rel.fH (.inl rp)
      have q : (match (if ds.length = n then gs ds ρ else .stuck) with | .ok _ ρ' => ∀ σ' H' F', FLe F F' → Rel X.K io Rv ρ' F' σ' H' → Keeps js σ σ' → Q σ' H' | .exc x ρ' => XPost (GK X ex) W io Rv F ρ' x | .stuck => False) := q
      by_cases hl : ds.length = n
      · rw [if_pos hl] at q
        exact .inl ⟨a, xs, rfl, t, by rw [r.length]; exact hl, ds, ρ, F, Rv, io, rel, r, q⟩
      · rw [if_neg hl] at q; exact q.elim
    | arg ds =>
      obtain ⟨a, xs, rfl, t, r⟩ : ∃ a xs, v = .ref a ∧ SqT X.K F a xs ∧ Rps X.K F xs ds := by cases rp with | arg t r => exact ⟨_, _, rfl, t, r⟩
      have q : (match (if ds.length = n then gs ds ρ else .stuck) with | .ok _ ρ' => ∀ σ' H' F', FLe F F' → Rel X.K io Rv ρ' F' σ' H' → Keeps js σ σ' → Q σ' H' | .exc x ρ' => XPost (GK X ex) W io Rv F ρ' x | .stuck => False) := q
      by_cases hl : ds.length = n
      · rw [if_pos hl] at q
        exact .inl ⟨a, xs, rfl, rel.fH.sqT t, by rw [r.length]; exact hl, ds, ρ, F, Rv, io, rel, r, q⟩
      · rw [if_neg hl] at q; exact q.elim
    | lst ds =>
      obtain ⟨a, xs, rfl, t, r⟩ := Vw.lst (F := F) rel.fH (.inl rp)
      have q : (match (if ds.length = n then gs ds ρ else .stuck) with | .ok _ ρ' => ∀ σ' H' F', FLe F F' → Rel X.K io Rv ρ' F' σ' H' → Keeps js σ σ' → Q σ' H' | .exc x ρ' => XPost (GK X ex) W io Rv F ρ' x | .stuck => False) := q
      by_cases hl : ds.length = n
      · rw [if_pos hl] at q
        exact .inr ⟨a, xs, rfl, SqL.of t, by rw [r.length]; exact hl, ds, ρ, F, Rv, io, rel, r, q⟩
      · rw [if_neg hl] at q; exact q.elim
    | _ => exact q.elim
def wipeE (ρ : Env) : List Nat → Env
  | [] => ρ
  | v :: vs => (wipeE ρ vs).set v .no
/-- the cells of the block's own names as they were -/
def backE (ρ0 ρ : Env) : List Nat → Env
  | [] => ρ
  | v :: vs => match ρ0[v]? with
    | some c => (backE ρ0 ρ vs).set v c
    | none => backE ρ0 ρ vs
def plainAt (ρ : Env) (vs : List Nat) : Bool := vs.all fun v => match ρ[v]? with
  | some .no => true
  | some (.fro _) => true
  | _ => false
def compGo (vs : List Nat) (g : SG) (t : ST) (s : SE) : List D → Env → R (List D)
  | [], ρ => .ok [] ρ
  | d :: ds, ρ => (g d ρ).bind fun _ ρ1 => (t ρ1).bind fun k ρ2 => match k with
    | true => (s ρ2).bind fun z ρ3 => if plainAt ρ3 vs = true then (compGo vs g t s ds (wipeE ρ3 vs)).bind fun zs ρ4 => .ok (z :: zs) ρ4 else .stuck
    | false => if plainAt ρ2 vs = true then compGo vs g t s ds (wipeE ρ2 vs) else .stuck
def noX {α : Type} : R α → R α
  | .ok a ρ => .ok a ρ
  | _ => .stuck
def sComp (vs : List Nat) (it : SA) (g : SG) (t : ST) (s : SE) : SE := fun ρ => (it ρ).bind fun ds ρ1 =>
  if plainAt ρ1 vs = true ∧ ds.length ≤ sizeLine then (noX (compGo vs g t s ds (wipeE ρ1 vs))).bind fun zs ρ2 => .ok (.lst zs) (backE ρ1 ρ2 vs) else .stuck
abbrev W0 : WX := fun _ _ _ _ => False
theorem wipe_get {σ : L2.St} {i : Nat} : ∀ vs : List Nat, (wipe σ vs)[i]? = if i ∈ vs then (σ[i]?).map fun _ => none else σ[i]?
  | [] => by simp [wipe]
  | v :: vs => by
    have ih := wipe_get (σ := σ) (i := i) vs
    unfold wipe
    rw [List.getElem?_set, wipe_length]
    by_cases h : v = i
    · subst h
      rw [if_pos rfl, if_pos (show v ∈ v :: vs from List.mem_cons_self)]
      by_cases hl : v < σ.length
      · rw [if_pos hl]; simp [hl]
      · rw [if_neg hl]; rw [List.getElem?_eq_none (by omega)]; rfl
    · rw [if_neg h, ih]
      by_cases h2 : i ∈ vs
      · rw [if_pos h2, if_pos (List.mem_cons_of_mem _ h2)]
      · rw [if_neg h2, if_neg (by simp only [List.mem_cons, not_or]; exact ⟨fun z => h z.symm, h2⟩)]
theorem wipe_same {σ σ' : L2.St} {vs : List Nat} (hl : σ'.length = σ.length) (h : ∀ j, j ∉ vs → σ'[j]? = (wipe σ vs)[j]?) : wipe σ' vs = wipe σ vs := by
  refine List.ext_getElem? fun j => ?_
  rw [wipe_get, wipe_get]
  by_cases hj : j ∈ vs
  · rw [if_pos hj, if_pos hj]
    by_cases hz : j < σ.length
    · rw [List.getElem?_eq_getElem (by omega), List.getElem?_eq_getElem hz]; rfl
    · rw [List.getElem?_eq_none (by omega), List.getElem?_eq_none (by omega)]
  · have q := h j hj
    rw [wipe_get, if_neg hj] at q
    rw [if_neg hj, if_neg hj, q]
theorem wipeE_len {ρ : Env} : ∀ vs : List Nat, (wipeE ρ vs).length = ρ.length
  | [] => rfl
  | v :: vs => by unfold wipeE; rw [List.length_set]; exact wipeE_len vs
theorem wipeE_get {ρ : Env} {i : Nat} : ∀ vs : List Nat, (wipeE ρ vs)[i]? = if i ∈ vs then (ρ[i]?).map fun _ => Cell.no else ρ[i]?
  | [] => by simp [wipeE]
  | v :: vs => by
    have ih := wipeE_get (ρ := ρ) (i := i) vs
    unfold wipeE
    rw [List.getElem?_set, wipeE_len]
    by_cases h : v = i
    · subst h
      rw [if_pos rfl, if_pos (show v ∈ v :: vs from List.mem_cons_self)]
      by_cases hl : v < ρ.length
      · rw [if_pos hl]; simp [hl]
      · rw [if_neg hl]; rw [List.getElem?_eq_none (by omega)]; rfl
    · rw [if_neg h, ih]
      by_cases h2 : i ∈ vs
      · rw [if_pos h2, if_pos (List.mem_cons_of_mem _ h2)]
      · rw [if_neg h2, if_neg (by simp only [List.mem_cons, not_or]; exact ⟨fun z => h z.symm, h2⟩)]
theorem backE_get {ρ0 ρ : Env} {i : Nat} (hl : ρ0.length = ρ.length) : ∀ vs : List Nat, (backE ρ0 ρ vs).length = ρ.length ∧ (backE ρ0 ρ vs)[i]? = if i ∈ vs then ρ0[i]? else ρ[i]?
  | [] => by simp [backE]
  | v :: vs => by
    obtain ⟨hlen, ih⟩ := backE_get (ρ0 := ρ0) (ρ := ρ) (i := i) hl vs
    unfold backE
    cases e : ρ0[v]? with
    | none =>
      refine ⟨hlen, ?_⟩
      show (backE ρ0 ρ vs)[i]? = _
      rw [ih]
      by_cases h : v = i
      · subst h
        rw [if_pos (show v ∈ v :: vs by simp)]
        have hv := List.getElem?_eq_none_iff.mp e
        by_cases h2 : v ∈ vs
        · rw [if_pos h2]
        · rw [if_neg h2, e, List.getElem?_eq_none (by omega)]
      · by_cases h2 : i ∈ vs
        · rw [if_pos h2, if_pos (List.mem_cons_of_mem _ h2)]
        · rw [if_neg h2, if_neg (by simp only [List.mem_cons, not_or]; exact ⟨fun z => h z.symm, h2⟩)]
    | some c =>
      refine ⟨by show ((backE ρ0 ρ vs).set v c).length = _; rw [List.length_set, hlen], ?_⟩
      show ((backE ρ0 ρ vs).set v c)[i]? = _
      rw [List.getElem?_set, hlen]
      have hv := (List.getElem?_eq_some_iff.mp e).1
      by_cases h : v = i
      · subst h
        rw [if_pos rfl, if_pos (show v < ρ.length by omega), if_pos (show v ∈ v :: vs from List.mem_cons_self), e]
      · rw [if_neg h, ih]
        by_cases h2 : i ∈ vs
        · rw [if_pos h2, if_pos (List.mem_cons_of_mem _ h2)]
        · rw [if_neg h2, if_neg (by simp only [List.mem_cons, not_or]; exact ⟨fun z => h z.symm, h2⟩)]
theorem plain_at {ρ : Env} {vs : List Nat} (h : plainAt ρ vs = true) {v : Nat} (hv : v ∈ vs) {c : Cell} (e : ρ[v]? = some c) : c = .no ∨ ∃ d, c = .fro d := by
  have q := List.all_eq_true.mp h v hv
  rw [e] at q
  cases c with
  | no => exact .inl rfl
  | fro d => exact .inr ⟨d, rfl⟩
  | own d => cases q
  | io d => cases q
section
variable {K : PySem.W.Frag} {T : List (Addr × Str)} {io : Io T} {Rv : Hp} {ρ ρ0 : Env} {F F0 : Hp} {σ : L2.St} {H H0 : Hp} {vs : List Nat}
theorem Rel.wiped (r : Rel K io Rv ρ F σ H) (h : plainAt ρ vs = true) : Rel K io Rv (wipeE ρ vs) F (wipe σ vs) H := by
  have same : ∀ {i c}, (wipeE ρ vs)[i]? = some c → c.held.isSome = true ∨ (∃ d, c = .fro d) → i ∉ vs ∧ ρ[i]? = some c := fun {i c} e q => by
    rw [wipeE_get] at e
    by_cases hi : i ∈ vs
    · rw [if_pos hi] at e
      cases e2 : ρ[i]? with
      | none => rw [e2] at e; cases e
      | some c' => rw [e2] at e; cases e; rcases q with q | ⟨d, q⟩ <;> cases q
    · rw [if_neg hi] at e; exact ⟨hi, e⟩
  have slot : ∀ {i}, i ∉ vs → (wipe σ vs)[i]? = σ[i]? := fun {i} hi => by rw [wipe_get, if_neg hi]
  refine ⟨r.fH, r.rH, r.dj, by rw [wipeE_len, wipe_length]; exact r.len, fun i c v e1 e2 => ?_, fun i j ci cj di dj p e1 e2 h1 h2 s1 s2 => ?_, fun ip hip => ?_, (fun i d e => ?_), r.tab, r.nt⟩
  · cases c with
    | no => trivial
    | _ =>
      obtain ⟨n, e⟩ := same e1 (by first | exact .inl rfl | exact .inr ⟨_, rfl⟩)
      rw [slot n] at e2
      exact r.cell i _ v e e2
  · obtain ⟨n1, g1⟩ := same e1 (.inl (by rw [h1]; rfl))
    obtain ⟨n2, g2⟩ := same e2 (.inl (by rw [h2]; rfl))
    rw [slot n1] at s1
    rw [slot n2] at s2
    exact r.inj i j ci cj di dj p g1 g2 h1 h2 s1 s2
  · obtain ⟨⟨d, e1⟩, e2⟩ := r.ios ip hip
    have n : ip.1 ∉ vs := fun hv => by rcases plain_at h hv e1 with z | ⟨_, z⟩ <;> cases z
    exact ⟨⟨d, by rw [wipeE_get, if_neg n]; exact e1⟩, by rw [slot n]; exact e2⟩
  · obtain ⟨n, e⟩ := same e (.inl rfl)
    exact r.ioc i d e
theorem Rel.back (r0 : Rel K io Rv ρ0 F0 σ H0) (r : Rel K io Rv ρ F (wipe σ vs) H) (le : FLe F0 F) (h : plainAt ρ0 vs = true) : Rel K io Rv (backE ρ0 ρ vs) F σ H := by
  have hl : ρ0.length = ρ.length := by rw [r0.len, r.len, wipe_length]
  have slot : ∀ {i}, i ∉ vs → (wipe σ vs)[i]? = σ[i]? := fun {i} hi => by rw [wipe_get, if_neg hi]
  have held : ∀ {i c}, (backE ρ0 ρ vs)[i]? = some c → c.held.isSome = true → i ∉ vs ∧ ρ[i]? = some c := fun {i c} e q => by
    rw [(backE_get hl vs).2] at e
    by_cases hi : i ∈ vs
    · rw [if_pos hi] at e
      rcases plain_at h hi e with z | ⟨_, z⟩ <;> (subst z; cases q)
    · rw [if_neg hi] at e; exact ⟨hi, e⟩
  refine ⟨r.fH, r.rH, r.dj, by rw [(backE_get (i := 0) hl vs).1, r.len, wipe_length], fun i c v e1 e2 => ?_, fun i j ci cj di dj p e1 e2 h1 h2 s1 s2 => ?_, fun ip hip => ?_, (fun i d e => ?_), r.tab, r.nt⟩
  · rw [(backE_get hl vs).2] at e1
    by_cases hi : i ∈ vs
    · rw [if_pos hi] at e1
      have q := r0.cell i c v e1 e2
      rcases plain_at h hi e1 with z | ⟨d, z⟩
      · subst z; trivial
      · subst z; obtain ⟨x, e, q⟩ := q; exact ⟨x, e, q.mono le⟩
    · rw [if_neg hi] at e1
      exact r.cell i c v e1 (by rw [slot hi]; exact e2)
  · obtain ⟨n1, g1⟩ := held e1 (by rw [h1]; rfl)
    obtain ⟨n2, g2⟩ := held e2 (by rw [h2]; rfl)
    exact r.inj i j ci cj di dj p g1 g2 h1 h2 (by rw [slot n1]; exact s1) (by rw [slot n2]; exact s2)
  · obtain ⟨⟨d, e1⟩, e2⟩ := r0.ios ip hip
    have n : ip.1 ∉ vs := fun hv => by rcases plain_at h hv e1 with z | ⟨_, z⟩ <;> cases z
    obtain ⟨⟨d', e3⟩, _⟩ := r.ios ip hip
    exact ⟨⟨d', by rw [(backE_get hl vs).2, if_neg n]; exact e3⟩, e2⟩
  · obtain ⟨n, e⟩ := held e rfl
    exact r.ioc i d e
/-- a new object that is kept -/
theorem Rel.resAdd (r : Rel K io Rv ρ F σ H) {D : Addr} (n : H D = none) (o : HO) (no : ∀ ps, o ≠ .tbl ps := by intro ps z; cases z) (nx : ∀ q, o ≠ LamX.CodeO D q := by intro ps z; unfold LamX.CodeO at z; cases z) : Rel K io (upd Rv D o) ρ F σ (upd H D o) := by
  have r2 := r.newH n o
  refine ⟨r2.fH, fun a u e => ?_, fun a u e => ?_, r2.len, fun i c v e1 e2 => ?_, r2.inj, r2.ios, r2.ioc, fun t ht => let q := r2.tab t ht; let ⟨ps, ep⟩ := (r.tab t ht).tbl; q.mv q.1 (by rw [upd_ne (ne_of_none ep n)]; exact q.2.1) (fun _ e => e) (FLe.refl F) (q.nR.upd no nx), r2.nt⟩
  · by_cases z : a = D
    · subst z; rw [upd_same] at e ⊢; exact e
    · rw [upd_ne z] at e ⊢; exact r.rH a u e
  · rw [upd_ne (fun z => by subst z; rw [r.fH.noneOf n] at e; cases e)]
    exact r.dj a u e
  · have q := r2.cell i c v e1 e2
    have own : ∀ {p d}, v = some (.ref p) → OwnAt K F Rv (upd H D o) p d → c.held = some d → OwnAt K F (upd Rv D o) (upd H D o) p d := fun {p d} hv w hh => by
      refine ⟨w.nF, ?_, w.at_⟩
      rw [upd_ne]
      · exact w.nR
      · intro z
        subst z
        subst hv
        obtain ⟨p', e3, w'⟩ := r.heldAt e1 hh
        rw [e2] at e3
        cases e3
        obtain ⟨o', e4, _⟩ := w'.at_
        rw [n] at e4
        cases e4
    cases c with
    | no => trivial
    | fro d => exact q
    | own d => obtain ⟨p, e, q⟩ := q; exact ⟨p, e, own e q rfl⟩
    | io d => obtain ⟨p, e, q⟩ := q; exact ⟨p, e, own e q rfl⟩
theorem Rel.resPut {D : Addr} {o o' : HO} (r : Rel K io (upd Rv D o) ρ F σ H) (no : ∀ ps, o' ≠ .tbl ps := by intro ps z; cases z) (nx : ∀ q, o' ≠ LamX.CodeO D q := by intro ps z; unfold LamX.CodeO at z; cases z) : Rel K io (upd Rv D o') ρ F σ (upd H D o') := by
  have nF : ∀ a u, F a = some u → a ≠ D := fun a u e z => by subst z; have q := r.dj a u e; rw [upd_same] at q; cases q
  refine ⟨fun a u e => by rw [upd_ne (nF a u e)]; exact r.fH a u e, fun a u e => ?_, fun a u e => ?_, r.len, fun i c v e1 e2 => ?_, r.inj, r.ios, r.ioc, fun t ht => let q := r.tab t ht; have ne : t.1 ≠ D := (fun z => by have w := q.2.1; rw [z, upd_same] at w; cases w); q.mv q.1 (by have w := q.2.1; rw [upd_ne ne] at w; rw [upd_ne ne]; exact w) (fun _ e => by rw [upd_ne ne]; exact e) (FLe.refl F) ⟨fun a ps e => by
    by_cases z : a = D
    · subst z; rw [upd_same] at e; exact no ps (Option.some.inj e)
    · rw [upd_ne z] at e; exact q.nR.1 a ps (by rw [upd_ne z]; exact e), fun a ps e => by
    by_cases z : a = D
    · subst z; rw [upd_same] at e; exact nx ps (Option.some.inj e)
    · rw [upd_ne z] at e; exact q.nR.2 a ps (by rw [upd_ne z]; exact e)⟩, r.nt⟩
  · by_cases z : a = D
    · subst z; rw [upd_same] at e ⊢; exact e
    · rw [upd_ne z] at e ⊢; exact r.rH a u (by rw [upd_ne z]; exact e)
  · have q := r.dj a u e
    rw [upd_ne (nF a u e)] at q ⊢
    exact q
  · have q := r.cell i c v e1 e2
    have own : ∀ {p d}, OwnAt K F (upd Rv D o) H p d → OwnAt K F (upd Rv D o') (upd H D o') p d := fun {p d} w => by
      have ne : p ≠ D := fun z => by subst z; have q := w.nR; rw [upd_same] at q; cases q
      obtain ⟨ob, e, w3⟩ := w.at_
      exact ⟨w.nF, by rw [upd_ne ne]; have q := w.nR; rw [upd_ne ne] at q; exact q, ob, by rw [upd_ne ne]; exact e, w3⟩
    cases c with
    | no => trivial
    | fro d => exact q
    | own d => obtain ⟨p, e, q⟩ := q; exact ⟨p, e, own q⟩
    | io d => obtain ⟨p, e, q⟩ := q; exact ⟨p, e, own q⟩
theorem Rel.resDrop {D : Addr} {o : HO} (r : Rel K io (upd Rv D o) ρ F σ H) (n : Rv D = none) : Rel K io Rv ρ F σ H ∧ F D = none ∧ H D = some o ∧ Loose ρ σ D := by
  have sub : ∀ a u, Rv a = some u → a ≠ D := fun a u e z => by subst z; rw [n] at e; cases e
  have own : ∀ {p d}, OwnAt K F (upd Rv D o) H p d → p ≠ D ∧ OwnAt K F Rv H p d := fun {p d} w => by
    have ne : p ≠ D := fun z => by subst z; have q := w.nR; rw [upd_same] at q; cases q
    exact ⟨ne, w.nF, by have q := w.nR; rw [upd_ne ne] at q; exact q, w.at_⟩
  refine ⟨⟨r.fH, fun a u e => r.rH a u (by rw [upd_ne (sub a u e)]; exact e), fun a u e => ?_, r.len, fun i c v e1 e2 => ?_, r.inj, r.ios, r.ioc, fun t ht => let q := r.tab t ht; have ne : t.1 ≠ D := (fun z => by have w := q.2.1; rw [z, upd_same] at w; cases w); q.mv q.1 (by have w := q.2.1; rw [upd_ne ne] at w; exact w) (fun _ e => e) (FLe.refl F) ⟨fun a ps e => q.nR.1 a ps (by rw [upd_ne (sub a _ e)]; exact e), fun a ps e => q.nR.2 a ps (by rw [upd_ne (sub a _ e)]; exact e)⟩, r.nt⟩, ?_, r.rH D o upd_same, fun i c d e1 e2 e3 => ?_⟩
  · have q := r.dj a u e
    cases e2 : Rv a with
    | none => rfl
    | some w => rw [upd_ne (sub a w e2), e2] at q; cases q
  · have q := r.cell i c v e1 e2
    cases c with
    | no => trivial
    | fro d => exact q
    | own d => obtain ⟨p, e, q⟩ := q; exact ⟨p, e, (own q).2⟩
    | io d => obtain ⟨p, e, q⟩ := q; exact ⟨p, e, (own q).2⟩
  · cases e : F D with
    | none => rfl
    | some u => have q := r.dj D u e; rw [upd_same] at q; cases q
  · obtain ⟨p, e4, w⟩ := r.heldAt e1 e2
    rw [e3] at e4
    cases e4
    exact (own w).1 rfl
end
end
end Dt
set_option Elab.async false
set_option linter.all false
set_option maxRecDepth 100000
set_option maxHeartbeats 2000000
namespace Dt
open PySem PySem.Spec PyProof.Rows L2
variable [HW]
theorem drop_at {α : Type} {l : List α} {i : Nat} (h : i < l.length) : ∃ x, l[i]? = some x ∧ l.drop i = x :: l.drop (i + 1) := ⟨l[i], by simp [h], List.drop_eq_getElem_cons h⟩
section
variable {ex : Exx} {X : Cx} {W : WX} {a b c e tg : Expr} {es : List Expr} {pos p : Pos} {sa sb sc : SO} {ea eb : SE} {sB : SB} {sA : SA} {x : Str} {id : String}
theorem comp_core {G : Gx} {σ : L2.St} {H : Hp} {Q : VK} {it : SA} {g : SG} {t : ST} {s : SE} {js vs : List Nat} (hjs : js.all (fun j => vs.contains j) = true) (h : tF G W (sComp vs it g t s) σ H Q) :
    tLc (tI G W it) (tG G W0 js g) (tT G W0 t) (tE G W0 s) vs σ H Q := by
    obtain ⟨ρ, F, Rv, io, rel, q⟩ := h
    refine ⟨ρ, F, Rv, io, rel, ?_⟩
    unfold sComp at q
    cases e : it ρ with
    | stuck => rw [e] at q; exact q.elim
    | exc x ρ' => rw [e] at q; exact q
    | ok ds ρ1 =>
      rw [e, R.bind_ok] at q
      intro J H1 F1 le1 rel1 J1 Dl hD
      by_cases hp : plainAt ρ1 vs = true ∧ ds.length ≤ sizeLine
      case neg => rw [if_neg hp] at q; exact q.elim
      rw [if_pos hp] at q
      obtain ⟨hpl, hz⟩ := hp
      cases e2 : compGo vs g t s ds (wipeE ρ1 vs) with
      | stuck => rw [e2] at q; exact q.elim
      | exc x ρ' => rw [e2] at q; exact q.elim
      | ok zs ρe =>
        rw [e2] at q
        have nR : Rv Dl = none := rel1.rH.noneOf hD
        refine ⟨fun i m H => m = ds.length - i ∧ i ≤ ds.length ∧ ∃ (ρi : Env) (Fi : Hp) (acc : List V) (dn rest : List D), FLe F1 Fi ∧ Rel G.K io (upd Rv Dl (.lst acc)) ρi Fi (wipe σ vs) H ∧ acc.length ≤ i ∧ Rps G.K Fi acc dn ∧
          compGo vs g t s (ds.drop i) ρi = .ok rest ρe ∧ dn ++ rest = zs, ⟨ds.length, rfl.trans (Nat.sub_zero _).symm, Nat.zero_le _, wipeE ρ1 vs, F1, [], [], zs, FLe.refl _, (rel1.wiped hpl).resAdd hD _, Nat.le_refl _, .nil, e2, rfl⟩, ?_⟩
        rintro i m H ⟨rfl, hi, ρi, Fi, acc, dn, rest, lei, reli, hacc, racc, hgo, hzs⟩
        by_cases hlt : i < ds.length
        · obtain ⟨d, hd, hdr⟩ := drop_at hlt
          rw [hdr] at hgo
          unfold compGo at hgo
          refine .inr ⟨J1.go i Fi H lei reli.fH hlt, fun H' => ∃ (ρ2 : Env) (F2 : Hp) (acc2 : List V) (dn2 rest2 : List D), FLe F1 F2 ∧ Rel G.K io (upd Rv Dl (.lst acc2)) ρ2 F2 (wipe σ vs) H' ∧ acc2.length ≤ i + 1 ∧ Rps G.K F2 acc2 dn2 ∧
              compGo vs g t s (ds.drop (i + 1)) ρ2 = .ok rest2 ρe ∧ dn2 ++ rest2 = zs, fun H' z => ⟨ds.length - (i + 1), by omega, rfl, hlt, z⟩, fun xv H' y => ?_⟩
          obtain ⟨F2, nw, rp⟩ := J1.yld i Fi H H' xv d lei reli.fH hd y
          have rel2 := reli.after nw
          refine ⟨d, ρi, F2, _, io, rel2, rp, ?_⟩
          cases e3 : g d ρi with
          | stuck => rw [e3] at hgo; cases hgo
          | exc x ρ' => rw [e3] at hgo; cases hgo
          | ok u ρ3 =>
            rw [e3, R.bind_ok] at hgo
            intro σ3 H3 F3 le3 rel3 hj3
            have hjs' : ∀ j, j ∉ vs → σ3[j]? = (wipe σ vs)[j]? := fun j hj => hj3.2 j fun z => hj (by
              have w := List.all_eq_true.mp hjs j z
              simpa using w)
            have hl3 : σ3.length = σ.length := hj3.1.trans (wipe_length σ vs)
            have hw := wipe_same hl3 hjs'
            refine ⟨hw, ρ3, F3, _, io, rel3, ?_⟩
            cases e4 : t ρ3 with
            | stuck => rw [e4] at hgo; cases hgo
            | exc x ρ' => rw [e4] at hgo; cases hgo
            | ok k ρ4 =>
              rw [e4, R.bind_ok] at hgo
              intro H4 F4 le4 rel4
              cases k with
              | false =>
                refine iteF ?_
                have hgo : (if plainAt ρ4 vs = true then compGo vs g t s (ds.drop (i + 1)) (wipeE ρ4 vs) else .stuck) = R.ok rest ρe := hgo
                by_cases hp4 : plainAt ρ4 vs = true
                · rw [if_pos hp4] at hgo
                  have le := (nw.f.trans le3).trans le4
                  refine ⟨wipeE ρ4 vs, F4, acc, dn, rest, lei.trans le, ?_, Nat.le_succ_of_le hacc, racc.mono le, hgo, hzs⟩
                  have r := rel4.wiped hp4
                  rw [hw] at r
                  exact r
                · rw [if_neg hp4] at hgo; cases hgo
              | true =>
                refine iteT ⟨ρ4, F4, _, io, rel4, ?_⟩
                have hgo : ((s ρ4).bind fun z ρ3 => if plainAt ρ3 vs = true then (compGo vs g t s (ds.drop (i + 1)) (wipeE ρ3 vs)).bind fun zs ρ4 => .ok (z :: zs) ρ4 else .stuck) = R.ok rest ρe := hgo
                cases e5 : s ρ4 with
                | stuck => rw [e5] at hgo; cases hgo
                | exc x ρ' => rw [e5] at hgo; cases hgo
                | ok z ρ5 =>
                  rw [e5, R.bind_ok] at hgo
                  intro yv H5 F5 le5 rel5 rp5
                  by_cases hp5 : plainAt ρ5 vs = true
                  · rw [if_pos hp5] at hgo
                    cases e6 : compGo vs g t s (ds.drop (i + 1)) (wipeE ρ5 vs) with
                    | stuck => rw [e6] at hgo; cases hgo
                    | exc x ρ' => rw [e6] at hgo; cases hgo
                    | ok rest' ρ6 =>
                      rw [e6, R.bind_ok] at hgo
                      have eq1 : z :: rest' = rest ∧ ρ6 = ρe := by cases hgo; exact ⟨rfl, rfl⟩
                      obtain ⟨rfl, rfl⟩ := eq1
                      have le := ((nw.f.trans le3).trans le4).trans le5
                      refine ⟨acc, rel5.rH Dl _ upd_same, Nat.lt_of_le_of_lt hacc (Nat.lt_of_lt_of_le hlt hz), wipeE ρ5 vs, F5, acc ++ [yv], dn ++ [z], rest', lei.trans le, ?_, by rw [List.length_append]; simpa using hacc, (racc.mono le).append (.cons rp5 .nil), e6, by simp [← hzs]⟩
                      have r := rel5.wiped hp5
                      rw [hw] at r
                      exact r.resPut
                  · rw [if_neg hp5] at hgo; cases hgo
        · have hi2 : i = ds.length := by omega
          subst hi2
          rw [List.drop_eq_nil_of_le (Nat.le_refl _)] at hgo
          unfold compGo at hgo
          cases hgo
          refine .inl ⟨J1.stop Fi H lei reli.fH, ?_⟩
          obtain ⟨relD, n1, n2, lo⟩ := reli.resDrop nR
          have relB := rel1.back (vs := vs) relD lei hpl
          refine q Dl H Fi (le1.trans lei) relB ⟨n1, nR, _, n2, acc, rfl, ?_⟩ fun i c d e1 e2 e3 => ?_
          · rw [List.append_nil] at hzs
            subst hzs
            exact racc
          · have hlen : ρ1.length = ρe.length := by rw [rel1.len, relD.len, wipe_length]
            rw [(backE_get hlen vs).2] at e1
            by_cases hi : i ∈ vs
            · rw [if_pos hi] at e1
              rcases plain_at hpl hi e1 with z | ⟨_, z⟩ <;> (subst z; cases e2)
            · rw [if_neg hi] at e1
              exact lo i c d e1 e2 (by rw [wipe_get, if_neg hi]; exact e3)
theorem d_compF {elt iter : Expr} {ifs : List Expr} {scope : Scope} {own : List (Str × Nat)} {it : SA} {g : SG} {t : ST} {s : SE} {js : List Nat} (hu : At X W) (hi : DI (GK X ex) X W tg iter it) (ok : BlkOk X.N X.env.scope scope own)
    (hg : ∀ (s : Shared) (H : Hp) (C : Addr) (cl : List (Str × Addr)) (fp : List Addr), DG (GK X ex) (X.blk s H scope (compEnvC scope cl C X.env) fp) W0 js tg g)
    (ht : ∀ (s : Shared) (H : Hp) (C : Addr) (cl : List (Str × Addr)) (fp : List Addr), PTs (X.blk s H scope (compEnvC scope cl C X.env) fp) ifs (tT (GK X ex) W0 t))
    (he : ∀ (s' : Shared) (H : Hp) (C : Addr) (cl : List (Str × Addr)) (fp : List Addr), DE (GK X ex) (X.blk s' H scope (compEnvC scope cl C X.env) fp) W0 elt s) (hjs : js.all (fun j => (own.map (·.2)).contains j) = true) (hs : ∀ x, foldedSetIterable iter X.env x = pure x := by intro _; rfl) :
    DF (GK X ex) X W (.ListComp elt [⟨tg, iter, ifs, 0⟩] scope pos) (sComp (own.map (·.2)) it g t s) :=
  wkE (pe_lc hu.calm hu.nd hi ok hg ht he hs) fun σ H Q h => comp_core hjs h
def sAsg (g : SG) (s : SE) : SS := fun ρ => (s ρ).bind fun d ρ' => (g d ρ').bind fun _ ρ'' => .ok .nx ρ''
theorem asg_core {G : Gx} {σ : L2.St} {H : Hp} {D : Ends} {g : SG} {s : SE} {js : List Nat} (h : tS G W (sAsg g s) D σ H) : tE G W s σ H fun v H1 => tG G W js g v σ H1 D.nx := by
  obtain ⟨ρ, F, Rv, io, rel, q⟩ := h
  refine ⟨ρ, F, Rv, io, rel, ?_⟩
  unfold sAsg at q
  cases e : s ρ with
  | stuck => rw [e] at q; exact q.elim
  | exc x ρ' => rw [e] at q; exact q
  | ok d ρ' =>
    rw [e, R.bind_ok] at q
    intro v H' F' le rel' rp
    refine ⟨d, ρ', F', Rv, io, rel', rp, ?_⟩
    cases e2 : g d ρ' with
    | stuck => rw [e2] at q; exact q.elim
    | exc x ρ'' => rw [e2] at q; exact XPost.le q le
    | ok u ρ'' => rw [e2] at q; exact fun σ' H2 F2 le2 rel2 _ => q σ' H2 F2 (le.trans le2) rel2
theorem d_asg {g : SG} {js : List Nat} (he : DE (GK X ex) X W e ea) (hg : DG (GK X ex) X W js tg g) (hs : swapsWithSole [tg] e pos.line X.env = pure false := by rfl) (hw : swappedStores [tg] e X.env = pure none := by rfl)
    (h1 : (assignEach [tg] X.env).map (·.2) = [assign tg X.env] := by rfl) : DS (GK X ex) X W (.Assign [tg] e pos) (sAsg g ea) := wkS (ps_asg he hg hs hw h1) fun D σ H h => asg_core h
theorem d_setN {i : Nat} {pos' : Pos} (nd : X.N.Nodup) (hi : X.N[i]? = some x) (hx : Loc X.env.scope x) (he : DE (GK X ex) X W e ea) (hs : swapsWith e (some (.Name x pos')) pos.line X.env = pure false := by rfl) (hf : X.fn x = true ∨ X.env.scope.names.lookup x = some .local := by first | exact .inl rfl | exact .inr rfl | assumption) :
    DS (GK X ex) X W (.Assign [.Name x pos'] e pos) (sAsg (gSet i) ea) := wkS (ps_set nd hi hx he hs hf) fun D σ H h => tE_mono (asg_core (js := [i]) h) fun v H1 z => by
      obtain ⟨d, ρ, F, Rv, io, rel, rp, q⟩ := z
      show D.nx (σ.set i (some v)) H1
      cases e2 : gSet i d ρ with
      | stuck => rw [e2] at q; exact q.elim
      | exc x ρ'' => unfold gSet at e2; split at e2 <;> cases e2
      | ok u ρ'' =>
        rw [e2] at q
        obtain ⟨h1, rfl⟩ := gSet_ok e2
        exact q _ H1 F (FLe.refl F) (rel.setFro rp h1) ⟨List.length_set, fun j hj => List.getElem?_set_ne fun z => hj (by simp [z])⟩
theorem d_set {i : Nat} {pos' : Pos} (hu : At X W) (hi : X.N[i]? = some x) (hx : Loc X.env.scope x) (he : DE (GK X ex) X W e ea) (hs : swapsWith e (some (.Name x pos')) pos.line X.env = pure false := by rfl) (hf : X.fn x = true ∨ X.env.scope.names.lookup x = some .local := by first | exact .inl rfl | exact .inr rfl | assumption) :
    DS (GK X ex) X W (.Assign [.Name x pos'] e pos) (sAsg (gSet i) ea) := d_setN hu.nd hi hx he hs hf
/-- a new object becomes the variable's own -/
def gOwn (i : Nat) : SG := fun d ρ => match ρ[i]? with
  | some (.io _) => .stuck
  | none => .stuck
  | _ => .ok () (ρ.set i (.own d))
theorem gOwn_ok {ρ ρ' : Env} {i : Nat} {d : D} {u : Unit} (h : gOwn i d ρ = .ok u ρ') : (∀ e, ρ[i]? ≠ some (Cell.io e)) ∧ ρ' = ρ.set i (.own d) := by
  unfold gOwn at h
  split at h
  · cases h
  · cases h
  · rename_i h1 h2
    cases h
    exact ⟨fun e z => h1 e z, rfl⟩
theorem own_core {G : Gx} {σ : L2.St} {H : Hp} {D : Ends} {i : Nat} {s : SE} (h : tS G W (sAsg (gOwn i) s) D σ H) : tF G W s σ H fun v H1 => D.nx (σ.set i (some v)) H1 := by
  obtain ⟨ρ, F, Rv, io, rel, q⟩ := h
  refine ⟨ρ, F, Rv, io, rel, ?_⟩
  unfold sAsg at q
  cases e : s ρ with
  | stuck => rw [e] at q; exact q.elim
  | exc x ρ' => rw [e] at q; exact q
  | ok d ρ' =>
    rw [e, R.bind_ok] at q
    intro v H' F' le rel' ow lo
    cases e2 : gOwn i d ρ' with
    | stuck => rw [e2] at q; exact q.elim
    | exc x ρ'' => unfold gOwn at e2; split at e2 <;> cases e2
    | ok u ρ'' =>
      rw [e2] at q
      obtain ⟨h1, rfl⟩ := gOwn_ok e2
      exact q _ H' F' le (rel'.setOwn ow lo h1)
theorem d_setFN {i : Nat} {pos' : Pos} (nd : X.N.Nodup) (hi : X.N[i]? = some x) (hx : Loc X.env.scope x) (he : DF (GK X ex) X W e ea) (hs : swapsWith e (some (.Name x pos')) pos.line X.env = pure false := by rfl) (hf : X.fn x = true ∨ X.env.scope.names.lookup x = some .local := by first | exact .inl rfl | exact .inr rfl | assumption) :
    DS (GK X ex) X W (.Assign [.Name x pos'] e pos) (sAsg (gOwn i) ea) := wkS (ps_set nd hi hx he hs hf) fun D σ H h => own_core h
theorem d_setF {i : Nat} {pos' : Pos} (hu : At X W) (hi : X.N[i]? = some x) (hx : Loc X.env.scope x) (he : DF (GK X ex) X W e ea) (hs : swapsWith e (some (.Name x pos')) pos.line X.env = pure false := by rfl) (hf : X.fn x = true ∨ X.env.scope.names.lookup x = some .local := by first | exact .inl rfl | exact .inr rfl | assumption) :
    DS (GK X ex) X W (.Assign [.Name x pos'] e pos) (sAsg (gOwn i) ea) := d_setFN hu.nd hi hx he hs hf
def sExpr (s : SE) : SS := fun ρ => (s ρ).bind fun _ ρ' => .ok .nx ρ'
theorem d_expr (he : DE (GK X ex) X W e ea) (hs : swapsWith e none pos.line X.env = pure false := by rfl) : DS (GK X ex) X W (.Expr e pos) (sExpr ea) := wkS (ps_expr he hs) fun D σ H ⟨ρ, F, Rv, io, rel, q⟩ => by
  refine ⟨ρ, F, Rv, io, rel, ?_⟩
  unfold sExpr at q
  cases e : ea ρ with
  | stuck => rw [e] at q; exact q.elim
  | exc x ρ' => rw [e] at q; exact q
  | ok d ρ' => rw [e] at q; exact fun v H' F' le rel' _ => q σ H' F' le rel'
def sRet (s : SE) : SS := fun ρ => (s ρ).bind fun d ρ' => .ok (.rt d) ρ'
theorem d_ret (he : DE (GK X ex) X W e ea) : DS (GK X ex) X W (.Return (some e) pos) (sRet ea) := wkS (ps_ret he) fun D σ H ⟨ρ, F, Rv, io, rel, q⟩ => by
  refine ⟨ρ, F, Rv, io, rel, ?_⟩
  unfold sRet at q
  cases e : ea ρ with
  | stuck => rw [e] at q; exact q.elim
  | exc x ρ' => rw [e] at q; exact q
  | ok d ρ' => rw [e] at q; exact fun v H' F' le rel' rp => q v σ H' F' le rel' rp
def sNx : SS := fun ρ => .ok .nx ρ
def sSeq (a b : SS) : SS := fun ρ => (a ρ).bind fun f ρ' => match f with
  | .nx => b ρ'
  | f => .ok f ρ'
theorem SPost.le {G : Gx} {T : List (Addr × Str)} {io : Io T} {Rv F F1 : Hp} {r : R Fl} {D : Ends} (h : SPost G W io Rv F r D) (le : FLe F F1) : SPost G W io Rv F1 r D := by
  cases r with
  | stuck => exact h
  | exc x ρ' => exact XPost.le h le
  | ok f ρ' =>
    cases f with
    | nx => exact fun σ' H' F' l => h σ' H' F' (le.trans l)
    | bk => exact fun σ' H' F' l => h σ' H' F' (le.trans l)
    | ct => exact fun σ' H' F' l => h σ' H' F' (le.trans l)
    | rt d => exact fun v σ' H' F' l => h v σ' H' F' (le.trans l)
theorem d_snil : DSs (GK X ex) X W [] sNx := wkSs pss_nil fun D σ H ⟨ρ, F, Rv, io, rel, q⟩ => q σ H F (FLe.refl F) rel
theorem d_sone {st : Stmt} {s : SS} (h : DS (GK X ex) X W st s) : DSs (GK X ex) X W [st] s := pss_one h
theorem d_scons {st : Stmt} {rest : List Stmt} {s t : SS} (h : DS (GK X ex) X W st s) (h2 : DSs (GK X ex) X W rest t) : DSs (GK X ex) X W (st :: rest) (sSeq s t) := wkSs (pss_cons h h2) fun D σ H ⟨ρ, F, Rv, io, rel, q⟩ => by
  refine ⟨ρ, F, Rv, io, rel, ?_⟩
  unfold sSeq at q
  cases e : s ρ with
  | stuck => rw [e] at q; exact q.elim
  | exc x ρ' => rw [e] at q; exact q
  | ok f ρ' =>
    rw [e, R.bind_ok] at q
    cases f with
    | nx => exact fun σ' H' F' le rel' => ⟨ρ', F', Rv, io, rel', SPost.le q le⟩
    | bk => exact q
    | ct => exact q
    | rt d => exact q
def sIfS (t : ST) (a b : SS) : SS := fun ρ => (t ρ).bind fun k ρ' => match k with
  | true => a ρ'
  | false => b ρ'
theorem d_ifS {t : ST} {l r : List Stmt} {s u : SS} (hc : DT (GK X ex) X W c t) (h : DSs (GK X ex) X W l s) (h2 : DSs (GK X ex) X W r u) : DS (GK X ex) X W (.If c l r pos) (sIfS t s u) := wkS (ps_if hc h h2) fun D σ H ⟨ρ, F, Rv, io, rel, q⟩ => by
  refine ⟨ρ, F, Rv, io, rel, ?_⟩
  unfold sIfS at q
  cases e : t ρ with
  | stuck => rw [e] at q; exact q.elim
  | exc x ρ' => rw [e] at q; exact q
  | ok k ρ' =>
    rw [e, R.bind_ok] at q
    intro H' F' le rel'
    cases k with
    | true => exact iteT ⟨ρ', F', Rv, io, rel', SPost.le q le⟩
    | false => exact iteF ⟨ρ', F', Rv, io, rel', SPost.le q le⟩
/-- for .. in ..: one turn after another -/
def forGo (g : SG) (s : SS) : List D → SS
  | [], ρ => .ok .nx ρ
  | d :: ds, ρ => (g d ρ).bind fun _ ρ1 => (s ρ1).bind fun f ρ2 => match f with
    | .nx => forGo g s ds ρ2
    | .ct => forGo g s ds ρ2
    | .bk => .ok .nx ρ2
    | .rt d => .ok (.rt d) ρ2
def sFor (it : SA) (g : SG) (s : SS) : SS := fun ρ => (it ρ).bind fun ds ρ' => forGo g s ds ρ'
theorem d_for {iter : Expr} {body : List Stmt} {it : SA} {g : SG} {s : SS} {js : List Nat} (hu : At X W) (hp : PassesOwn (model X.prog X.w) X.A X.env X.xe) (hi : DI (GK X ex) X W tg iter it) (hg : DG (GK X ex) X W js tg g) (hb : DSs (GK X ex) X W body s)
    (hs : ∀ x, foldedSetIterable iter X.env x = pure x := by intro _; rfl) : DS (GK X ex) X W (.For tg iter body [] pos) (sFor it g s) := wkS (ps_for hp hu.calm hi hg hb hs) fun D σ H ⟨ρ, F, Rv, io, rel, q⟩ => by
  refine ⟨ρ, F, Rv, io, rel, ?_⟩
  unfold sFor at q
  cases e : it ρ with
  | stuck => rw [e] at q; exact q.elim
  | exc x ρ' => rw [e] at q; exact q
  | ok ds ρ1 =>
    rw [e, R.bind_ok] at q
    intro J H1 F1 le1 rel1 J1
    refine ⟨fun i m σ H => m = ds.length - i ∧ i ≤ ds.length ∧ ∃ (ρi : Env) (Fi : Hp), FLe F1 Fi ∧ Rel X.K io Rv ρi Fi σ H ∧ SPost (GK X ex) W io Rv Fi (forGo g s (ds.drop i) ρi) D, ⟨ds.length, rfl.trans (Nat.sub_zero _).symm, Nat.zero_le _, ρ1, F1, FLe.refl _, rel1, SPost.le q le1⟩, ?_⟩
    rintro i m σ H ⟨rfl, hi, ρi, Fi, lei, reli, qi⟩
    by_cases hlt : i < ds.length
    · obtain ⟨d, hd, hdr⟩ := drop_at hlt
      rw [hdr] at qi
      unfold forGo at qi
      refine .inr ⟨J1.go i Fi H lei reli.fH hlt, fun σ H => ∃ (ρi : Env) (Fi : Hp), FLe F1 Fi ∧ Rel X.K io Rv ρi Fi σ H ∧ SPost (GK X ex) W io Rv Fi (forGo g s (ds.drop (i + 1)) ρi) D, fun σ' H' z => ⟨ds.length - (i + 1), by omega, rfl, hlt, z⟩, fun xv H' y => ?_⟩
      obtain ⟨F2, nw, rp⟩ := J1.yld i Fi H H' xv d lei reli.fH hd y
      refine ⟨d, ρi, F2, Rv, io, reli.after nw, rp, ?_⟩
      cases e3 : g d ρi with
      | stuck => rw [e3] at qi; exact qi.elim
      | exc x ρ' => rw [e3] at qi; exact XPost.le qi nw.f
      | ok u ρ3 =>
        rw [e3, R.bind_ok] at qi
        intro σ3 H3 F3 le3 rel3 _
        refine ⟨ρ3, F3, Rv, io, rel3, ?_⟩
        cases e4 : s ρ3 with
        | stuck => rw [e4] at qi; exact qi.elim
        | exc x ρ' => rw [e4] at qi; exact XPost.le qi (nw.f.trans le3)
        | ok f ρ4 =>
          rw [e4, R.bind_ok] at qi
          have le := nw.f.trans le3
          cases f with
          | nx => exact fun σ4 H4 F4 le4 rel4 => ⟨ρ4, F4, lei.trans (le.trans le4), rel4, SPost.le qi (le.trans le4)⟩
          | ct => exact fun σ4 H4 F4 le4 rel4 => ⟨ρ4, F4, lei.trans (le.trans le4), rel4, SPost.le qi (le.trans le4)⟩
          | bk => exact fun σ4 H4 F4 le4 rel4 => qi σ4 H4 F4 (le.trans le4) rel4
          | rt d => exact fun v σ4 H4 F4 le4 rel4 => qi v σ4 H4 F4 (le.trans le4) rel4
    · have hi2 : i = ds.length := by omega
      subst hi2
      rw [List.drop_eq_nil_of_le (Nat.le_refl _)] at qi
      unfold forGo at qi
      exact .inl ⟨J1.stop Fi H lei reli.fH, qi σ H Fi (FLe.refl _) reli⟩
end
end Dt
set_option Elab.async false
set_option linter.all false
set_option maxRecDepth 100000
set_option maxHeartbeats 2000000
namespace Dt
open PySem PySem.Spec PyProof.Rows L2
variable [HW]
section
variable {ex : Exx} {X : Cx} {W : WX} {a b c e o tg : Expr} {es : List Expr} {pos p : Pos} {sa sb sc : SO} {ea eb : SE} {sB : SB} {sA : SA} {x : Str} {id : String}
def dPut (ks : List Key) (ds : List D) (k : Key) (z : D) : List Key × List D :=
  if (ks.any fun k' => decide (k' = k)) = true then (ks, List.zipWith (fun k' d => if k' = k then z else d) ks ds) else (ks ++ [k], ds ++ [z])
theorem dPut_put {K : PySem.W.Frag} {F : Hp} {k : Key} {v : V} {z : D} (rv : Rp K F v z) {kvs : List (Key × V)} {ds : List D} (r : Rps K F (kvs.map (·.2)) ds) :
    ((putK kvs k v).map (·.1)) = (dPut (kvs.map (·.1)) ds k z).1 ∧ Rps K F ((putK kvs k v).map (·.2)) (dPut (kvs.map (·.1)) ds k z).2 := by
  unfold putK dPut
  rw [List.any_map]
  by_cases h : (kvs.any fun kv => decide (kv.1 = k)) = true
  · have h' : (kvs.any ((fun k' => decide (k' = k)) ∘ fun x => x.1)) = true := h
    rw [if_pos h, if_pos h']
    refine ⟨?_, ?_⟩
    · show List.map _ _ = List.map _ kvs
      rw [List.map_map]
      refine List.map_congr_left fun kv _ => ?_
      show (if kv.1 = k then (kv.1, v) else kv).1 = kv.1
      split <;> rfl
    · clear h h'
      induction kvs generalizing ds with
      | nil => cases r; exact .nil
      | cons kv kvs ih =>
        cases r with
        | cons r1 rr =>
          simp only [List.map_cons, List.zipWith_cons_cons]
          refine .cons ?_ (ih rr)
          split
          · exact rv
          · exact r1
  · have h' : ¬ (kvs.any ((fun k' => decide (k' = k)) ∘ fun x => x.1)) = true := h
    rw [if_neg h, if_neg h', List.map_append, List.map_append]
    exact ⟨rfl, r.append (.cons rv .nil)⟩
/-- the new content -/
def putD (d i z : D) : Option D := match d with
  | .lst xs => match i with
    | .int j => (ixN xs.length j).map fun n => .lst (xs.set n z)
    | _ => none
  | .dct ks ds => (keyOf i).bind fun k => if ks.length < sizeLine then some (.dct (dPut ks ds k z).1 (dPut ks ds k z).2) else none
  | _ => none
def rSetA : TSet := fun o i v H Q => rSetL o i v H Q ∨ ∃ a H', o = .ref a ∧ DPut H a i v H' ∧ Q H'
theorem set_any (hu : X.A.units + 64 < cLine) : PSet X rSetA := by
  intro pins s σ H o i v ov iv u Q I ro ri rv h
  rcases h with h | ⟨a, H', rfl, hp, q⟩
  · exact set_list pins s σ H o i v ov iv u Q I ro ri rv h
  · obtain rfl : ov = Value.ref a := ro
    exact d_setItem (by omega) I hp ri rv fun s' I' => ⟨H', I', q⟩
/-- the variable at i: its own list or dict, what it holds -/
def held (ρ : Env) (i : Nat) : Option D := (ρ[i]?).bind Cell.held
def put (ρ : Env) (i : Nat) (d : D) : Env := match ρ[i]? with
  | some c => ρ.set i (c.put d)
  | none => ρ
theorem put_own {G : Gx} {T : List (Addr × Str)} {io : Io T} {Rv F H : Hp} {ρ : Env} {σ : L2.St} {i : Nat} {d d' : D} (r : Rel G.K io Rv ρ F σ H) (h : held ρ i = some d) : ∃ p ob, σ[i]? = some (some (.ref p)) ∧ H p = some ob ∧ OwnObj G.K F p ob d ∧ ∀ ob', OwnObj G.K F p ob' d' → Rel G.K io Rv (put ρ i d') F σ (upd H p ob') := by
  unfold held at h
  cases e : ρ[i]? with
  | none => rw [e] at h; cases h
  | some c =>
    rw [e] at h
    have h : c.held = some d := h
    obtain ⟨p, e1, w⟩ := r.heldAt e h
    obtain ⟨ob, e2, e3⟩ := w.at_
    refine ⟨p, ob, e1, e2, e3, fun ob' ho => ?_⟩
    have q := r.write e h e1 ho
    unfold put
    rw [e]
    exact q
theorem putD_set {G : Gx} {F H : Hp} {d i z d' : D} {p : Addr} {ob : HO} {iv v : V} {Q : Hp → Prop} (fh : FLe F H) (hp : H p = some ob) (ho : OwnObj G.K F p ob d) (hi : Vw G.K F H iv i) (hv : Rp G.K F v z) (e : putD d i z = some d')
    (q : ∀ ob', OwnObj G.K F p ob' d' → Q (upd H p ob')) : rSetA (.ref p) iv v H Q := by
  cases d with
  | lst xs =>
    cases i with
    | int j =>
      obtain ⟨vs, rfl, r⟩ := ho
      simp only [putD] at e
      cases e2 : ixN xs.length j with
      | none => rw [e2] at e; cases e
      | some n =>
        rw [e2] at e
        cases e
        exact .inl ⟨p, vs, j, n, rfl, hi.int, hp, by rw [r.length]; exact e2, q _ ⟨_, rfl, r.set n hv⟩⟩
    | _ => simp only [putD] at e; cases e
  | dct ks ds =>
    obtain ⟨kvs, rfl, rfl, r⟩ := ho
    simp only [putD] at e
    cases e2 : keyOf i with
    | none => rw [e2] at e; cases e
    | some k =>
      rw [e2, Option.bind_some] at e
      split at e
      · rename_i hz
        cases e
        have ei := keyOf_vw hi e2
        subst ei
        obtain ⟨h1, h2⟩ := dPut_put (k := k) hv r
        exact .inr ⟨p, _, rfl, .inl ⟨kvs, k, hp, rfl, by simpa using hz, rfl⟩, q _ ⟨_, rfl, h1, h2⟩⟩
      · cases e
  | _ => simp only [putD] at e; cases e
/-- x[k] = ..; x is looked at ahead of k, changed behind it -/
def gPut (i : Nat) (sk : SO) : SG := fun z ρ => match held ρ i with
  | none => .stuck
  | some _ => (sk ρ).bind fun o ρ' => match held ρ' i, o.get ρ' with
    | some d, some k => match putD d k z with
      | some d' => .ok () (put ρ' i d')
      | none => .stuck
    | _, _ => .stuck
theorem d_gPut {i : Nat} (hu : At X W) (ho : PE X o (tVar i)) (hi : DO (GK X ex) X W e sa)
    (ha : ∀ v, assign (.Subscript o e pos) X.env v = (do
      let ov ← holding [v] (eval o X.env)
      let iv ← holding [v, ov] (eval e X.env)
      standAt pos
      holding [v, ov, iv] (setItem ov iv v)
      release [v, ov, iv] []) := by intro _; rfl) : DG (GK X ex) X W [] (.Subscript o e pos) (gPut i sa) :=
  wkG (pg_sub ho hi (set_any hu.un) ha) fun v σ H Q ⟨z, ρ, F, Rv, io, rel, rp, q⟩ => by
    unfold gPut at q
    cases e1 : held ρ i with
    | none => rw [e1] at q; exact q.elim
    | some d0 =>
      rw [e1] at q
      obtain ⟨p, ob, e2, e3, e4, _⟩ := put_own (G := GK X ex) (d' := d0) rel e1
      refine ⟨_, e2, ρ, F, Rv, io, rel, ?_⟩
      cases e5 : sa ρ with
      | stuck => rw [e5] at q; exact q.elim
      | exc x ρ' => rw [e5] at q; exact q
      | ok o' ρ' =>
        rw [e5] at q
        simp only [R.bind_ok] at q
        intro iv H' F' le rel' ok
        cases e6 : held ρ' i with
        | none => rw [e6] at q; exact q.elim
        | some d =>
          cases e7 : o'.get ρ' with
          | none => rw [e6, e7] at q; exact q.elim
          | some k =>
            rw [e6, e7] at q
            simp only at q
            cases e8 : putD d k z with
            | none => rw [e8] at q; exact q.elim
            | some d' =>
              rw [e8] at q
              obtain ⟨p', ob', e9, e10, e11, e12⟩ := put_own (G := GK X ex) (d' := d') rel' e6
              rw [e2] at e9
              cases e9
              exact putD_set (G := GK X ex) rel'.fH e10 e11 (rel'.view (G := GK X ex) ok e7) (rp.mono le) e8 fun ob2 h2 => q σ _ F' le (e12 ob2 h2) ⟨rfl, fun _ _ => rfl⟩
def heldL (ρ : Env) (i : Nat) : Option (List D) := match held ρ i with
  | some (.lst ds) => some ds
  | _ => none
theorem heldL_some {ρ : Env} {i : Nat} {ds : List D} (h : heldL ρ i = some ds) : held ρ i = some (.lst ds) := by
  unfold heldL at h
  split at h
  · rename_i e; cases h; exact e
  · cases h
/-- a method that changes a list: the result and the new content -/
def sMut (i : Nat) (f : List D → List D → Option (D × List D)) (s : SA) : SE := fun ρ => match heldL ρ i with
  | none => .stuck
  | some _ => (s ρ).bind fun es ρ' => match heldL ρ' i with
    | none => .stuck
    | some ds => match f ds es with
      | some r => .ok r.1 (put ρ' i (.lst r.2))
      | none => .stuck
/-- the rule r changes lists so -/
def LMut (G : Gx) (r : V → List V → Hp → VK → Prop) (f : List D → List D → Option (D × List D)) : Prop := ∀ F H p vs ds xs es z ds' (Q : VK), FLe F H → H p = some (.lst vs) → Rps G.K F vs ds → Rps G.K F xs es → f ds es = some (z, ds') →
  (∀ v vs', Rp G.K F v z → Rps G.K F vs' ds' → Q v (upd H p (.lst vs'))) → r (.ref p) xs H Q
theorem mut_core {i : Nat} {f : List D → List D → Option (D × List D)} {r : V → List V → Hp → VK → Prop} {σ : L2.St} {H : Hp} {Q : VK} (hf : LMut (GK X ex) r f)
    (h : tE (GK X ex) W (sMut i f sA) σ H Q) : tBM X.K "list" r (tVar i) (tA (GK X ex) W sA) σ H Q := by
  obtain ⟨ρ, F, Rv, io, rel, q⟩ := h
  unfold sMut at q
  cases e1 : heldL ρ i with
  | none => rw [e1] at q; exact q.elim
  | some ds0 =>
    rw [e1] at q
    obtain ⟨p, ob, e2, e3, e4, _⟩ := put_own (G := GK X ex) (d' := .lst ds0) rel (heldL_some e1)
    obtain ⟨vs0, rfl, r0⟩ := e4
    refine ⟨_, e2, .inl ⟨rfl, _, SqL.of e3⟩, ρ, F, Rv, io, rel, ?_⟩
    cases e5 : sA ρ with
    | stuck => rw [e5] at q; exact q.elim
    | exc x ρ' => rw [e5] at q; exact q
    | ok es ρ' =>
      rw [e5] at q
      simp only [R.bind_ok] at q
      intro xs H' F' le rel' rx
      cases e6 : heldL ρ' i with
      | none => rw [e6] at q; exact q.elim
      | some ds =>
        rw [e6] at q
        cases e8 : f ds es with
        | none => simp only [e8] at q
        | some z =>
          simp only [e8] at q
          obtain ⟨p', ob', e9, e10, e11, e12⟩ := put_own (G := GK X ex) (d' := .lst z.2) rel' (heldL_some e6)
          rw [e2] at e9
          cases e9
          obtain ⟨vs, rfl, r1⟩ := e11
          exact hf F' H' p vs ds xs es z.1 z.2 Q rel'.fH e10 r1 rx e8 fun v vs' rv rvs => q v _ F' le (e12 _ ⟨_, rfl, rvs⟩) rv
def mAppend (ds es : List D) : Option (D × List D) := match es with
  | [d] => if ds.length < sizeLine then some (.non, ds ++ [d]) else none
  | _ => none
theorem lmut_append {G : Gx} : LMut G rAppend mAppend := fun F H p vs ds xs es z ds' Q fh hp r rx e q => by
  unfold mAppend at e
  split at e
  · split at e
    · rename_i hz
      cases e
      cases rx with
      | cons a b => cases b; exact ⟨p, vs, _, rfl, rfl, hp, by rw [r.length]; exact hz, q _ _ .non (r.append (.cons a .nil))⟩
    · cases e
  · cases e
theorem d_mut {i : Nat} {name : Str} {apos cpos : Pos} {r : V → List V → Hp → VK → Prop} {f : List D → List D → Option (D × List D)} (slot : Slot "list" name id) (hty : typeOf (.builtin id) = pure (.type "method_descriptor")) (hm : MtR X id r) (hf : LMut (GK X ex) r f)
    (ho : PE X o (tVar i)) (ha : DA (GK X ex) X W (e :: es) sA) (hbase : attributeBase o name X.env (eval o X.env) = eval o X.env := by rfl)
    (hfew : ((backTo cpos (starEach (e :: es) X.env)).all (fun x => !x.1) && (backToKw cpos (keywordEach [] X.env)).all (fun x => x.1.isSome)
      && decide ((e :: es).length + ([] : List Keyword).length + (if ([] : List Keyword).isEmpty then 0 else 1) < 30)) = true := by rfl)
    (hline : (apos.endLine == cpos.line) = true := by rfl) (hs : starEach (e :: es) X.env = (false, eval e X.env) :: starEach es X.env := by rfl) (hplain : (backTo cpos (starEach es X.env)).any (·.1) = false := by rfl) :
    DE (GK X ex) X W (.Call (.Attribute o name apos) (e :: es) [] cpos) (sMut i f sA) :=
  wkE (pe_bm PySem.F.plainAttrs_list slot hty hm ho ha hbase hfew hline hs hplain) fun σ H Q h => mut_core hf h
structure Apart (F Rv H : Hp) : Prop where
  f : FLe F H
  r : FLe Rv H
  d : ∀ a o, F a = some o → Rv a = none
  nt : NoTb F
/-- a def that computes g on frozen data -/
def spP (G : Gx) (n : Nat) (g : List D → FR) : Sp := fun vs H Q E => ∃ ds F Rv, vs.length = n ∧ Apart F Rv H ∧ Rps G.K F vs ds ∧ match g ds with
  | .ok d _ => ∀ v H' F', FLe F F' → Apart F' Rv H' → Rp G.K F' v d → Q v H'
  | .exc x => ∀ cls dd H' F', FLe F F' → Apart F' Rv H' → XR G F' x cls dd H' → E cls dd H'
  | .stuck => False
/-- .. on a list or dict that it is lent first, and on frozen data -/
def spI (G : Gx) (n : Nat) (g : List D → FR) : Sp := fun vs H Q E => ∃ p ws d0 ds F Rv, vs = .ref p :: ws ∧ vs.length = n ∧ Apart F Rv H ∧ OwnAt G.K F Rv H p d0 ∧ Rps G.K F ws ds ∧ match g (d0 :: ds) with
  | .ok d [z] => ∀ v H' F', FLe F F' → Apart F' Rv H' → OwnAt G.K F' Rv H' p z → Rp G.K F' v d → Q v H'
  | .exc x => ∀ cls dd H' F', FLe F F' → Apart F' Rv H' → OwnAt G.K F' Rv H' p d0 → XR G F' x cls dd H' → E cls dd H'
  | _ => False
def endP (r : FR) (ρ : Env) : R D := match r with
  | .ok d _ => .ok d ρ
  | .exc x => .exc x ρ
  | .stuck => .stuck
def sCallP (n : Nat) (g : List D → FR) (s : SA) : SE := fun ρ => (s ρ).bind fun ds ρ' => if ds.length = n then endP (g ds) ρ' else .stuck
def endI (i : Nat) (r : FR) (ρ : Env) : R D := match r with
  | .ok d [z] => .ok d (put ρ i z)
  | .exc x => match held ρ i with
    | some d0 => .exc x (put ρ i d0)
    | none => .stuck
  | _ => .stuck
/-- the first argument is the variable at i, which it is lent -/
def sCallI (i n : Nat) (g : List D → FR) (s : SA) : SE := fun ρ => match held ρ i with
  | none => .stuck
  | some _ => (s ρ).bind fun ds ρ' => match held ρ' i with
    | none => .stuck
    | some d0 => if ds.length + 1 = n then endI i (g (d0 :: ds)) ρ' else .stuck
section
variable {K : PySem.W.Frag} {T : List (Addr × Str)} {io : Io T} {Rv : Hp} {ρ : Env} {F F' : Hp} {σ : L2.St} {H H' : Hp}
/-- all that is not frozen, but p -/
def restOf (F H : Hp) (p : Option Addr) : Hp := fun a => if F a = none ∧ p ≠ some a then H a else none
theorem restOf_le (p : Option Addr) : FLe (restOf F H p) H := fun a o e => by
  unfold restOf at e
  split at e
  · exact e
  · cases e
theorem restOf_apart (r : Rel K io Rv ρ F σ H) (p : Option Addr) : Apart F (restOf F H p) H := ⟨r.fH, restOf_le p, (fun a o e => by
  unfold restOf
  rw [if_neg (fun z => by rw [e] at z; cases z.1)]), r.nt⟩
theorem Rel.behind (r : Rel K io Rv ρ F σ H) (le : FLe F F') (ap : Apart F' (restOf F H none) H') : Rel K io Rv ρ F' σ H' := by
  have keep : ∀ {a o}, F a = none → H a = some o → H' a = some o ∧ F' a = none := fun {a o} n e => by
    have q : restOf F H none a = some o := by
      unfold restOf
      rw [if_pos ⟨n, by intro z; cases z⟩]
      exact e
    refine ⟨ap.r _ _ q, ?_⟩
    cases e' : F' a with
    | none => rfl
    | some u => have z := ap.d a u e'; rw [q] at z; cases z
  have nF : ∀ {a o}, Rv a = some o → F a = none := fun {a o} e => by
    cases e' : F a with
    | none => rfl
    | some u => have z := r.dj a u e'; rw [e] at z; cases z
  refine ⟨ap.f, fun a o e => (keep (nF e) (r.rH a o e)).1, fun a o e => ?_, r.len, fun i c v e1 e2 => ?_, r.inj, r.ios, r.ioc, fun t ht => let q := r.tab t ht; let ⟨ps, ep⟩ := q.tbl; q.mv (keep q.1 ep).2 q.2.1 (fun ps e => (keep q.1 e).1) le q.nR, ap.nt⟩
  · cases e' : Rv a with
    | none => rfl
    | some u => have z := (keep (nF e') (r.rH a u e')).2; rw [e] at z; cases z
  · have q := r.cell i c v e1 e2
    have own : ∀ {p d}, OwnAt K F Rv H p d → OwnAt K F' Rv H' p d := fun {p d} w => by
      obtain ⟨o, e, h⟩ := w.at_
      obtain ⟨k1, k2⟩ := keep w.nF e
      exact ⟨k2, w.nR, o, k1, h.mono le⟩
    cases c with
    | no => trivial
    | fro d => obtain ⟨x, e, q⟩ := q; exact ⟨x, e, q.mono le⟩
    | own d => obtain ⟨p, e, q⟩ := q; exact ⟨p, e, own q⟩
    | io d => obtain ⟨p, e, q⟩ := q; exact ⟨p, e, own q⟩
theorem Rel.behindI (r : Rel K io Rv ρ F σ H) {i : Nat} {c : Cell} {d0 z : D} {p : Addr} (hc : ρ[i]? = some c) (hh : c.held = some d0) (hp : σ[i]? = some (some (.ref p))) (le : FLe F F') (ap : Apart F' (restOf F H (some p)) H') (ow : OwnAt K F' (restOf F H (some p)) H' p z) :
    Rel K io Rv (ρ.set i (c.put z)) F' σ H' := by
  have keep : ∀ {a o}, a ≠ p → F a = none → H a = some o → H' a = some o ∧ F' a = none := fun {a o} ne n e => by
    have q : restOf F H (some p) a = some o := by
      unfold restOf
      rw [if_pos ⟨n, by intro z; cases z; exact ne rfl⟩]
      exact e
    refine ⟨ap.r _ _ q, ?_⟩
    cases e' : F' a with
    | none => rfl
    | some u => have z := ap.d a u e'; rw [q] at z; cases z
  obtain ⟨p', e1, w⟩ := r.heldAt hc hh
  rw [hp] at e1; cases e1
  have hil : i < ρ.length := (List.getElem?_eq_some_iff.mp hc).1
  have nF : ∀ {a o}, Rv a = some o → F a = none := fun {a o} e => by
    cases e' : F a with
    | none => rfl
    | some u => have z := r.dj a u e'; rw [e] at z; cases z
  have nP : ∀ {a o}, Rv a = some o → a ≠ p := fun {a o} e z => by subst z; rw [w.nR] at e; cases e
  have hp2 : (c.put z).held = some z := by cases c <;> first | rfl | cases hh
  refine ⟨ap.f, fun a o e => (keep (nP e) (nF e) (r.rH a o e)).1, fun a o e => ?_, by rw [List.length_set]; exact r.len, fun j cj v e1 e2 => ?_, fun j k cj ck dj dk q h1 h2 h3 h4 h5 h6 => ?_, fun ip hip => ?_, fun j d' e => ?_, fun t ht => let q := r.tab t ht; let ⟨ps, ep⟩ := q.tbl; q.mv (keep (own_ne w ep) q.1 ep).2 q.2.1 (fun ps e => (keep (own_ne w e) q.1 e).1) le q.nR, ap.nt⟩
  · cases e' : Rv a with
    | none => rfl
    | some u => have z := (keep (nP e') (nF e') (r.rH a u e')).2; rw [e] at z; cases z
  · by_cases hj : i = j
    · subst hj
      rw [List.getElem?_set_self hil] at e1
      cases e1
      rw [hp] at e2; cases e2
      have own : OwnAt K F' Rv H' p z := ⟨ow.nF, w.nR, ow.at_⟩
      cases c with
      | no => cases hh
      | fro _ => cases hh
      | own _ => exact ⟨p, rfl, own⟩
      | io _ => exact ⟨p, rfl, own⟩
    · rw [List.getElem?_set_ne hj] at e1
      have q := r.cell j cj v e1 e2
      have own : ∀ {p' dj}, cj.held = some dj → v = some (.ref p') → OwnAt K F Rv H p' dj → OwnAt K F' Rv H' p' dj := fun {p' dj} h3 h4 w' => by
        have ne : p' ≠ p := fun z => by
          subst z
          rw [h4] at e2
          exact hj (r.inj i j c cj d0 dj p' hc e1 hh h3 hp e2)
        obtain ⟨o, e, h⟩ := w'.at_
        obtain ⟨k1, k2⟩ := keep ne w'.nF e
        exact ⟨k2, w'.nR, o, k1, h.mono le⟩
      cases cj with
      | no => trivial
      | fro d => obtain ⟨x, e, q⟩ := q; exact ⟨x, e, q.mono le⟩
      | own dj => obtain ⟨p', e, q⟩ := q; exact ⟨p', e, own rfl e q⟩
      | io dj => obtain ⟨p', e, q⟩ := q; exact ⟨p', e, own rfl e q⟩
  · have old : ∀ {j : Nat} {cj : Cell} {dj : D}, (ρ.set i (c.put z))[j]? = some cj → cj.held = some dj → ∃ cj' dj', ρ[j]? = some cj' ∧ cj'.held = some dj' := fun {j cj dj} e1 e2 => by
      by_cases hj : i = j
      · subst hj; exact ⟨c, d0, hc, hh⟩
      · rw [List.getElem?_set_ne hj] at e1; exact ⟨cj, dj, e1, e2⟩
    obtain ⟨_, _, g1, g2⟩ := old h1 h3
    obtain ⟨_, _, g3, g4⟩ := old h2 h4
    exact r.inj j k _ _ _ _ q g1 g3 g2 g4 h5 h6
  · obtain ⟨⟨d', e1⟩, e2⟩ := r.ios ip hip
    refine ⟨?_, e2⟩
    by_cases hj : i = ip.1
    · subst hj
      rw [hc] at e1; cases e1
      exact ⟨z, by rw [List.getElem?_set_self hil]; rfl⟩
    · exact ⟨d', by rw [List.getElem?_set_ne hj]; exact e1⟩
  · by_cases hj : i = j
    · subst hj
      rw [List.getElem?_set_self hil] at e
      cases c with
      | no => cases hh
      | fro _ => cases hh
      | own _ => cases e
      | io d'' => exact r.ioc i d'' hc
    · rw [List.getElem?_set_ne hj] at e; exact r.ioc j d' e
end
/-- a def that may be called by its name -/
structure Cal (P : Program) (w : World) (K : PySem.W.Frag) (mg : Str → Option Value) (base : Heap) (x : Str) (k : Nat) (sp : Sp) : Prop where
  there : ∃ f fd ps, FnOk P w K mg base (L2N.CX P w) k f fd ps sp ∧ mg x = some (.ref f) ∧ PySem.W.keepIn K (.ref f) = true ∧ Binds K fd ps []
/-- a def of the text as it stands -/
structure Fn (K : PySem.W.Frag) (mg : Str → Option Value) (x : Str) (st : Stmt) (ps : List Str) : Prop where
  there : ∃ f fd, Fun K x x st f fd ∧ mg x = some (.ref f) ∧ Binds K fd ps []
theorem Cal.mono {P : Program} {w : World} {K : PySem.W.Frag} {mg : Str → Option Value} {base : Heap} {x : Str} {j k : Nat} {sp : Sp} (C : Cal P w K mg base x j sp) (h : j ≤ k) : Cal P w K mg base x k sp := by
  obtain ⟨f, fd, ps, F, r⟩ := C.there
  exact ⟨f, fd, ps, F.mono h, r⟩
variable {f : Addr} {fd : FuncData} {ps : List Str} {k n : Nat} {g : List D → FR}
theorem d_callP (hu : At X W) (C : Cal X.prog X.w X.K X.mg X.base x k (spP (GK X ex) n g)) (hr : Room k X.A) (hg : Gl X x)
    (ha : DA (GK X ex) X W (e :: es) sA) (hdb : (x == ("__debug__" : Str)) = false := by decide) (he : starEach (e :: es) X.env = (false, eval e X.env) :: starEach es X.env := by rfl) (hpl : (backTo pos (starEach es X.env)).any (·.1) = false := by rfl) :
    DE (GK X ex) X W (.Call (.Name x p) (e :: es) [] pos) (sCallP n g sA) :=
  let ⟨f, fd, ps, F, hm, hk, hb⟩ := C.there
  wkE (pe_callS (E := WE W) F hr hg hm hk hb (fun σ => L2N.passAt hu.tk σ) ha hdb he hpl) fun σ H Q ⟨ρ, F, Rv, io, rel, q⟩ => by
    refine ⟨ρ, F, Rv, io, rel, ?_⟩
    unfold sCallP at q
    cases e : sA ρ with
    | stuck => rw [e] at q; exact q.elim
    | exc x ρ' => rw [e] at q; exact q
    | ok ds ρ' =>
      rw [e, R.bind_ok] at q
      intro vs H1 F1 le rel1 r
      by_cases hn : ds.length = n
      · rw [if_pos hn] at q
        refine ⟨ds, F1, restOf F1 H1 none, r.length.trans hn, restOf_apart rel1 none, r, ?_⟩
        cases e2 : g ds with
        | stuck => rw [e2] at q; exact q.elim
        | ok d o => rw [e2] at q; exact fun v H' F' le2 ap rp => q v H' F' (le.trans le2) (rel1.behind le2 ap) rp
        | exc x => rw [e2] at q; exact fun cls dd H' F' le2 ap xr => q cls dd σ H' F' (le.trans le2) (rel1.behind le2 ap) xr
      · rw [if_neg hn] at q; exact q.elim
theorem d_callI {i : Nat} (hu : At X W) (C : Cal X.prog X.w X.K X.mg X.base x k (spI (GK X ex) n g)) (hr : Room k X.A) (hg : Gl X x)
    (ho : PE X e (tVar i)) (ha : DA (GK X ex) X W es sA) (hdb : (x == ("__debug__" : Str)) = false := by decide) (he : starEach (e :: es) X.env = (false, eval e X.env) :: starEach es X.env := by rfl) (hpl : (backTo pos (starEach es X.env)).any (·.1) = false := by rfl) :
    DE (GK X ex) X W (.Call (.Name x p) (e :: es) [] pos) (sCallI i n g sA) :=
  let ⟨f, fd, ps, F, hm, hk, hb⟩ := C.there
  wkE (pe_callS (E := WE W) F hr hg hm hk hb (fun σ => L2N.passAt hu.tk σ) (pa_cons ho ha he) hdb he hpl) fun σ H Q ⟨ρ, F, Rv, io, rel, q⟩ => by
    unfold sCallI at q
    cases e0 : held ρ i with
    | none => rw [e0] at q; exact q.elim
    | some d00 =>
      rw [e0] at q
      obtain ⟨p0, _, e1, _⟩ := put_own (G := GK X ex) (d' := d00) rel e0
      refine ⟨_, e1, ρ, F, Rv, io, rel, ?_⟩
      cases e : sA ρ with
      | stuck => rw [e] at q; exact q.elim
      | exc x ρ' => rw [e] at q; exact q
      | ok ds ρ' =>
        rw [e] at q
        simp only [R.bind_ok] at q
        intro vs H1 F1 le rel1 r
        cases e2 : held ρ' i with
        | none => rw [e2] at q; exact q.elim
        | some d0 =>
          rw [e2] at q
          by_cases hn : ds.length + 1 = n
          · simp only [if_pos hn] at q
            obtain ⟨c, hc, hh⟩ : ∃ c, ρ'[i]? = some c ∧ c.held = some d0 := by
              unfold held at e2
              cases e3 : ρ'[i]? with
              | none => rw [e3] at e2; cases e2
              | some c => rw [e3] at e2; exact ⟨c, rfl, e2⟩
            obtain ⟨p', e4, w⟩ := rel1.heldAt hc hh
            rw [e1] at e4
            cases e4
            have nR : restOf F1 H1 (some p0) p0 = none := by unfold restOf; rw [if_neg (fun z => z.2 rfl)]
            refine ⟨p0, vs, d0, ds, F1, restOf F1 H1 (some p0), rfl, by rw [List.length_cons, r.length]; exact hn, restOf_apart rel1 _, ⟨w.nF, nR, w.at_⟩, r, ?_⟩
            cases e5 : g (d0 :: ds) with
            | stuck => rw [e5] at q; exact q.elim
            | exc x =>
              rw [e5] at q
              simp only [endI, e2] at q
              refine fun cls dd H' F' le2 ap ow xr => ?_
              refine q cls dd σ H' F' (le.trans le2) ?_ xr
              have z1 := rel1.behindI hc hh e1 le2 ap ow
              unfold put
              rw [hc]
              exact z1
            | ok d o =>
              rw [e5] at q
              match o, q with
              | [], q => exact q.elim
              | [z], q =>
                refine fun v H' F' le2 ap ow rp => q v H' F' (le.trans le2) ?_ rp
                have z1 := rel1.behindI hc hh e1 le2 ap ow
                unfold put
                rw [hc]
                exact z1
              | _ :: _ :: _, q => exact q.elim
          · simp only [if_neg hn] at q
/-- a def by its body, whatever is asked of exceptions -/
theorem okN {P : Program} {w : World} {K : PySem.W.Frag} {mg : Str → Option Value} {base : Heap} {CX : CXT} {x qual : Str} {st : Stmt} {f : Addr} {fd : FuncData} {N ps : List Str} {k : Nat} {sp : Sp} (F : Fun K x qual st f fd)
    (S : FnScope N ps (defScope st)) (len : ∀ vs H Q E, sp vs H Q E → vs.length = ps.length)
    (body : ∀ (cd : Value) (A : Around) (out : List PySem.Env) (s : Shared) (H : Hp) (vs : List V) (Q : VK) (E : XK), Room k (A.deeper (envOfC qual (defScope st) s.heap.objs.size f cd)) → sp vs H Q E →
      ∃ t, PSs (cxOf CX P w K mg base N qual (defScope st) f cd A out s H E) (defBody st) t ∧ t { nx := fun _ H' => Q .non H', rt := Q } (L2.start N vs) H) : FnOk P w K mg base CX (k + 1) f fd ps sp := by
  obtain ⟨_, _, _, _, _, _, cd, _, _, e, l, c⟩ := F.ex; subst e
  exact fn_of l c S len (body cd)
def runP (m n : Nat) (body : SS) : List D → FR := fun ds => match body (ds.map Cell.fro ++ List.replicate (m - n) Cell.no) with
  | .ok (.rt d) _ => .ok d []
  | .ok .nx _ => .ok .non []
  | .exc x _ => .exc x
  | _ => .stuck
def lastIo (ρ : Env) : List D := match (ρ[0]? : Option Cell) with
  | some (.io d) => [d]
  | _ => []
open Classical in
/-- .. an error leaves what is lent as it was -/
noncomputable def runI (m n : Nat) (body : SS) : List D → FR := fun ds => match ds with
  | [] => .stuck
  | d0 :: ds => match body (Cell.io d0 :: ds.map Cell.fro ++ List.replicate (m - n) Cell.no) with
    | .ok (.rt d) ρ => .ok d (lastIo ρ)
    | .ok .nx ρ => .ok .non (lastIo ρ)
    | .exc x ρ => if lastIo ρ = [d0] then .exc x else .stuck
    | _ => .stuck
section
variable {P : Program} {w : World} {K : PySem.W.Frag} {mg : Str → Option Value} {base : Heap}
abbrev wE (E : XK) : WX := fun cls d _ H => E cls d H
theorem at_def [TW w] {N ps : List Str} {qual : Str} {st : Stmt} {f : Addr} {cdv : Value} {A : Around} {outer : List PySem.Env} {s : Shared} {H : Hp} {E : XK} {k : Nat} (S : FnScope N ps (defScope st)) (hr : Room k (A.deeper (envOfC qual (defScope st) s.heap.objs.size f cdv))) :
    At (cxOf (L2N.CX P w) P w K mg base N qual (defScope st) f cdv A outer s H E) (wE E) := ⟨rfl, S.nd, hr.units, L2N.takes_of rfl rfl rfl rfl, TW.eq (w := w)⟩
theorem cells_start {F : Hp} : ∀ {vs : List V} {ds : List D}, Rps K F vs ds → ∀ {m n : Nat} {Rv H : Hp} (i : Nat) (c : Cell) (v : Option V), (ds.map Cell.fro ++ List.replicate m Cell.no)[i]? = some c → (vs.map some ++ List.replicate m none)[i]? = some v → CellOk K F Rv H v c
  | _, _, .nil, m, n, Rv, H, i, c, v, e1, e2 => by
    simp only [List.map_nil, List.nil_append] at e1
    rw [List.getElem?_replicate] at e1
    split at e1
    · cases e1; trivial
    · cases e1
  | _, _, .cons a b, m, n, Rv, H, 0, c, v, e1, e2 => by
    simp at e1 e2
    subst e1 e2
    exact ⟨_, rfl, a⟩
  | _, _, .cons a b, m, n, Rv, H, i + 1, c, v, e1, e2 => cells_start b (n := n) i c v (by simpa using e1) (by simpa using e2)
theorem fro_held {ds : List D} {m i : Nat} {c : Cell} (e : (ds.map Cell.fro ++ List.replicate m Cell.no)[i]? = some c) : c.held = none := by
  rw [List.getElem?_append] at e
  split at e
  · rw [List.getElem?_map] at e
    cases e2 : ds[i]? with
    | none => rw [e2] at e; cases e
    | some d => rw [e2] at e; cases e; rfl
  · rw [List.getElem?_replicate] at e
    split at e
    · cases e; rfl
    · cases e
theorem rel_start {F Rv H : Hp} {vs : List V} {ds : List D} {m : Nat} (ap : Apart F Rv H) (r : Rps K F vs ds) : Rel K ({} : Io []) Rv (ds.map Cell.fro ++ List.replicate m Cell.no) F (vs.map some ++ List.replicate m none) H := by
  refine ⟨ap.f, ap.r, ap.d, by simp [r.length], fun i c v e1 e2 => cells_start r (n := 0) i c v e1 e2, fun i j ci cj di dj p e1 e2 h1 h2 _ _ => ?_, fun ip hip => (nomatch hip), fun i d e => ?_, (fun t ht => (nomatch ht)), ap.nt⟩
  · rw [fro_held e1] at h1; cases h1
  · have z := fro_held e; cases z
theorem rel_startI {F Rv H : Hp} {p : Addr} {d0 : D} {vs : List V} {ds : List D} {m : Nat} (ap : Apart F Rv H) (ow : OwnAt K F Rv H p d0) (r : Rps K F vs ds) :
    Rel K ({ l := [(0, p)] } : Io []) Rv (Cell.io d0 :: (ds.map Cell.fro ++ List.replicate m Cell.no)) F (some (.ref p) :: (vs.map some ++ List.replicate m none)) H := by
  have r0 := rel_start (m := m) ap r
  refine ⟨ap.f, ap.r, ap.d, by simp [r.length], fun i c v e1 e2 => ?_, fun i j ci cj di dj q e1 e2 h1 h2 _ _ => ?_, fun ip hip => ?_, fun i d e => ?_, (fun t ht => (nomatch ht)), ap.nt⟩
  · cases i with
    | zero => simp at e1 e2; subst e1 e2; exact ⟨p, rfl, ow⟩
    | succ i => exact r0.cell i c v (by simpa using e1) (by simpa using e2)
  · have z : ∀ {i : Nat} {c : Cell} {d : D}, (Cell.io d0 :: (ds.map Cell.fro ++ List.replicate m Cell.no))[i]? = some c → c.held = some d → i = 0 := fun {i c d} e h => by
      cases i with
      | zero => rfl
      | succ i => rw [fro_held (by simpa using e)] at h; cases h
    rw [z e1 h1, z e2 h2]
  · obtain rfl : ip = (0, p) := List.mem_singleton.mp hip
    exact ⟨⟨d0, rfl⟩, rfl⟩
  · cases i with
    | zero => exact ⟨p, List.mem_singleton.mpr rfl⟩
    | succ i => have z := fro_held (c := .io d) (by simpa using e); cases z
theorem d_defP {x qual : Str} {st : Stmt} {f : Addr} {fd : FuncData} {N ps : List Str} {k : Nat} {body : SS} (ea : String → Addr) (F : Fun K x qual st f fd) (S : FnScope N ps (defScope st))
    (h : ∀ (cdv : Value) (A : Around) (outer : List PySem.Env) (s : Shared) (H : Hp) (E : XK), Room k (A.deeper (envOfC qual (defScope st) s.heap.objs.size f cdv)) →
      DSs ⟨K, ⟨ea, []⟩⟩ (cxOf (L2N.CX P w) P w K mg base N qual (defScope st) f cdv A outer s H E) (wE E) (defBody st) body) : FnOk P w K mg base (L2N.CX P w) (k + 1) f fd ps (spP ⟨K, ⟨ea, []⟩⟩ ps.length (runP N.length ps.length body)) := by
  refine okN F S (fun vs H Q E ⟨_, _, _, hl, _⟩ => hl) fun cdv A outer s H vs Q E hr ⟨ds, F0, Rv, hl, ap, r, q⟩ => ⟨_, h cdv A outer s H E hr, ?_⟩
  have e0 : L2.start N vs = vs.map some ++ List.replicate (N.length - ps.length) none := by unfold L2.start; rw [hl]
  rw [e0]
  refine ⟨_, F0, Rv, {}, rel_start ap r, ?_⟩
  unfold runP at q
  cases e : body (ds.map Cell.fro ++ List.replicate (N.length - ps.length) Cell.no) with
  | stuck => rw [e] at q; exact q.elim
  | exc x ρ' => rw [e] at q; exact fun cls dd σ' H' F' le rel xr => q cls dd H' F' le ⟨rel.fH, rel.rH, rel.dj, rel.nt⟩ xr
  | ok fl ρ' =>
    rw [e] at q
    cases fl with
    | nx => exact fun σ' H' F' le rel => q _ H' F' le ⟨rel.fH, rel.rH, rel.dj, rel.nt⟩ .non
    | bk => exact q.elim
    | ct => exact q.elim
    | rt d => exact fun v σ' H' F' le rel rp => q v H' F' le ⟨rel.fH, rel.rH, rel.dj, rel.nt⟩ rp
open Classical in
theorem d_defI {x qual : Str} {st : Stmt} {f : Addr} {fd : FuncData} {N ps : List Str} {k : Nat} {body : SS} (ea : String → Addr) (F : Fun K x qual st f fd) (S : FnScope N ps (defScope st)) (h0 : 0 < ps.length)
    (h : ∀ (cdv : Value) (A : Around) (outer : List PySem.Env) (s : Shared) (H : Hp) (E : XK), Room k (A.deeper (envOfC qual (defScope st) s.heap.objs.size f cdv)) →
      DSs ⟨K, ⟨ea, []⟩⟩ (cxOf (L2N.CX P w) P w K mg base N qual (defScope st) f cdv A outer s H E) (wE E) (defBody st) body) : FnOk P w K mg base (L2N.CX P w) (k + 1) f fd ps (spI ⟨K, ⟨ea, []⟩⟩ ps.length (runI N.length ps.length body)) := by
  refine okN F S (fun vs H Q E ⟨_, _, _, _, _, _, _, hl, _⟩ => hl) fun cdv A outer s H vs Q E hr ⟨p, ws, d0, ds, F0, Rv, hv, hl, ap, ow, r, q⟩ => ⟨_, h cdv A outer s H E hr, ?_⟩
  have e0 : L2.start N vs = some (.ref p) :: (ws.map some ++ List.replicate (N.length - ps.length) none) := by unfold L2.start; rw [hl, hv]; rfl
  rw [e0]
  refine ⟨_, F0, Rv, { l := [(0, p)] }, rel_startI ap ow r, ?_⟩
  unfold runI at q
  have fin : ∀ {ρ' : Env} {σ' : L2.St} {H' F' : Hp} {z : D}, Rel K ({ l := [(0, p)] } : Io []) Rv ρ' F' σ' H' → lastIo ρ' = [z] → OwnAt K F' Rv H' p z := fun {ρ' σ' H' F' z} rel e => by
    obtain ⟨⟨d, e1⟩, e2⟩ := rel.ios (0, p) (List.mem_singleton.mpr rfl)
    unfold lastIo at e
    rw [e1] at e
    cases e
    obtain ⟨p', e3, w⟩ := rel.heldAt e1 rfl
    rw [e2] at e3
    cases e3
    exact w
  have fin2 : ∀ {ρ' : Env} {σ' : L2.St} {H' F' : Hp}, Rel K ({ l := [(0, p)] } : Io []) Rv ρ' F' σ' H' → ∃ z, lastIo ρ' = [z] := fun {ρ' σ' H' F'} rel => by
    obtain ⟨⟨d, e1⟩, e2⟩ := rel.ios (0, p) (List.mem_singleton.mpr rfl)
    exact ⟨d, by unfold lastIo; rw [e1]⟩
  have q : (match (match body (Cell.io d0 :: (ds.map Cell.fro ++ List.replicate (N.length - ps.length) Cell.no)) with
    | .ok (.rt d) ρ => FR.ok d (lastIo ρ)
    | .ok .nx ρ => .ok .non (lastIo ρ)
    | .exc x ρ => if lastIo ρ = [d0] then .exc x else .stuck
    | _ => .stuck) with
    | .ok d [z] => ∀ v H' F', FLe F0 F' → Apart F' Rv H' → OwnAt K F' Rv H' p z → Rp K F' v d → Q v H'
    | .exc x => ∀ cls dd H' F', FLe F0 F' → Apart F' Rv H' → OwnAt K F' Rv H' p d0 → XR ⟨K, ⟨ea, []⟩⟩ F' x cls dd H' → E cls dd H'
    | _ => False) := q
  cases e : body (Cell.io d0 :: (ds.map Cell.fro ++ List.replicate (N.length - ps.length) Cell.no)) with
  | stuck => rw [e] at q; exact q.elim
  | exc x ρ' =>
    rw [e] at q
    by_cases hl0 : lastIo ρ' = [d0]
    · simp only [if_pos hl0] at q
      intro cls dd σ' H' F' le rel xr
      exact q cls dd H' F' le ⟨rel.fH, rel.rH, rel.dj, rel.nt⟩ (fin rel hl0) xr
    · simp only [if_neg hl0] at q
  | ok fl ρ' =>
    rw [e] at q
    cases fl with
    | nx =>
      intro σ' H' F' le rel
      obtain ⟨z, hz⟩ := fin2 rel
      simp only [hz] at q
      exact q _ H' F' le ⟨rel.fH, rel.rH, rel.dj, rel.nt⟩ (fin rel hz) .non
    | bk => exact q.elim
    | ct => exact q.elim
    | rt d =>
      intro v σ' H' F' le rel rp
      obtain ⟨z, hz⟩ := fin2 rel
      simp only [hz] at q
      exact q v H' F' le ⟨rel.fH, rel.rH, rel.dj, rel.nt⟩ (fin rel hz) rp
theorem takes0N {X : Cx} : L2N.Takes X (fun _ _ _ _ => False) := fun _ _ x => by
  obtain ⟨_, _, _, _, _, _, _, _, _, _, _, _, _, _, _, _, z⟩ := x
  exact z.elim
theorem at_blk {X : Cx} {W : WX} (hu : At X W) {s : Shared} {H : Hp} {scope : Scope} {cenv : PySem.Env} {fp : List Addr} : At (X.blk s H scope cenv fp) W0 := ⟨hu.calm, hu.nd, hu.un, takes0N, hu.wd⟩
theorem cal_P {x : Str} {st : Stmt} {N ps : List Str} {k : Nat} {body : SS} (ea : String → Addr) (F : Fn K mg x st ps) (S : FnScope N ps (defScope st))
    (h : ∀ (f : Addr) (cdv : Value) (A : Around) (outer : List PySem.Env) (s : Shared) (H : Hp) (E : XK), Room k (A.deeper (envOfC x (defScope st) s.heap.objs.size f cdv)) →
      DSs ⟨K, ⟨ea, []⟩⟩ (cxOf (L2N.CX P w) P w K mg base N x (defScope st) f cdv A outer s H E) (wE E) (defBody st) body) : Cal P w K mg base x (k + 1) (spP ⟨K, ⟨ea, []⟩⟩ ps.length (runP N.length ps.length body)) := by
  obtain ⟨f, fd, F, hm, hb⟩ := F.there
  exact ⟨f, fd, ps, d_defP ea F S (h f), hm, F.kp, hb⟩
theorem cal_I {x : Str} {st : Stmt} {N ps : List Str} {k : Nat} {body : SS} (ea : String → Addr) (F : Fn K mg x st ps) (S : FnScope N ps (defScope st)) (h0 : 0 < ps.length)
    (h : ∀ (f : Addr) (cdv : Value) (A : Around) (outer : List PySem.Env) (s : Shared) (H : Hp) (E : XK), Room k (A.deeper (envOfC x (defScope st) s.heap.objs.size f cdv)) →
      DSs ⟨K, ⟨ea, []⟩⟩ (cxOf (L2N.CX P w) P w K mg base N x (defScope st) f cdv A outer s H E) (wE E) (defBody st) body) : Cal P w K mg base x (k + 1) (spI ⟨K, ⟨ea, []⟩⟩ ps.length (runI N.length ps.length body)) := by
  obtain ⟨f, fd, F, hm, hb⟩ := F.there
  exact ⟨f, fd, ps, d_defI ea F S h0 (h f), hm, F.kp, hb⟩
end
/-- a module's constant that is no object -/
theorem d_glob {v : V} {d : D} (hg : Gl X x) (hm : ∃ u, X.mg x = some u ∧ RelV v u) (rp : ∀ F, Rp X.K F v d) (hd : (x == ("__debug__" : Str)) = false := by decide) : DE (GK X ex) X W (.Name x p) (sCst d) :=
  let ⟨_, h1, h2⟩ := hm
  d_cst (pe_glob hg h1 h2 hd) rp
/-- no test -/
def tT1 : ST := fun ρ => .ok true ρ
theorem pts_nilT : PTs X [] (tT (GK X ex) W tT1) := ⟨fun pins s σ H Q I ⟨ρ, F, Rv, io, rel, q⟩ => pts_nil.run pins s σ H Q I (q H F (FLe.refl F) rel)⟩
end
end Dt
set_option Elab.async false
set_option linter.all false
set_option maxRecDepth 100000
namespace Dt
open PySem
variable [HW]
/-- the first part is reckoned, then the rest -/
@[simp ↓] theorem ev_bind {α β : Type} (r : R α) (f : α → Env → R β) : r.bind f = match r with | .ok a ρ => f a ρ | .exc x ρ => .exc x ρ | .stuck => .stuck := rfl
@[simp] theorem ev_loc (i : Nat) (ρ : Env) : sLoc i ρ = match ρ[i]? with | some .no => .stuck | none => .stuck | _ => .ok (.loc i) ρ := rfl
@[simp] theorem ev_var (i : Nat) (ρ : Env) : sVar i ρ = match ρ[i]? with | some (.fro d) => .ok d ρ | some (.own d) => .ok d (ρ.set i (.fro d)) | _ => .stuck := rfl
@[simp] theorem ev_gSet (i : Nat) (d : D) (ρ : Env) : gSet i d ρ = match ρ[i]? with | some (.io _) => .stuck | none => .stuck | _ => .ok () (ρ.set i (.fro d)) := rfl
@[simp] theorem ev_gOwn (i : Nat) (d : D) (ρ : Env) : gOwn i d ρ = match ρ[i]? with | some (.io _) => .stuck | none => .stuck | _ => .ok () (ρ.set i (.own d)) := rfl
@[simp] theorem ev_held (ρ : Env) (i : Nat) : held ρ i = (ρ[i]?).bind Cell.held := rfl
@[simp] theorem ev_put (ρ : Env) (i : Nat) (d : D) : put ρ i d = match ρ[i]? with | some c => ρ.set i (c.put d) | none => ρ := rfl
@[simp] theorem ev_heldL (ρ : Env) (i : Nat) : heldL ρ i = match held ρ i with | some (.lst ds) => some ds | _ => none := rfl
@[simp] theorem ev_gPut (i : Nat) (sk : SO) (z : D) (ρ : Env) : gPut i sk z ρ = match held ρ i with
  | none => .stuck
  | some _ => (sk ρ).bind fun o ρ' => match held ρ' i, o.get ρ' with
    | some d, some k => match putD d k z with
      | some d' => .ok () (put ρ' i d')
      | none => .stuck
    | _, _ => .stuck := rfl
@[simp] theorem ev_mut (i : Nat) (f : List D → List D → Option (D × List D)) (s : SA) (ρ : Env) : sMut i f s ρ = match heldL ρ i with
  | none => .stuck
  | some _ => (s ρ).bind fun es ρ' => match heldL ρ' i with
    | none => .stuck
    | some ds => match f ds es with
      | some r => .ok r.1 (put ρ' i (.lst r.2))
      | none => .stuck := rfl
@[simp] theorem ev_callI (i n : Nat) (g : List D → FR) (s : SA) (ρ : Env) : sCallI i n g s ρ = match held ρ i with
  | none => .stuck
  | some _ => (s ρ).bind fun ds ρ' => match held ρ' i with
    | none => .stuck
    | some d0 => if ds.length + 1 = n then endI i (g (d0 :: ds)) ρ' else .stuck := rfl
@[simp] theorem ev_cst (d : D) (ρ : Env) : sCst d ρ = .ok d ρ := rfl
@[simp] theorem ev_val (s : SE) (ρ : Env) : sVal s ρ = (s ρ).bind fun d ρ' => .ok (.val d) ρ' := rfl
@[simp] theorem ev_nil (ρ : Env) : sNil ρ = .ok [] ρ := rfl
@[simp] theorem ev_cons (s : SE) (t : SA) (ρ : Env) : sCons s t ρ = (s ρ).bind fun d ρ1 => (t ρ1).bind fun ds ρ2 => .ok (d :: ds) ρ2 := rfl
@[simp] theorem ev_bnil (ρ : Env) : bNil ρ = .ok [] ρ := rfl
@[simp] theorem ev_bcons (s : SO) (t : SB) (ρ : Env) : bCons s t ρ = (s ρ).bind fun d ρ1 => (t ρ1).bind fun ds ρ2 => .ok (d :: ds) ρ2 := rfl
@[simp] theorem ev_b1 (s : SO) (ρ : Env) : b1 s ρ = (s ρ).bind fun d ρ1 => .ok [d] ρ1 := rfl
@[simp] theorem ev_b2 (s t : SO) (ρ : Env) : b2 s t ρ = (s ρ).bind fun d ρ1 => (t ρ1).bind fun e ρ2 => .ok [d, e] ρ2 := by
  show (s ρ).bind _ = (s ρ).bind _
  congr 1
  funext d ρ1
  show (bCons t bNil ρ1).bind _ = _
  rw [ev_bcons]
  cases t ρ1 <;> rfl
@[simp] theorem ev_ops (g : List D → Option D) (s : SB) (ρ : Env) : sOps g s ρ = (s ρ).bind fun os ρ' => ofO ((getAll ρ' os).bind g) ρ' := rfl
@[simp] theorem ev_ofS {α : Type} (a : α) (ρ : Env) : ofO (some a) ρ = .ok a ρ := rfl
@[simp] theorem ev_ofN {α : Type} (ρ : Env) : ofO (none : Option α) ρ = .stuck := rfl
@[simp] theorem ev_getV (d : D) (ρ : Env) : (Opd.val d).get ρ = some d := rfl
@[simp] theorem ev_getL (i : Nat) (ρ : Env) : (Opd.loc i).get ρ = (ρ[i]?).bind Cell.data := rfl
@[simp] theorem ev_all0 (ρ : Env) : getAll ρ [] = some [] := rfl
@[simp] theorem ev_all1 (o : Opd) (os : List Opd) (ρ : Env) : getAll ρ (o :: os) = (o.get ρ).bind fun d => (getAll ρ os).map fun ds => d :: ds := rfl
@[simp] theorem cd_fro (d : D) : (Cell.fro d).data = some d := rfl
@[simp] theorem cd_own (d : D) : (Cell.own d).data = some d := rfl
@[simp] theorem cd_io (d : D) : (Cell.io d).data = some d := rfl
@[simp] theorem cd_no : Cell.no.data = none := rfl
@[simp] theorem ch_fro (d : D) : (Cell.fro d).held = none := rfl
@[simp] theorem ch_own (d : D) : (Cell.own d).held = some d := rfl
@[simp] theorem ch_io (d : D) : (Cell.io d).held = some d := rfl
@[simp] theorem ch_no : Cell.no.held = none := rfl
@[simp] theorem cp_own (d e : D) : (Cell.own d).put e = .own e := rfl
@[simp] theorem cp_io (d e : D) : (Cell.io d).put e = .io e := rfl
@[simp] theorem ev_tst (s : SE) (ρ : Env) : sTst s ρ = (s ρ).bind fun d ρ' => match d with | .bl k => .ok k ρ' | _ => .stuck := rfl
@[simp] theorem ev_chain (g g' : List D → Option D) (sa sb sc : SO) (ρ : Env) : sChain g g' sa sb sc ρ = (sa ρ).bind fun x ρ1 => (sb ρ1).bind fun y ρ2 => (ofO ((getAll ρ2 [x, y]).bind g) ρ2).bind fun z ρ2 => match z with
  | .bl true => (sc ρ2).bind fun w ρ3 => ofO ((getAll ρ3 [y, w]).bind g') ρ3
  | .bl false => .ok (.bl false) ρ2
  | _ => .stuck := rfl
@[simp] theorem ev_tru (s : SO) (ρ : Env) : sTru s ρ = (s ρ).bind fun o ρ' => ofO ((o.get ρ').bind D.truth) ρ' := rfl
@[simp] theorem ev_and (s t : ST) (ρ : Env) : tAndS s t ρ = (s ρ).bind fun k ρ' => match k with | true => t ρ' | false => .ok false ρ' := rfl
@[simp] theorem ev_or (s t : ST) (ρ : Env) : tOrS s t ρ = (s ρ).bind fun k ρ' => match k with | true => .ok true ρ' | false => t ρ' := rfl
@[simp] theorem ev_tnot (s : ST) (ρ : Env) : tNotS s ρ = (s ρ).bind fun k ρ' => .ok (!k) ρ' := rfl
@[simp] theorem ev_sand (s t : SE) (ρ : Env) : sAnd s t ρ = (s ρ).bind fun d ρ' => match d.truth with | some true => t ρ' | some false => .ok d ρ' | none => .stuck := rfl
@[simp] theorem ev_sor (s t : SE) (ρ : Env) : sOr s t ρ = (s ρ).bind fun d ρ' => match d.truth with | some true => .ok d ρ' | some false => t ρ' | none => .stuck := rfl
@[simp] theorem ev_not (s : SO) (ρ : Env) : sNot s ρ = (sTru s ρ).bind fun k ρ' => .ok (.bl (!k)) ρ' := rfl
@[simp] theorem ev_if (t : ST) (a b : SE) (ρ : Env) : sIf t a b ρ = (t ρ).bind fun k ρ' => match k with | true => a ρ' | false => b ρ' := rfl
@[simp] theorem tr_bl (b : Bool) : (D.bl b).truth = some b := rfl
@[simp] theorem tr_non : D.non.truth = some false := rfl
@[simp] theorem tr_int (i : Int) : (D.int i).truth = some (i != 0) := rfl
@[simp] theorem ev_pn (ρ : Env) : sPn ρ = .ok none ρ := rfl
@[simp] theorem ev_pe (s : SE) (ρ : Env) : sPe s ρ = (s ρ).bind fun d ρ' => match d with | .int i => .ok (some i) ρ' | _ => .stuck := rfl
@[simp] theorem ev_slice (s : SO) (lo hi : SP') (ρ : Env) : sSlice s lo hi ρ = (s ρ).bind fun o ρ1 => (lo ρ1).bind fun l ρ2 => (hi ρ2).bind fun h ρ3 => ofO ((o.get ρ3).bind fun d => sliceD d l h) ρ3 := rfl
@[simp] theorem ev_rev (s : SO) (ρ : Env) : sRev s ρ = (s ρ).bind fun o ρ' => match o.get ρ' with | some (.lst xs) => .ok (.lst xs.reverse) ρ' | _ => .stuck := rfl
@[simp] theorem ev_tup (s : SA) (ρ : Env) : sTup s ρ = (s ρ).bind fun ds ρ' => if ds.length ≤ sizeLine then .ok (.tup ds) ρ' else .stuck := rfl
@[simp] theorem ev_lst (s : SA) (ρ : Env) : sLst s ρ = (s ρ).bind fun ds ρ' => if ds.length ≤ sizeLine then .ok (.lst ds) ρ' else .stuck := rfl
@[simp] theorem ev_isi (ts : List String) (s : SO) (ρ : Env) : sIsi ts s ρ = (s ρ).bind fun o ρ' => ofO ((o.get ρ').bind (isTo ts)) ρ' := rfl
@[simp] theorem isTo_non {ts : List String} : isTo ts .non = some (.bl (ts.any (isT .non))) := rfl
@[simp] theorem isTo_bl {ts : List String} {b : Bool} : isTo ts (.bl b) = some (.bl (ts.any (isT (.bl b)))) := rfl
@[simp] theorem isTo_int {ts : List String} {b : Int} : isTo ts (.int b) = some (.bl (ts.any (isT (.int b)))) := rfl
@[simp] theorem isTo_str {ts : List String} {b : Str} : isTo ts (.str b) = some (.bl (ts.any (isT (.str b)))) := rfl
@[simp] theorem isTo_tup {ts : List String} {b : List D} : isTo ts (.tup b) = some (.bl (ts.any (isT (.tup b)))) := rfl
@[simp] theorem isTo_lst {ts : List String} {b : List D} : isTo ts (.lst b) = some (.bl (ts.any (isT (.lst b)))) := rfl
@[simp] theorem isTo_scr {ts : List String} {b : List Int} : isTo ts (.scr b) = some (.bl (ts.any (isT (.scr b)))) := rfl
@[simp] theorem isTo_etup {ts : List String} : isTo ts .etup = some (.bl (ts.any (isT .etup))) := rfl
@[simp] theorem isTo_arg {ts : List String} {b : List D} : isTo ts (.arg b) = some (.bl (ts.any (isT (.arg b)))) := rfl
@[simp] theorem isTo_dct {ts : List String} {ks : List L2.Key} {ds : List D} : isTo ts (.dct ks ds) = some (.bl (ts.any (isT (.dct ks ds)))) := rfl
@[simp] theorem ev_iAny (s : SE) (ρ : Env) : iAny s ρ = (s ρ).bind fun d ρ' => ofO (itemsD d) ρ' := rfl
@[simp] theorem ev_iRng1 (s : SA) (ρ : Env) : iRng1' s ρ = (s ρ).bind fun ds ρ' => ofO (rng1D ds) ρ' := rfl
@[simp] theorem ev_iRng2 (s : SA) (ρ : Env) : iRng2' s ρ = (s ρ).bind fun ds ρ' => ofO (rng2D ds) ρ' := rfl
@[simp] theorem ev_asg (g : SG) (s : SE) (ρ : Env) : sAsg g s ρ = (s ρ).bind fun d ρ' => (g d ρ').bind fun _ ρ'' => .ok .nx ρ'' := rfl
@[simp] theorem ev_expr (s : SE) (ρ : Env) : sExpr s ρ = (s ρ).bind fun _ ρ' => .ok .nx ρ' := rfl
@[simp] theorem ev_ret (s : SE) (ρ : Env) : sRet s ρ = (s ρ).bind fun d ρ' => .ok (.rt d) ρ' := rfl
@[simp] theorem ev_nx (ρ : Env) : sNx ρ = .ok .nx ρ := rfl
@[simp] theorem ev_seq (a b : SS) (ρ : Env) : sSeq a b ρ = (a ρ).bind fun f ρ' => match f with | .nx => b ρ' | f => .ok f ρ' := rfl
@[simp] theorem ev_ifS (t : ST) (a b : SS) (ρ : Env) : sIfS t a b ρ = (t ρ).bind fun k ρ' => match k with | true => a ρ' | false => b ρ' := rfl
@[simp] theorem ev_tT1 (ρ : Env) : tT1 ρ = .ok true ρ := rfl
@[simp] theorem ev_gTup (n : Nat) (gs : SGs) (d : D) (ρ : Env) : gTup' n gs d ρ = match d with | .tup ds => if ds.length = n then gs ds ρ else .stuck | .lst ds => if ds.length = n then gs ds ρ else .stuck | .arg ds => if ds.length = n then gs ds ρ else .stuck | _ => .stuck := rfl
@[simp] theorem ev_gN0 (ρ : Env) : gN [] ρ = .ok () ρ := rfl
@[simp] theorem ev_gC (g : SG) (gs : SGs) (d : D) (ds : List D) (ρ : Env) : gC g gs (d :: ds) ρ = (g d ρ).bind fun _ ρ' => gs ds ρ' := rfl
@[simp] theorem ev_callP (n : Nat) (g : List D → FR) (s : SA) (ρ : Env) : sCallP n g s ρ = (s ρ).bind fun ds ρ' => if ds.length = n then endP (g ds) ρ' else .stuck := rfl
@[simp] theorem ev_endP (d : D) (o : List D) (ρ : Env) : endP (.ok d o) ρ = .ok d ρ := rfl
@[simp] theorem ev_endPx (x : Exn) (ρ : Env) : endP (.exc x) ρ = .exc x ρ := rfl
@[simp] theorem ev_endI (i : Nat) (d z : D) (ρ : Env) : endI i (.ok d [z]) ρ = .ok d (put ρ i z) := rfl
@[simp] theorem ev_endIx (i : Nat) (x : Exn) (ρ : Env) : endI i (.exc x) ρ = match held ρ i with | some d0 => .exc x (put ρ i d0) | none => .stuck := rfl
@[simp] theorem noX_ok {α : Type} (a : α) (ρ : Env) : noX (.ok a ρ) = .ok a ρ := rfl
@[simp] theorem blsOf_nil : blsOf [] = some [] := rfl
@[simp] theorem blsOf_cons (b : Bool) (ds : List D) : blsOf (.bl b :: ds) = (blsOf ds).map fun r => b :: r := rfl
theorem line_pos {n : Nat} (h : n ≤ 16777216) : n ≤ sizeLine := by
  rw [show sizeLine = 16777216 from by decide]
  exact h
end Dt
set_option Elab.async false
set_option linter.all false
set_option maxRecDepth 100000
set_option maxHeartbeats 4000000
namespace Dt
open PySem PySem.Spec PyProof.Rows
variable [HW]
section
variable {prog : Program} {w : World} {A : Around} {E : Value → Shared → Prop} {s : Shared}
abbrev bare (led : Bool) : Obj := { cls := .type "set", dict := none, data := .set #[] 0 (.fresh 0 0 led) }
end
end Dt
set_option Elab.async false
set_option linter.all false
set_option maxRecDepth 100000
set_option maxHeartbeats 4000000
namespace Dt
open PySem PySem.Spec PyProof.Rows L2
end Dt
set_option Elab.async false
set_option linter.all false
set_option maxRecDepth 100000
set_option maxHeartbeats 4000000
namespace Dt
open PySem PySem.Spec PyProof.Rows L2
variable [HW]
def dcompGo (vs : List Nat) (g : SG) (t : ST) (sk s : SE) : List D → List Key × List D → Env → R (List Key × List D)
  | [], acc, ρ => .ok acc ρ
  | d :: ds, acc, ρ => (g d ρ).bind fun _ ρ1 => (t ρ1).bind fun k ρ2 => match k with
    | true => (sk ρ2).bind fun kd ρk => (s ρk).bind fun z ρ3 => match keyOf kd with
      | none => .stuck
      | some k => if plainAt ρ3 vs = true then dcompGo vs g t sk s ds (dPut acc.1 acc.2 k z) (wipeE ρ3 vs) else .stuck
    | false => if plainAt ρ2 vs = true then dcompGo vs g t sk s ds acc (wipeE ρ2 vs) else .stuck
def sDComp (vs : List Nat) (it : SA) (g : SG) (t : ST) (sk s : SE) : SE := fun ρ => (it ρ).bind fun ds ρ1 =>
  if plainAt ρ1 vs = true ∧ ds.length ≤ sizeLine then (noX (dcompGo vs g t sk s ds ([], []) (wipeE ρ1 vs))).bind fun zs ρ2 => .ok (.dct zs.1 zs.2) (backE ρ1 ρ2 vs) else .stuck
section
variable {ex : Exx} {X : Cx} {W : WX} {tg : Expr} {pos : Pos}
theorem dcomp_core {G : Gx} {σ : L2.St} {H : Hp} {Q : VK} {it : SA} {g : SG} {t : ST} {sk s : SE} {js vs : List Nat} (hjs : js.all (fun j => vs.contains j) = true) (h : tF G W (sDComp vs it g t sk s) σ H Q) :
    tDc (tI G W it) (tG G W0 js g) (tT G W0 t) (tE G W0 sk) (tE G W0 s) vs σ H Q := by
    obtain ⟨ρ, F, Rv, io, rel, q⟩ := h
    refine ⟨ρ, F, Rv, io, rel, ?_⟩
    unfold sDComp at q
    cases e : it ρ with
    | stuck => rw [e] at q; exact q.elim
    | exc x ρ' => rw [e] at q; exact q
    | ok ds ρ1 =>
      rw [e, R.bind_ok] at q
      intro J H1 F1 le1 rel1 J1 Dl hD
      by_cases hp : plainAt ρ1 vs = true ∧ ds.length ≤ sizeLine
      case neg => rw [if_neg hp] at q; exact q.elim
      rw [if_pos hp] at q
      obtain ⟨hpl, hz⟩ := hp
      cases e2 : dcompGo vs g t sk s ds ([], []) (wipeE ρ1 vs) with
      | stuck => rw [e2] at q; exact q.elim
      | exc x ρ' => rw [e2] at q; exact q.elim
      | ok zs ρe =>
        rw [e2] at q
        have nR : Rv Dl = none := rel1.rH.noneOf hD
        refine ⟨fun i m H => m = ds.length - i ∧ i ≤ ds.length ∧ ∃ (ρi : Env) (Fi : Hp) (acc : List (Key × V)) (dn : List D), FLe F1 Fi ∧ Rel G.K io (upd Rv Dl (.dK acc)) ρi Fi (wipe σ vs) H ∧ acc.length ≤ i ∧ Rps G.K Fi (acc.map (·.2)) dn ∧
          dcompGo vs g t sk s (ds.drop i) (acc.map (·.1), dn) ρi = .ok zs ρe, ⟨ds.length, rfl.trans (Nat.sub_zero _).symm, Nat.zero_le _, wipeE ρ1 vs, F1, [], [], FLe.refl _, (rel1.wiped hpl).resAdd hD _, Nat.le_refl _, .nil, e2⟩, ?_⟩
        rintro i m H ⟨rfl, hi, ρi, Fi, acc, dn, lei, reli, hacc, racc, hgo⟩
        by_cases hlt : i < ds.length
        · obtain ⟨d, hd, hdr⟩ := drop_at hlt
          rw [hdr] at hgo
          unfold dcompGo at hgo
          refine .inr ⟨J1.go i Fi H lei reli.fH hlt, fun H' => ∃ (ρ2 : Env) (F2 : Hp) (acc2 : List (Key × V)) (dn2 : List D), FLe F1 F2 ∧ Rel G.K io (upd Rv Dl (.dK acc2)) ρ2 F2 (wipe σ vs) H' ∧ acc2.length ≤ i + 1 ∧ Rps G.K F2 (acc2.map (·.2)) dn2 ∧
              dcompGo vs g t sk s (ds.drop (i + 1)) (acc2.map (·.1), dn2) ρ2 = .ok zs ρe, fun H' z => ⟨ds.length - (i + 1), by omega, rfl, hlt, z⟩, fun xv H' y => ?_⟩
          obtain ⟨F2, nw, rp⟩ := J1.yld i Fi H H' xv d lei reli.fH hd y
          have rel2 := reli.after nw
          refine ⟨d, ρi, F2, _, io, rel2, rp, ?_⟩
          cases e3 : g d ρi with
          | stuck => rw [e3] at hgo; cases hgo
          | exc x ρ' => rw [e3] at hgo; cases hgo
          | ok u ρ3 =>
            rw [e3, R.bind_ok] at hgo
            intro σ3 H3 F3 le3 rel3 hj3
            have hjs' : ∀ j, j ∉ vs → σ3[j]? = (wipe σ vs)[j]? := fun j hj => hj3.2 j fun z => hj (by
              have w := List.all_eq_true.mp hjs j z
              simpa using w)
            have hl3 : σ3.length = σ.length := hj3.1.trans (wipe_length σ vs)
            have hw := wipe_same hl3 hjs'
            refine ⟨hw, ρ3, F3, _, io, rel3, ?_⟩
            cases e4 : t ρ3 with
            | stuck => rw [e4] at hgo; cases hgo
            | exc x ρ' => rw [e4] at hgo; cases hgo
            | ok k ρ4 =>
              rw [e4, R.bind_ok] at hgo
              intro H4 F4 le4 rel4
              cases k with
              | false =>
                refine iteF ?_
                have hgo : (if plainAt ρ4 vs = true then dcompGo vs g t sk s (ds.drop (i + 1)) (acc.map (·.1), dn) (wipeE ρ4 vs) else .stuck) = R.ok zs ρe := hgo
                by_cases hp4 : plainAt ρ4 vs = true
                · rw [if_pos hp4] at hgo
                  have le := (nw.f.trans le3).trans le4
                  refine ⟨wipeE ρ4 vs, F4, acc, dn, lei.trans le, ?_, Nat.le_succ_of_le hacc, racc.mono le, hgo⟩
                  have r := rel4.wiped hp4
                  rw [hw] at r
                  exact r
                · rw [if_neg hp4] at hgo; cases hgo
              | true =>
                refine iteT ⟨ρ4, F4, _, io, rel4, ?_⟩
                have hgo : ((sk ρ4).bind fun kd ρk => (s ρk).bind fun z ρ3 => match keyOf kd with | none => .stuck | some k => if plainAt ρ3 vs = true then dcompGo vs g t sk s (ds.drop (i + 1)) (dPut (acc.map (·.1)) dn k z) (wipeE ρ3 vs) else .stuck) = R.ok zs ρe := hgo
                cases ek : sk ρ4 with
                | stuck => rw [ek] at hgo; cases hgo
                | exc x ρ' => rw [ek] at hgo; cases hgo
                | ok kd ρk =>
                rw [ek, R.bind_ok] at hgo
                intro kv Hk Fk lek relk rpk
                refine ⟨ρk, Fk, _, io, relk, ?_⟩
                cases e5 : s ρk with
                | stuck => rw [e5] at hgo; cases hgo
                | exc x ρ' => rw [e5] at hgo; cases hgo
                | ok z ρ5 =>
                  rw [e5, R.bind_ok] at hgo
                  intro yv H5 F5 le5 rel5 rp5
                  cases e6 : keyOf kd with
                  | none => rw [e6] at hgo; cases hgo
                  | some k =>
                    rw [e6] at hgo
                    have hgo : (if plainAt ρ5 vs = true then dcompGo vs g t sk s (ds.drop (i + 1)) (dPut (acc.map (·.1)) dn k z) (wipeE ρ5 vs) else .stuck) = R.ok zs ρe := hgo
                    by_cases hp5 : plainAt ρ5 vs = true
                    · rw [if_pos hp5] at hgo
                      have le := (((nw.f.trans le3).trans le4).trans lek).trans le5
                      obtain ⟨k1, k2⟩ := dPut_put (k := k) rp5 (racc.mono le)
                      refine ⟨acc, k, keyOf_vw (H := Fk) (.inl rpk) e6, rel5.rH Dl _ upd_same, Nat.lt_of_le_of_lt hacc (Nat.lt_of_lt_of_le hlt hz), wipeE ρ5 vs, F5, putK acc k yv, (dPut (acc.map (·.1)) dn k z).2, lei.trans le, ?_, Nat.le_trans (length_putK acc k yv) (Nat.succ_le_succ hacc), k2, by rw [k1]; exact hgo⟩
                      have r := rel5.wiped hp5
                      rw [hw] at r
                      exact r.resPut
                    · rw [if_neg hp5] at hgo; cases hgo
        · have hi2 : i = ds.length := by omega
          subst hi2
          rw [List.drop_eq_nil_of_le (Nat.le_refl _)] at hgo
          unfold dcompGo at hgo
          cases hgo
          refine .inl ⟨J1.stop Fi H lei reli.fH, ?_⟩
          obtain ⟨relD, n1, n2, lo⟩ := reli.resDrop nR
          have relB := rel1.back (vs := vs) relD lei hpl
          refine q Dl H Fi (le1.trans lei) relB ⟨n1, nR, _, n2, acc, rfl, rfl, ?_⟩ fun i c d e1 e2 e3 => ?_
          · exact racc
          · have hlen : ρ1.length = ρe.length := by rw [rel1.len, relD.len, wipe_length]
            rw [(backE_get hlen vs).2] at e1
            by_cases hi : i ∈ vs
            · rw [if_pos hi] at e1
              rcases plain_at hpl hi e1 with z | ⟨_, z⟩ <;> (subst z; cases e2)
            · rw [if_neg hi] at e1
              exact lo i c d e1 e2 (by rw [wipe_get, if_neg hi]; exact e3)
theorem d_dcompF {kx vx iter : Expr} {ifs : List Expr} {scope : Scope} {own : List (Str × Nat)} {it : SA} {g : SG} {t : ST} {sk s : SE} {js : List Nat} (hu : At X W) (hi : DI (GK X ex) X W tg iter it) (ok : BlkOk X.N X.env.scope scope own)
    (hg : ∀ (s : Shared) (H : Hp) (C : Addr) (cl : List (Str × Addr)) (fp : List Addr), DG (GK X ex) (X.blk s H scope (compEnvC scope cl C X.env) fp) W0 js tg g)
    (ht : ∀ (s : Shared) (H : Hp) (C : Addr) (cl : List (Str × Addr)) (fp : List Addr), PTs (X.blk s H scope (compEnvC scope cl C X.env) fp) ifs (tT (GK X ex) W0 t))
    (hk : ∀ (s' : Shared) (H : Hp) (C : Addr) (cl : List (Str × Addr)) (fp : List Addr), DE (GK X ex) (X.blk s' H scope (compEnvC scope cl C X.env) fp) W0 kx sk)
    (he : ∀ (s' : Shared) (H : Hp) (C : Addr) (cl : List (Str × Addr)) (fp : List Addr), DE (GK X ex) (X.blk s' H scope (compEnvC scope cl C X.env) fp) W0 vx s) (hjs : js.all (fun j => (own.map (·.2)).contains j) = true) (hs : ∀ x, foldedSetIterable iter X.env x = pure x := by intro _; rfl) :
    DF (GK X ex) X W (.DictComp kx vx [⟨tg, iter, ifs, 0⟩] scope pos) (sDComp (own.map (·.2)) it g t sk s) :=
  wkE (pe_dc hu.calm hu.nd hi ok hg ht hk he hs) fun σ H Q h => dcomp_core hjs h
end
end Dt
set_option Elab.async false
set_option linter.all false
set_option maxRecDepth 100000
set_option maxHeartbeats 4000000
namespace Dt
open PySem PySem.Spec PyProof.Rows L2
variable [HW]
section
variable {prog : Program} {w : World} {K : Type} [DecidableEq K] {knd : KeyKind prog w K} {A : Around} {E : Value → Shared → Prop} {s : Shared} {r d : Addr} {kvs : List (K × Value)} {ep : Nat}
abbrev tupOf (as : List Addr) : Obj := { cls := .type "tuple", data := .seq (as.map Value.ref).toArray }
theorem new_tuple_items {Q : Value → Shared → Prop} (hh : A.handled = none) (view : s.heap.IsItemsView r d) (at_ : s.heap.DictAt knd d kvs ep) (room : kvs.length ≤ sizeLine)
    (fin : ∀ (h1 : Heap) (tk : Nat) (as : List Addr), (∀ b o, s.heap.get? b = some o → h1.get? b = some o) → as.length = kvs.length → PySem.W.KdxG knd kvs s.heap.objs.size h1 as → Q (.ref h1.objs.size) { s with heap := h1.push (tupOf as), toks := tk }) :
    codeAny (model prog w) A (.call (.builtin "tuple.__new__") ⟨[.type "tuple", .ref r], []⟩) (wants Q E) s := by
  refine codeAny_of_tree (show wpAny _ A.in1 (do checkBuiltinCall "tuple.__new__" ⟨[.type "tuple", .ref r], []⟩; again (.builtin "tuple.__new__" ⟨[.type "tuple", .ref r], []⟩)) _ _ s from wpAny_bind (wpAny_of_eq (F.newCall_tuple_1 _) (wpAny_pure ⟨plainId_quiet F.plain_tuple_new _, codeAny_builtin F.entry_tuple_new ?_⟩)))
  rw [Around.under_plainId F.plain_tuple_new]
  have k1 := sub_tuple_self; have k2 := init_tuple_lookup; have k3 := madeHere_tuple
  have ty : s.TypeIs (.ref r) "dict_items" := view.typeIs
  have q1 : A.in1.handled = none := hh
  wp_walk using wpAny_typeOf ty, PySem.W.kdx_collect (A := A.in1) q1 view at_ room
  intro h1 tk as old len g
  refine (show wpAny _ _ (Builtin.Tuple.tupleExact (as.map Value.ref).toArray >>= fun v => ret v) _ _ _ from ?_)
  unfold Builtin.Tuple.tupleExact
  exact wpAny_bind (wpAny_newObj_type (wpAny_pure (fin h1 tk as old len g)) (by show (as.map Value.ref).toArray.size ≤ sizeLine; rw [List.size_toArray, List.length_map, len]; exact room))
theorem call_tuple_items {Q : Value → Shared → Prop} (hh : A.handled = none) (view : s.heap.IsItemsView r d) (at_ : s.heap.DictAt knd d kvs ep) (room : kvs.length ≤ sizeLine)
    (fin : ∀ (h1 : Heap) (tk : Nat) (as : List Addr), (∀ b o, s.heap.get? b = some o → h1.get? b = some o) → as.length = kvs.length → PySem.W.KdxG knd kvs s.heap.objs.size h1 as → Q (.ref h1.objs.size) { s with heap := h1.push (tupOf as), toks := tk }) :
    wpAny (model prog w) A (call (.type "tuple") [.ref r]) Q E s :=
  callType_codes (Q₁ := fun v t => t.TypeIs v "tuple" ∧ Q v t) F.called_tuple (F.typeCall_tuple_1 _) F.entry_object_init
    (new_tuple_items (A := A.in1) hh view at_ room fun h1 tk as old len g => ⟨⟨_, Heap.get?_push_size _ rfl, rfl⟩, fin h1 tk as old len g⟩) fun v t h => ⟨h.1, F.args_object_init_2 v _, object_init_meets F.called_tuple.init.lookup F.called_tuple.made (by decide) prog w A.in1 _ t ⟨h.1, rfl, h.2⟩⟩
end
section
variable {X : Cx} {pins : List (Addr × Obj)} {σ : L2.St} {H : Hp} {s : Shared}
/-- the objects of the heap h1 at the addresses, as pairs -/
def putZ (h1 : Heap) : Hp → List Addr → List (Key × V) → Hp
  | H, a :: as, p :: kvs => putZ h1 (upd H a (.frz ((h1.get? a).getD (tupO [])) (.tup [kV p.1, p.2]))) as kvs
  | H, _, _ => H
theorem putZ_off {h1 : Heap} {b : Addr} : ∀ (as : List Addr) (kvs : List (Key × V)) (H : Hp), b ∉ as → putZ h1 H as kvs b = H b
  | [], _, _, _ => rfl
  | _ :: _, [], _, _ => rfl
  | a :: as, p :: kvs, H, h => by
    unfold putZ
    rw [putZ_off as kvs _ (fun z => h (.tail _ z)), upd_ne (fun z => h (by rw [z]; exact .head _))]
theorem putZ_at {h1 : Heap} : ∀ (as : List Addr) (kvs : List (Key × V)) (H : Hp), as.length = kvs.length → as.Nodup → Paired (fun (t : Addr) (p : Key × V) => putZ h1 H as kvs t = some (.frz ((h1.get? t).getD (tupO [])) (.tup [kV p.1, p.2]))) as kvs
  | [], [], _, _, _ => .nil
  | [], _ :: _, _, h, _ => by cases h
  | _ :: _, [], _, h, _ => by cases h
  | a :: as, p :: kvs, H, h, hn => by
    obtain ⟨n1, n2⟩ := List.nodup_cons.mp hn
    exact .cons (by unfold putZ; rw [putZ_off as kvs _ n1, upd_same]) (putZ_at as kvs _ (Nat.succ.inj h) n2)
theorem pairs_laid {h1 : Heap} {tk : Nat} {kvs : List (Key × V)} {vs : List (Key × Value)} {as : List Addr} (I : Inv X pins σ H s) (kv : KV kvs vs) (old : ∀ b o, s.heap.get? b = some o → h1.get? b = some o) (len : as.length = vs.length)
    (g : PySem.W.KdxG (mixKind X.prog X.w) vs s.heap.objs.size h1 as) : ∃ H' : Hp, (∀ b o, H b = some o → H' b = some o) ∧ (∀ t ∈ as, H t = none) ∧ Paired (fun (t : Addr) (q : Key × V) => TupC H' t [kV q.1, q.2]) as kvs ∧ Inv X pins σ H' { s with heap := h1, toks := tk } := by
  have unlike : as.Nodup := g.rise.imp fun {a b} lt => Nat.ne_of_lt lt
  have free : ∀ t ∈ as, H t = none := fun t ht => I.hok.fresh (Nat.le_of_lt (g.above t ht))
  have here := putZ_at (h1 := h1) as kvs H (by rw [len, Paired.length kv]) unlike
  have off := fun b (q : b ∉ as) => putZ_off (h1 := h1) (b := b) as kvs H q
  have keep : ∀ b u, H b = some u → putZ h1 H as kvs b = some u := fun b u e => by rw [off b fun q => by rw [free b q] at e; cases e]; exact e
  have bare : ∀ t ∈ as, ((h1.get? t).getD (tupO [])).dict = none := fun t ht => by
    obtain ⟨j, hj⟩ := List.mem_iff_getElem?.mp ht
    obtain ⟨_, _, _, _, _, e⟩ := g.pairs j t hj
    rw [e]; rfl
  have tups : ∀ {us : List Addr} {ws : List (Key × V)}, (∀ u ∈ us, u ∈ as) → Paired (fun (t : Addr) (p : Key × V) => putZ h1 H as kvs t = some (.frz ((h1.get? t).getD (tupO [])) (.tup [kV p.1, p.2]))) us ws → Paired (fun (t : Addr) (q : Key × V) => TupC (putZ h1 H as kvs) t [kV q.1, q.2]) us ws := fun {us ws} m h => by
    induction h with
    | nil => exact .nil
    | cons e t ih => exact .cons ⟨_, bare _ (m _ (.head _)), e⟩ (ih fun u hu => m u (.tail _ hu))
  refine ⟨putZ h1 H as kvs, keep, free, tups (fun _ h => h) here, I.call' (ch := []) rfl ⟨fun b o q _ _ _ => old b o q, fun b o q _ _ _ => ⟨o.slots, old b o q⟩, fun b o q n _ => ?_, fun b o q _ => ⟨o, old b o q⟩, fun b xs q => keep b _ q, fun b o u q => keep b _ q, fun b ps q => ⟨#[], by rw [keep b _ q]; simp⟩⟩ (fun b u q => ?_) I.bare fun b z => by simp at z⟩
  · rw [off b fun z => absurd (Heap.lt_size q) (Nat.not_lt.mpr (Nat.le_of_lt (g.above b z)))]
    exact n
  · by_cases hb : b ∈ as
    · obtain ⟨j, pk, e1, e2, e3⟩ := LiI.paired_ix here hb
      obtain ⟨key, k, x, f1, f2, f3⟩ := g.pairs j b e1
      obtain rfl : HO.frz ((h1.get? b).getD (tupO [])) (.tup [kV pk.1, pk.2]) = u := Option.some.inj (e3.symm.trans q)
      obtain ⟨⟨k', x'⟩, g1, g2, g3⟩ := LiI.paired_get kv e2
      obtain ⟨rfl, rfl⟩ : k = k' ∧ x = x' := Prod.mk.inj (Option.some.inj (f1.symm.trans g1))
      exact ⟨by show h1.get? b = some ((h1.get? b).getD (tupO [])); rw [f3]; rfl, by show 2 ≤ sizeLine; decide, [key, x], .cons (by rw [g2]; exact relV_key (show keyIs k key = true from f2)) (.cons g3 .nil), ⟨_, f3, rfl, _, rfl⟩⟩
    · rw [off b hb] at q
      exact (I.hok b u q).stay (fun d v _ y => old d v y) (fun d y => keep d _ y) fun d xs y => keep d _ y
def rItemsT : V → Hp → VK → Prop := fun x H Q => ∃ (d : Addr) (kvs : List (Key × V)), x = .ref d ∧ Rd H d (.dK kvs) ∧
  ∀ (H1 : Hp) (p : Addr) (o : Obj) (ts : List Addr), (∀ b o, H b = some o → H1 b = some o) → (∀ t ∈ ts, H t = none) → Paired (fun (t : Addr) (q : Key × V) => TupC H1 t [kV q.1, q.2]) ts kvs → H1 p = none → o.dict = none → Q (.ref p) (upd H1 p (.frz o (.tup (ts.map V.ref))))
def tTupItems (te : TE) : TE := fun σ H Q => te σ H fun x H1 => rItemsT x H1 Q
theorem pe_tupItems {e : Expr} {te : TE} {p apos cpos pos : Pos} (calm : X.calm = true) (he : PE X e te) (g1 : Gl X "tuple") (m1 : X.mg "tuple" = none) (base : attributeBase e "items" X.env (eval e X.env) = eval e X.env := by rfl) (line : (apos.endLine == cpos.line) = true := by rfl)
    (hs : starEach [.Call (.Attribute e "items" apos) [] [] cpos] X.env = (false, eval (.Call (.Attribute e "items" apos) [] [] cpos) X.env) :: starEach [] X.env := by rfl) :
    PE X (.Call (.Name "tuple" p) [.Call (.Attribute e "items" apos) [] [] cpos] [] pos) (tTupItems te) := by
  constructor; intro pins s σ H Q I hq
  refine wpAny_Call_Name_kw (ld_blt I g1 m1 boot_tuple (callWith_type1 ?_ hs rfl)); rw [hs]
  refine (show wpAny _ _ (spliced ((false, eval (.Call (.Attribute e "items" apos) [] [] cpos) X.env) :: backTo pos (starEach [] X.env))) _ _ s from Calls.spliced_cons ?_)
  refine wpAny_Call_method (T := "dict") (id := "dict.items") base rfl line F.plainAttrs_dict F.slot_dict_items F.type_dict_items (thn (he.run pins s σ H _ I hq) fun u t ⟨x, H1, I1, rx, d, kvs, ex, hd, q⟩ => ?_)
  subst ex; obtain rfl : u = Value.ref d := rx
  obtain ⟨sz, h0, vs, kv, dd⟩ := hd.ok I1.hok
  obtain ⟨ep, at_⟩ := dd.dictAt
  have lk : kvs.length = vs.length := Paired.length kv
  have I2 : Inv X pins σ H1 { t with heap := t.heap.push { cls := .type "dict_items", data := .fields #[.ref d] } } := I1.kept (t' := t.toks) fun b ob q => Heap.get?_push_of_some _ q
  refine ⟨dd.typeIs, dd.mapOf.noDict, (show wpAny _ _ (callWith cpos (.builtin "dict.items") [.ref d] [] []) _ X.xe t from ?_)⟩
  refine method_meetsIn F.slot_dict_items F.entry_dict_items rfl (PySem.evalArgs_none ⟨rfl, dd.typeIs, F.args_dict_items_1 _, _, meets_dict_items (mixKind X.prog X.w) d h0, ⟨vs, dd⟩, Calls.spliced_nil ?_⟩)
  refine call_tuple_items (knd := mixKind X.prog X.w) (kvs := vs) (ep := ep) (I1.ok.hd calm) ⟨_, Heap.get?_push_size _ rfl, rfl, rfl⟩ (at_.push _) (by omega) fun h1 tk as old len g => ?_
  obtain ⟨H2, k1, k2, k3, J⟩ := pairs_laid (tk := tk) I2 kv old len g
  exact ⟨.ref h1.objs.size, _, J.laid (t' := tk) (o := .frz (tupOf as) (.tup (as.map V.ref))) (fun b o e => Heap.get?_push_of_some _ e) (Nat.le_refl _) (frz_ok (by rw [List.length_map]; omega) (LiI.vals_refs as)), rfl, q H2 _ _ as k1 k2 k3 (J.hok.fresh (Nat.le_refl _)) rfl⟩
end
def pairsD (ks : List Key) (ds : List D) : List D := List.zipWith (fun k d => .tup [keyD k, d]) ks ds
def gTupItems : List D → Option D
  | [.dct ks ds] => some (.tup (pairsD ks ds))
  | _ => none
section
variable {K : PySem.W.Frag} {F H : Hp}
theorem rps_pairs {F' : Hp} (le : FLe F F') : ∀ {ts : List Addr} {kvs : List (Key × V)} {ds : List D}, Paired (fun (t : Addr) (q : Key × V) => TupC F' t [kV q.1, q.2]) ts kvs → Rps K F (kvs.map (·.2)) ds → Rps K F' (ts.map V.ref) (pairsD (kvs.map (·.1)) ds)
  | _, _, _, .nil, .nil => .nil
  | _, _, _, .cons h t, .cons r rs => .cons (.tup h (.cons (rp_key _) (.cons (r.mono le) .nil))) (rps_pairs le t rs)
def newF (F H1 : Hp) (p : Addr) (o : Obj) (ts : List Addr) : Hp := fun b => if b = p then some (.frz o (.tup (ts.map V.ref))) else if b ∈ ts then H1 b else F b
theorem newF_p {H1 : Hp} {p : Addr} {o : Obj} {ts : List Addr} : newF F H1 p o ts p = some (.frz o (.tup (ts.map V.ref))) := if_pos rfl
theorem newF_t {H1 : Hp} {p b : Addr} {o : Obj} {ts : List Addr} (n : b ≠ p) (m : b ∈ ts) : newF F H1 p o ts b = H1 b := by unfold newF; rw [if_neg n, if_pos m]
theorem newF_o {H1 : Hp} {p b : Addr} {o : Obj} {ts : List Addr} (n : b ≠ p) (m : b ∉ ts) : newF F H1 p o ts b = F b := by unfold newF; rw [if_neg n, if_neg m]
theorem paired_on {α β : Type} {P Q : α → β → Prop} : ∀ {us : List α} {ws : List β}, (∀ u ∈ us, ∀ w, P u w → Q u w) → Paired P us ws → Paired Q us ws
  | _, _, _, .nil => .nil
  | _, _, h, .cons e t => .cons (h _ (.head _) _ e) (paired_on (fun u m => h u (.tail _ m)) t)
theorem items_new (fh : FLe F H) {kvs : List (Key × V)} {ds : List D} (r : Rps K F (kvs.map (·.2)) ds) {H1 : Hp} {p : Addr} {ts : List Addr} (keep : ∀ b o, H b = some o → H1 b = some o) (free : ∀ t ∈ ts, H t = none)
    (at_ : Paired (fun (t : Addr) (q : Key × V) => TupC H1 t [kV q.1, q.2]) ts kvs) (np : H1 p = none) {o : Obj} (ho : o.dict = none) :
    ∃ F', New F H F' (upd H1 p (.frz o (.tup (ts.map V.ref)))) ∧ Rp K F' (.ref p) (.tup (pairsD (kvs.map (·.1)) ds)) := by
  have hp : H p = none := by
    cases e : H p with
    | none => rfl
    | some o => rw [keep p o e] at np; cases np
  have nt : p ∉ ts := fun q => by
    obtain ⟨j, y, _, _, _, _, e⟩ := LiI.paired_ix at_ q
    rw [np] at e; cases e
  have le : FLe F (newF F H1 p o ts) := fun a o e => by
    have h := fh a o e
    rw [newF_o (fun q => by rw [q, hp] at h; cases h) (fun q => by rw [free a q] at h; cases h)]
    exact e
  refine ⟨newF F H1 p o ts, ⟨le, fun a o e => ?_, fun a o e => ?_, fun a o e => ?_, fun h a ps z => ?_⟩, .tup ⟨o, ho, newF_p⟩ (rps_pairs le (paired_on (fun u m w e => ?_) at_) r)⟩
  · rw [upd_ne (fun q => by rw [q, hp] at e; cases e)]
    exact keep a o e
  · by_cases n1 : a = p
    · rw [n1, newF_p] at e; rw [n1, upd_same]; exact e
    · rw [upd_ne n1]
      by_cases n2 : a ∈ ts
      · rw [newF_t n1 n2] at e; exact e
      · rw [newF_o n1 n2] at e; exact keep a o (fh a o e)
  · by_cases n1 : a = p
    · exact .inr (by rw [n1]; exact hp)
    · by_cases n2 : a ∈ ts
      · exact .inr (free a n2)
      · rw [newF_o n1 n2] at e; exact .inl e
  · by_cases n1 : a = p
    · rw [n1, newF_p] at z; cases z; rfl
    · by_cases n2 : a ∈ ts
      · obtain ⟨j, y, _, _, _, _, e⟩ := LiI.paired_ix at_ n2
        rw [newF_t n1 n2, e] at z; cases z; rfl
      · rw [newF_o n1 n2] at z; exact h a ps z
  · obtain ⟨ob, h1, h2⟩ := e
    exact ⟨ob, h1, by rw [newF_t (fun q : u = p => nt (by rw [← q]; exact m)) m]; exact h2⟩
end
section
variable {G : Gx} {ex : Exx} {X : Cx} {W : WX} {p apos cpos pos : Pos}
theorem psem_tupItems : PSem G (r1L rItemsT) gTupItems := fun F H vs ds d Q fh vw e q => by
  unfold gTupItems at e
  split at e
  · cases e
    cases vw with
    | cons h t =>
      cases t
      obtain ⟨a, kvs, rfl, rd, rfl, r⟩ := h.dct fh
      refine ⟨_, rfl, a, kvs, rfl, rd, fun H1 p o ts keep free at_ np ho => ?_⟩
      obtain ⟨F', nw, rp⟩ := items_new fh r keep free at_ np ho
      exact q _ _ F' nw rp
  · cases e
theorem d_tupItems {e : Expr} {se : SO} (calm : X.calm = true) (g1 : Gl X "tuple") (m1 : X.mg "tuple" = none) (he : DO (GK X ex) X W e se) (base : attributeBase e "items" X.env (eval e X.env) = eval e X.env := by rfl) (line : (apos.endLine == cpos.line) = true := by rfl)
    (hs : starEach [.Call (.Attribute e "items" apos) [] [] cpos] X.env = (false, eval (.Call (.Attribute e "items" apos) [] [] cpos) X.env) :: starEach [] X.env := by rfl) :
    DE (GK X ex) X W (.Call (.Name "tuple" p) [.Call (.Attribute e "items" apos) [] [] cpos] [] pos) (sOps gTupItems (b1 se)) :=
  wkE (pe_tupItems calm he g1 m1 base line hs) fun σ H Q h => one_ops (r := rItemsT) psem_tupItems h
end
end Dt
set_option Elab.async false
set_option linter.all false
set_option maxRecDepth 100000
set_option maxHeartbeats 4000000
namespace Dt
open PySem PySem.Spec PyProof.Rows L2
variable [HW]
section
variable {X : Cx} {W : WX} {ex : Exx} {a : Expr} {pos : Pos} {sa : SO}
/-- s[::-1] as a value, s a tuple or a list -/
def sRevE (s : SO) : SE := fun ρ => (s ρ).bind fun o ρ' => match o.get ρ' with
  | some (.lst xs) => .ok (.lst xs.reverse) ρ'
  | some (.tup xs) => .ok (.tup xs.reverse) ρ'
  | _ => .stuck
@[simp] theorem ev_revE (s : SO) (ρ : Env) : sRevE s ρ = (s ρ).bind fun o ρ' => match o.get ρ' with | some (.lst xs) => .ok (.lst xs.reverse) ρ' | some (.tup xs) => .ok (.tup xs.reverse) ρ' | _ => .stuck := rfl
end
end Dt
set_option Elab.async false
set_option linter.all false
set_option maxRecDepth 100000
set_option maxHeartbeats 4000000
namespace Dt
open PySem PySem.Spec PyProof.Rows L2
variable [HW]
section
variable {X : Cx} {pins : List (Addr × Obj)} {σ : L2.St} {H : Hp} {s : Shared}
theorem pairsV (I : Inv X pins σ H s) : ∀ {ps : List Addr} {kvs : List (Key × V)}, Paired (fun p kv => SqT X.K H p [kV kv.1, kv.2]) ps kvs →
    ∃ (us : List (Value × Value)) (prs : List (Key × Value)), KV kvs prs ∧ us.length = ps.length ∧ prs.length = ps.length ∧ ∀ (j : Nat) (k v : Value), us[j]? = some (k, v) → ∃ (b : Addr) (key : Key), ps[j]? = some b ∧ IsTup s.heap b #[k, v] ∧ prs[j]? = some (key, v) ∧ keyIs key k = true
  | _, _, .nil => ⟨[], [], .nil, rfl, rfl, fun j k v e => by simp at e⟩
  | _, _, .cons (a := p) (b := kv) h t => by
    obtain ⟨us, prs, r, l1, l2, hp⟩ := pairsV I t
    obtain ⟨its, rv, ht, _⟩ := I.tuple h
    obtain ⟨u, y, ei, ru, ry⟩ := vals2 rv
    subst ei
    refine ⟨(u, y) :: us, (kv.1, y) :: prs, .cons ⟨rfl, ry⟩ r, by simp [l1], by simp [l2], fun j k v e => ?_⟩
    cases j with
    | zero =>
      obtain ⟨rfl, rfl⟩ := Prod.mk.inj (Option.some.inj e)
      exact ⟨p, kv.1, rfl, ht, rfl, kV_is (P := X.prog) (w := X.w) ru⟩
    | succ j =>
      obtain ⟨b, key, e1, e2, e3, e4⟩ := hp j k v (by simpa using e)
      exact ⟨b, key, by simpa using e1, e2, by simpa using e3, e4⟩
def rDictT0 (K : PySem.W.Frag) : List V → Hp → VK → Prop := fun xs H Q => ∃ (a : Addr) (ps : List Addr) (kvs : List (Key × V)), xs = [V.ref a] ∧ TupC H a (ps.map V.ref) ∧ Paired (fun p kv => SqT K H p [kV kv.1, kv.2]) ps kvs ∧ ∀ p, H p = none → Q (.ref p) (upd H p (.dK (mergeK [] kvs)))
theorem call_dictT0 (calm : X.calm = true) : CallR X (.type "dict") (rDictT0 X.K) := by
  intro pins s σ H xs us Q I r ⟨a, ps, kvs, ex, ⟨o, hd, ha⟩, hp, q⟩
  subst ex
  obtain ⟨u, eu, rx⟩ := vals1 r
  subst eu; cases rx
  obtain ⟨at1, hz, its, rv, o2, at2, hc, n, hdat⟩ := I.hok a _ ha
  obtain rfl : o = o2 := Option.some.inj (at1.symm.trans at2)
  obtain rfl := refs_at rv
  rw [List.length_map] at hz
  obtain ⟨vs, prs, rel, l1, l2, hpr⟩ := pairsV I hp
  refine PySem.call_dict_pairs (knd := mixKind X.prog X.w) (kvs := prs) (PairArg.tuple a (ps.map Value.ref).toArray (fun j => ps.getD j 0) vs) (I.ok.hd calm) ⟨⟨o, n, at1, hc, hd, hdat⟩, by simp [l1], fun j k v e => ?_⟩ ⟨by omega, fun j k v e => ?_⟩ (by omega) fun h1 tk hd1 old => ?_
  · obtain ⟨b, key, e1, e2, e3, e4⟩ := hpr j k v e
    exact ⟨by simp [e1], .inl (by show s.heap.IsTuple (ps.getD j 0) #[k, v]; rw [List.getD_eq_getElem?_getD, e1]; exact e2)⟩
  · obtain ⟨b, key, e1, e2, e3, e4⟩ := hpr j k v e
    exact ⟨key, e3, e4⟩
  · have big : (s.heap.objs.size == sysModules) = false := beq_eq_false_iff_ne.mpr (Nat.ne_of_gt I.big)
    have fits : (mergeK [] kvs).length ≤ sizeLine := Nat.le_trans (length_mergeK kvs []) (by rw [List.length_nil, Nat.zero_add, rel.length, l2]; exact hz)
    exact ⟨.ref s.heap.objs.size, _, I.laid (t' := tk) (o := .dK (mergeK [] kvs)) (fun b o e => old b o (by simp) e) (Nat.le_refl _) ⟨fits, big, merged [] prs, KV.merge rel .nil, hd1⟩, rfl, q _ (I.hok.fresh (Nat.le_refl _))⟩
/-- .. or the copy of a dict -/
def rDictL (K : PySem.W.Frag) : List V → Hp → VK → Prop := fun xs H Q => ∃ (a : Addr) (ps : List Addr) (kvs : List (Key × V)), xs = [V.ref a] ∧ SqL K H a (ps.map V.ref) ∧ Paired (fun p kv => SqT K H p [kV kv.1, kv.2]) ps kvs ∧ ∀ p, H p = none → Q (.ref p) (upd H p (.dK (mergeK [] kvs)))
/-- .. of the empty tuple that is written -/
def rDictE (K : PySem.W.Frag) : List V → Hp → VK → Prop := fun xs H Q => ∃ a : Addr, xs = [V.ref a] ∧ EtC K a ∧ ∀ p, H p = none → Q (.ref p) (upd H p (.dK []))
theorem call_dictE (calm : X.calm = true) : CallR X (.type "dict") (rDictE X.K) := by
  intro pins s σ H xs us Q I r ⟨a, ex, ⟨n, sl, ha⟩, q⟩
  subst ex
  obtain ⟨u, eu, rx⟩ := vals1 r
  subst eu; cases rx
  have at1 := I.kIn _ _ ha
  refine PySem.call_dict_pairs (knd := mixKind X.prog X.w) (kvs := ([] : List (Key × Value))) (PairArg.tuple a #[] (fun j => 0) ([] : List (Value × Value))) (I.ok.hd calm) ⟨⟨_, n, at1, rfl, rfl, rfl⟩, rfl, fun j k v e => nomatch e⟩ ⟨rfl, fun j k v e => nomatch e⟩ (Nat.zero_le _) fun h1 tk hd1 old => ?_
  have big : (s.heap.objs.size == sysModules) = false := beq_eq_false_iff_ne.mpr (Nat.ne_of_gt I.big)
  exact ⟨.ref s.heap.objs.size, _, I.laid (t' := tk) (o := .dK []) (fun b o e => old b o (by simp) e) (Nat.le_refl _) ⟨Nat.zero_le _, big, merged [] [], KV.merge (.nil : KV [] []) .nil, hd1⟩, rfl, q _ (I.hok.fresh (Nat.le_refl _))⟩
def rDictT (K : PySem.W.Frag) : List V → Hp → VK → Prop := fun xs H Q => rDictT0 K xs H Q ∨ (∃ (a : Addr) (kvs : List (Key × V)), xs = [V.ref a] ∧ Rd H a (.dK kvs) ∧ ∀ p, H p = none → Q (.ref p) (upd H p (.dK kvs))) ∨ rDictL K xs H Q ∨ rDictE K xs H Q
theorem call_dictT (calm : X.calm = true) : CallR X (.type "dict") (rDictT X.K) := by
  intro pins s σ H xs us Q I r h
  rcases h with h | h | h | h
  · exact call_dictT0 calm pins s σ H xs us Q I r h
  · exact call_dictD pins s σ H xs us Q I r h
  · exact call_dictP calm pins s σ H xs us Q I r h
  · exact call_dictE calm pins s σ H xs us Q I r h
end
/-- the pairs' keys and values, one put behind the other -/
def dictGo : List D → List Key × List D → Option (List Key × List D)
  | [], acc => some acc
  | .tup [k, d] :: ds, acc => (keyOf k).bind fun k => dictGo ds (dPut acc.1 acc.2 k d)
  | _ :: _, _ => none
def gDict : List D → Option D
  | [.tup ds] => (dictGo ds ([], [])).map fun r => .dct r.1 r.2
  | [.dct ks ds] => some (.dct ks ds)
  | [.lst ds] => (dictGo ds ([], [])).map fun r => .dct r.1 r.2
  | [.etup] => some (.dct [] [])
  | _ => none
section
variable {K : PySem.W.Frag} {F H : Hp}
theorem dict_go_rps : ∀ {vs : List V} {ds : List D} {acc : List (Key × V)} {da : List D} {r : List Key × List D}, Rps K F vs ds → Rps K F (acc.map (·.2)) da → dictGo ds (acc.map (·.1), da) = some r →
    ∃ (ps : List Addr) (kvs : List (Key × V)), vs = ps.map V.ref ∧ Paired (fun p kv => TupC F p [kV kv.1, kv.2]) ps kvs ∧ (mergeK acc kvs).map (·.1) = r.1 ∧ Rps K F ((mergeK acc kvs).map (·.2)) r.2
  | _, _, acc, da, r, .nil, ra, e => by
    cases e
    exact ⟨[], [], rfl, .nil, rfl, ra⟩
  | _, _, acc, da, r, .cons (v := v) (d := d) h t, ra, e => by
    unfold dictGo at e
    split at e
    · rename_i h0; cases h0
    · rename_i k d ds h0
      cases h0
      cases h with
      | tup tc r2 =>
        cases r2 with
        | cons hk r3 =>
          cases r3 with
          | cons hd r4 =>
            cases r4
            cases ek : keyOf k with
            | none => rw [ek] at e; cases e
            | some key =>
              rw [ek, Option.bind_some] at e
              have ew := keyOf_vw (H := F) (.inl hk) ek
              subst ew
              obtain ⟨k1, k2⟩ := dPut_put (k := key) hd ra
              obtain ⟨ps, kvs, e1, e2, e3, e4⟩ := dict_go_rps (acc := putK acc key _) t k2 (by rw [k1]; exact e)
              exact ⟨_ :: ps, (key, _) :: kvs, by rw [e1]; rfl, .cons tc e2, e3, e4⟩
    · cases e
end
section
variable {G : Gx} {ex : Exx} {X : Cx} {W : WX}
theorem fsem_dict : FSem G (rDictT G.K) gDict := fun F H vs ds d Q fh vw e q => by
  unfold gDict at e
  split at e
  · rename_i ds
    cases e1 : dictGo ds ([], []) with
    | none => rw [e1] at e; cases e
    | some r =>
      rw [e1] at e
      cases e
      cases vw with
      | cons h t =>
        cases t
        rcases h with h | ⟨_, _, _, _, h⟩
        · cases h with
          | tup tc rs =>
            obtain ⟨ps, kvs, e2, e3, e4, e5⟩ := dict_go_rps (acc := []) rs .nil e1
            subst e2
            exact .inl ⟨_, ps, kvs, rfl, fh.tupC tc, paired_on (fun u _ w hw => (fh.tupC hw).sq) e3, fun p hp => q p _ hp ⟨_, rfl, e4, e5⟩⟩
        · exact h.elim
  · cases e
    obtain ⟨v, rfl, h⟩ := vw.one
    obtain ⟨a, kvs, rfl, rd, rfl, r⟩ := h.dct fh
    exact .inr (.inl ⟨a, kvs, rfl, rd, fun p hp => q p _ hp ⟨_, rfl, rfl, r⟩⟩)
  · rename_i ds
    cases e1 : dictGo ds ([], []) with
    | none => rw [e1] at e; cases e
    | some r =>
      rw [e1] at e
      cases e
      obtain ⟨v, rfl, h⟩ := vw.one
      obtain ⟨a, zs, rfl, t, rs⟩ := h.lst fh
      obtain ⟨ps, kvs, e2, e3, e4, e5⟩ := dict_go_rps (acc := []) rs .nil e1
      subst e2
      exact .inr (.inr (.inl ⟨a, ps, kvs, rfl, SqL.of t, paired_on (fun u _ w hw => (fh.tupC hw).sq) e3, fun p hp => q p _ hp ⟨_, rfl, e4, e5⟩⟩))
  · cases e
    obtain ⟨v, rfl, h⟩ := vw.one
    obtain ⟨a, rfl, t⟩ := h.etup
    exact .inr (.inr (.inr ⟨a, rfl, t, fun p hp => q p _ hp ⟨[], rfl, rfl, .nil⟩⟩))
  · cases e
end
def sGet1 (so : SO) (sk : SE) : SE := fun ρ => (so ρ).bind fun o ρ1 => match o.get ρ1 with
  | some (.dct _ _) => (sk ρ1).bind fun kd ρ2 => match o.get ρ2, keyOf kd with
    | some (.dct ks ds), some k => .ok ((dLook ks ds k).getD .non) ρ2
    | _, _ => .stuck
  | _ => .stuck
def sGet2 (so : SO) (sk sx : SE) : SE := fun ρ => (so ρ).bind fun o ρ1 => match o.get ρ1 with
  | some (.dct _ _) => (sk ρ1).bind fun kd ρ2 => (sx ρ2).bind fun x ρ3 => match o.get ρ3, keyOf kd with
    | some (.dct ks ds), some k => .ok ((dLook ks ds k).getD x) ρ3
    | _, _ => .stuck
  | _ => .stuck
@[simp] theorem ev_get1 (so : SO) (sk : SE) (ρ : Env) : sGet1 so sk ρ = (so ρ).bind fun o ρ1 => match o.get ρ1 with
  | some (.dct _ _) => (sk ρ1).bind fun kd ρ2 => match o.get ρ2, keyOf kd with
    | some (.dct ks ds), some k => .ok ((dLook ks ds k).getD .non) ρ2
    | _, _ => .stuck
  | _ => .stuck := rfl
@[simp] theorem ev_get2 (so : SO) (sk sx : SE) (ρ : Env) : sGet2 so sk sx ρ = (so ρ).bind fun o ρ1 => match o.get ρ1 with
  | some (.dct _ _) => (sk ρ1).bind fun kd ρ2 => (sx ρ2).bind fun x ρ3 => match o.get ρ3, keyOf kd with
    | some (.dct ks ds), some k => .ok ((dLook ks ds k).getD x) ρ3
    | _, _ => .stuck
  | _ => .stuck := rfl
section
variable {ex : Exx} {X : Cx} {W : WX} {o e f : Expr} {apos cpos : Pos} {so : SO} {sk sx : SE}
theorem vw_isD {K : PySem.W.Frag} {F H : Hp} (fh : FLe F H) {v : V} {ks : List Key} {ds : List D} (h : Vw K F H v (.dct ks ds)) : ∃ a, v = .ref a ∧ IsD H a := by
  obtain ⟨a, kvs, e, rd, _⟩ := h.dct fh
  exact ⟨a, e, .inl ⟨kvs, rd⟩⟩
theorem d_get1 (hu : At X W) (ho : DO (GK X ex) X W o so) (he : DE (GK X ex) X W e sk) (m : M1 X o "get" apos e cpos := by exact ⟨rfl, rfl, rfl, rfl⟩) : DE (GK X ex) X W (.Call (.Attribute o "get" apos) [e] [] cpos) (sGet1 so sk) :=
  wkE (pe_dget1 (by have := hu.un; omega) ho he m) fun σ H Q ⟨ρ, F, Rv, io, rel, q⟩ => by
    refine ⟨ρ, F, Rv, io, rel, ?_⟩
    unfold sGet1 at q
    cases e1 : so ρ with
    | stuck => rw [e1] at q; exact q.elim
    | exc x ρ' => rw [e1] at q; exact q
    | ok od ρ1 =>
      rw [e1, R.bind_ok] at q
      intro v H1 F1 le1 rel1 ok1
      cases e2 : od.get ρ1 with
      | none => rw [e2] at q; exact q.elim
      | some d =>
        rw [e2] at q
        cases d with
        | dct ks ds =>
          obtain ⟨a, rfl, isd⟩ := vw_isD rel1.fH (rel1.view (G := GK X ex) ok1 e2)
          refine ⟨a, rfl, isd, ρ1, F1, Rv, io, rel1, ?_⟩
          cases e3 : sk ρ1 with
          | stuck => rw [e3] at q; exact q.elim
          | exc x ρ' => rw [e3] at q; exact XPost.le q le1
          | ok kd ρ2 =>
            rw [e3] at q
            intro kv H2 F2 le2 rel2 rk
            have q : match (match od.get ρ2, keyOf kd with | some (.dct ks ds), some k => R.ok ((dLook ks ds k).getD .non) ρ2 | _, _ => .stuck) with | .ok d ρ' => EPost (GK X ex) io Rv F σ ρ' d Q | .exc x ρ' => XPost (GK X ex) W io Rv F ρ' x | .stuck => False := q
            cases e4 : od.get ρ2 with
            | none => rw [e4] at q; exact q.elim
            | some d2 =>
              rw [e4] at q
              cases d2 with
              | dct ks2 ds2 =>
                cases e5 : keyOf kd with
                | none => rw [e5] at q; exact q.elim
                | some k =>
                  rw [e5] at q
                  have q : EPost (GK X ex) io Rv F σ ρ2 ((dLook ks2 ds2 k).getD .non) Q := q
                  obtain ⟨b, kvs, eb, rd, ek, r⟩ := (rel2.view (G := GK X ex) (ok1.mono le2) e4).dct rel2.fH
                  cases eb
                  have ew := keyOf_vw (H := F2) (.inl rk) e5
                  refine ⟨valV kvs k, .inl ⟨kvs, k, rd, ew, rfl⟩, ?_⟩
                  rcases dLook_val k ek r with ⟨z1, z2⟩ | ⟨u, d', z1, z2, rp⟩
                  · rw [z1]; rw [z2] at q; exact q _ _ _ (le1.trans le2) rel2 .non
                  · rw [z1]; rw [z2] at q; exact q _ _ _ (le1.trans le2) rel2 rp
              | _ => exact q.elim
        | _ => exact q.elim
theorem d_get2 (hu : At X W) (ho : DO (GK X ex) X W o so) (he : DE (GK X ex) X W e sk) (hf : DE (GK X ex) X W f sx) (m : M2 X o "get" apos e f cpos := by exact ⟨rfl, rfl, rfl, rfl⟩) : DE (GK X ex) X W (.Call (.Attribute o "get" apos) [e, f] [] cpos) (sGet2 so sk sx) :=
  wkE (pe_dget2 (by have := hu.un; omega) ho he hf m) fun σ H Q ⟨ρ, F, Rv, io, rel, q⟩ => by
    refine ⟨ρ, F, Rv, io, rel, ?_⟩
    unfold sGet2 at q
    cases e1 : so ρ with
    | stuck => rw [e1] at q; exact q.elim
    | exc x ρ' => rw [e1] at q; exact q
    | ok od ρ1 =>
      rw [e1, R.bind_ok] at q
      intro v H1 F1 le1 rel1 ok1
      cases e2 : od.get ρ1 with
      | none => rw [e2] at q; exact q.elim
      | some d =>
        rw [e2] at q
        cases d with
        | dct ks ds =>
          obtain ⟨a, rfl, isd⟩ := vw_isD rel1.fH (rel1.view (G := GK X ex) ok1 e2)
          refine ⟨a, rfl, isd, ρ1, F1, Rv, io, rel1, ?_⟩
          cases e3 : sk ρ1 with
          | stuck => rw [e3] at q; exact q.elim
          | exc x ρ' => rw [e3] at q; exact XPost.le q le1
          | ok kd ρ2 =>
            rw [e3] at q
            intro kv H2 F2 le2 rel2 rk
            refine ⟨ρ2, F2, Rv, io, rel2, ?_⟩
            have q : match ((sx ρ2).bind fun x ρ3 => match od.get ρ3, keyOf kd with | some (.dct ks ds), some k => R.ok ((dLook ks ds k).getD x) ρ3 | _, _ => .stuck) with | .ok d ρ' => EPost (GK X ex) io Rv F σ ρ' d Q | .exc x ρ' => XPost (GK X ex) W io Rv F ρ' x | .stuck => False := q
            cases e6 : sx ρ2 with
            | stuck => rw [e6] at q; exact q.elim
            | exc x ρ' => rw [e6] at q; exact XPost.le q (le1.trans le2)
            | ok xd ρ3 =>
            rw [e6, R.bind_ok] at q
            intro xv H3 F3 le3 rel3 rx
            cases e4 : od.get ρ3 with
            | none => rw [e4] at q; exact q.elim
            | some d2 =>
              rw [e4] at q
              cases d2 with
              | dct ks2 ds2 =>
                cases e5 : keyOf kd with
                | none => rw [e5] at q; exact q.elim
                | some k =>
                  rw [e5] at q
                  have q : EPost (GK X ex) io Rv F σ ρ3 ((dLook ks2 ds2 k).getD xd) Q := q
                  obtain ⟨b, kvs, eb, rd, ek, r⟩ := (rel3.view (G := GK X ex) (ok1.mono (le2.trans le3)) e4).dct rel3.fH
                  cases eb
                  have ew := keyOf_vw (H := F2) (.inl rk) e5
                  refine ⟨valV kvs k, .inl ⟨kvs, k, rd, ew, rfl⟩, ?_⟩
                  rcases dLook_val k ek r with ⟨z1, z2⟩ | ⟨u, d', z1, z2, rp⟩
                  · rw [z1]; rw [z2] at q; exact q _ _ _ ((le1.trans le2).trans le3) rel3 rx
                  · rw [z1]; rw [z2] at q; exact q _ _ _ ((le1.trans le2).trans le3) rel3 rp
              | _ => exact q.elim
        | _ => exact q.elim
end
end Dt
set_option Elab.async false
set_option linter.all false
set_option maxRecDepth 100000
set_option maxHeartbeats 4000000
namespace Dt
open PySem PySem.Spec PyProof.Rows L2
variable [HW]
section
variable {ex : Exx} {X : Cx} {W : WX} {pos : Pos}
/-- a statement whose meaning is stuck: that it is never run is the plain law's to show -/
def sNever : SS := fun _ => .stuck
@[simp] theorem ev_never (ρ : Env) : sNever ρ = .stuck := rfl
theorem d_never {st : Stmt} : DS (GK X ex) X W st sNever := ⟨fun pins s σ H D I h => by
  obtain ⟨ρ, F, Rv, io, rel, q⟩ := h
  exact q.elim⟩
/-- a, b = x, y -/
def sPar (i j : Nat) (s : SA) : SS := fun ρ => (s ρ).bind fun ds ρ1 => match ds with
  | [d, e] => (gSet i d ρ1).bind fun _ ρ2 => (gSet j e ρ2).bind fun _ ρ3 => .ok .nx ρ3
  | _ => .stuck
@[simp] theorem ev_par (i j : Nat) (s : SA) (ρ : Env) : sPar i j s ρ = (s ρ).bind fun ds ρ1 => match ds with
  | [d, e] => (gSet i d ρ1).bind fun _ ρ2 => (gSet j e ρ2).bind fun _ ρ3 => .ok .nx ρ3
  | _ => .stuck := rfl
theorem d_par {i j : Nat} {x y : Str} {a b : Expr} {sA : SA} {px py pt : Pos} {kt k2 pt2} (hu : At X W) (hi : X.N[i]? = some x) (hj : X.N[j]? = some y) (hij : i ≠ j) (hx : X.env.scope.names.lookup x = some .local) (hy : X.env.scope.names.lookup y = some .local)
    (ha : DA (GK X ex) X W [a, b] sA) (hw : swappedStores [.Tuple [.Name x px, .Name y py] kt pt] (.Tuple [a, b] k2 pt2) X.env = pure (some [x, y])) (hs : swapsWithSole [.Tuple [.Name x px, .Name y py] kt pt] (.Tuple [a, b] k2 pt2) pos.line X.env = pure false := by rfl) :
    DS (GK X ex) X W (.Assign [.Tuple [.Name x px, .Name y py] kt pt] (.Tuple [a, b] k2 pt2) pos) (sPar i j sA) := wkS (ps_par hu.calm hu.nd hi hj hij hx hy ha hw hs) fun D σ H ⟨ρ, F, Rv, io, rel, q⟩ => by
  refine ⟨ρ, F, Rv, io, rel, ?_⟩
  unfold sPar at q
  cases e : sA ρ with
  | stuck => rw [e] at q; exact q.elim
  | exc x ρ' => rw [e] at q; exact q
  | ok ds ρ1 =>
    rw [e, R.bind_ok] at q
    intro vs H1 F1 le1 rel1 r
    match ds, r, q with
    | [d1, d2], .cons (v := v1) r1 (.cons (v := v2) r2 .nil), q =>
      refine ⟨v1, v2, rfl, ?_⟩
      cases e1 : gSet i d1 ρ1 with
      | stuck => dsimp only at q; rw [e1] at q; exact q.elim
      | exc x ρ'' => unfold gSet at e1; split at e1 <;> cases e1
      | ok u ρ2 =>
        dsimp only at q
        rw [e1, R.bind_ok] at q
        obtain ⟨h1, rfl⟩ := gSet_ok e1
        cases e2 : gSet j d2 (ρ1.set i (.fro d1)) with
        | stuck => rw [e2] at q; exact q.elim
        | exc x ρ'' => unfold gSet at e2; split at e2 <;> cases e2
        | ok u ρ3 =>
          rw [e2, R.bind_ok] at q
          obtain ⟨h2, rfl⟩ := gSet_ok e2
          exact q _ H1 F1 le1 ((rel1.setFro r1 h1).setFro r2 h2)
end
end Dt
set_option Elab.async false
set_option linter.all false
set_option maxRecDepth 100000
set_option maxHeartbeats 4000000
namespace Dt
open PySem PySem.Spec PyProof.Rows L2 StX
variable [HW]
section
variable {P : Program} {w : World} {K : PySem.W.Frag} {mg : Str → Option Value} {base : Heap}
structure CalS (P : Program) (w : World) (K : PySem.W.Frag) (mg : Str → Option Value) (base : Heap) (x : Str) (k : Nat) (sp : Sp) : Prop where
  there : ∃ f, FnR P w K mg base (L2N.CX P w) k f sp ∧ mg x = some (.ref f) ∧ PySem.W.keepIn K (.ref f) = true
theorem CalS.mono {j k : Nat} {x : Str} {sp : Sp} (C : CalS P w K mg base x j sp) (h : j ≤ k) : CalS P w K mg base x k sp := let ⟨f, F, r⟩ := C.there; ⟨f, FnR.mono F h, r⟩
end
section
variable {ex : Exx} {X : Cx} {W : WX} {e : Expr} {es : List Expr} {pos p : Pos} {x : Str} {sA : SA} {k : Nat} {g : List D → FR}
def sCallS (g : List D → FR) (s : SA) : SE := fun ρ => (s ρ).bind fun ds ρ' => if ds.length ≤ sizeLine then endP (g [.arg ds]) ρ' else .stuck
@[simp] theorem ev_callS (g : List D → FR) (s : SA) (ρ : Env) : sCallS g s ρ = (s ρ).bind fun ds ρ' => if ds.length ≤ sizeLine then endP (g [.arg ds]) ρ' else .stuck := rfl
end
end Dt
set_option Elab.async false
set_option linter.all false
set_option maxRecDepth 100000
set_option maxHeartbeats 4000000
namespace Dt
open PySem PySem.Spec PyProof.Rows L2
end Dt
set_option Elab.async false
set_option linter.all false
set_option maxRecDepth 100000
set_option maxHeartbeats 4000000
namespace Dt
open PySem PySem.Spec PyProof.Rows L2
variable [HW]
/-- the def at f keeps its promise -/
structure CalA (P : Program) (w : World) (K : PySem.W.Frag) (mg : Str → Option Value) (base : Heap) (f : Addr) (k : Nat) (sp : Sp) : Prop where
  there : ∃ fd ps, FnOk P w K mg base (L2N.CX P w) k f fd ps sp ∧ PySem.W.keepIn K (.ref f) = true ∧ Binds K fd ps []
theorem Cal.at_ {P : Program} {w : World} {K : PySem.W.Frag} {mg : Str → Option Value} {base : Heap} {x : Str} {j k : Nat} {sp : Sp} (C : Cal P w K mg base x j sp) (h : j ≤ k) (t : ∃ u, mg x = some u ∧ RelV (.ref (fnA K x)) u) : CalA P w K mg base (fnA K x) k sp := by
  obtain ⟨f, fd, ps, F, hm, hk, hb⟩ := C.there
  obtain ⟨u, e, r⟩ := t
  rw [hm] at e
  cases e
  have r : Value.ref f = Value.ref (fnA K x) := r
  cases r
  exact ⟨fd, ps, F.mono h, hk, hb⟩
section
variable {ex : Exx} {X : Cx} {W : WX} {e : Expr} {es : List Expr} {x : Str} {p pos : Pos} {k : Nat} {sA : SA}
def pairUp (xs ys : List D) : List D := List.zipWith (fun x y => .arg [x, y]) xs ys
def zipD : List D → Option (List D)
  | [.lst xs, .lst ys] => some (pairUp xs ys)
  | _ => none
def iZipS (s : SA) : SA := fun ρ => (s ρ).bind fun ds ρ' => ofO (zipD ds) ρ'
@[simp] theorem ev_iZip (s : SA) (ρ : Env) : iZipS s ρ = (s ρ).bind fun ds ρ' => ofO (zipD ds) ρ' := rfl
def sPairs : List (SE × SE) → Env → R (List (Key × D))
  | [], ρ => .ok [] ρ
  | t :: r, ρ => (t.1 ρ).bind fun kd ρ1 => (t.2 ρ1).bind fun d ρ2 => match keyOf kd with
    | none => .stuck
    | some k => (sPairs r ρ2).bind fun l ρ3 => .ok ((k, d) :: l) ρ3
def putAll (l : List (Key × D)) (acc : List Key × List D) : List Key × List D := l.foldl (fun acc kd => dPut acc.1 acc.2 kd.1 kd.2) acc
def sDisp (l : List (SE × SE)) : SE := fun ρ => (noX (sPairs l ρ)).bind fun l ρ' => if l.length ≤ 15 then .ok (.dct (putAll l ([], [])).1 (putAll l ([], [])).2) ρ' else .stuck
@[simp] theorem ev_pairs0 (ρ : Env) : sPairs [] ρ = .ok [] ρ := rfl
@[simp] theorem ev_pairs1 (t : SE × SE) (r : List (SE × SE)) (ρ : Env) : sPairs (t :: r) ρ = (t.1 ρ).bind fun kd ρ1 => (t.2 ρ1).bind fun d ρ2 => match keyOf kd with
    | none => .stuck
    | some k => (sPairs r ρ2).bind fun l ρ3 => .ok ((k, d) :: l) ρ3 := rfl
@[simp] theorem ev_disp (l : List (SE × SE)) (ρ : Env) : sDisp l ρ = (noX (sPairs l ρ)).bind fun l ρ' => if l.length ≤ 15 then .ok (.dct (putAll l ([], [])).1 (putAll l ([], [])).2) ρ' else .stuck := rfl
theorem Rel.keep {K : PySem.W.Frag} {T : List (Addr × Str)} {io : Io T} {Rv F : Hp} {ρ : Env} {σ : L2.St} {H : Hp} (r : Rel K io Rv ρ F σ H) {p : Addr} {o : HO} {d : D} (e : H p = some o) (ob : OwnObj K F p o d) (nF : F p = none) (lo : Loose ρ σ p) : Rel K io (L2.upd Rv p o) ρ F σ H := by
  refine ⟨r.fH, fun a u h => ?_, fun a u h => ?_, r.len, fun i c v e1 e2 => ?_, r.inj, r.ios, r.ioc, fun t ht => let q := r.tab t ht; let ⟨ps, ep⟩ := q.tbl; q.mv q.1 (by rw [upd_ne (own_ne (R := fun _ => none) ⟨nF, rfl, o, e, ob⟩ ep)]; exact q.2.1) (fun _ e => e) (FLe.refl F) (q.nR.upd (ob.nt default).1 ob.nx), r.nt⟩
  · by_cases z : a = p
    · subst z; rw [upd_same] at h; cases h; exact e
    · rw [upd_ne z] at h; exact r.rH a u h
  · rw [upd_ne (fun z => by subst z; rw [nF] at h; cases h)]
    exact r.dj a u h
  · have q := r.cell i c v e1 e2
    have own : ∀ {p' d}, v = some (.ref p') → c.held = some d → OwnAt K F Rv H p' d → OwnAt K F (L2.upd Rv p o) H p' d := fun {p' d} hv hh w =>
      ⟨w.nF, by rw [upd_ne (fun z => lo i c d e1 hh (by subst z; subst hv; exact e2))]; exact w.nR, w.at_⟩
    cases c with
    | no => trivial
    | fro d => exact q
    | own d => obtain ⟨p', e3, w⟩ := q; exact ⟨p', e3, own e3 rfl w⟩
    | io d => obtain ⟨p', e3, w⟩ := q; exact ⟨p', e3, own e3 rfl w⟩
def sAsgF (i n : Nat) (sF : SE) (s : SA) (gs : SGs) : SS := fun ρ => (sF ρ).bind fun d ρ1 => (s ρ1).bind fun ds ρ2 => if ds.length + 1 = n ∧ n ≤ 100 then (gOwn i d ρ2).bind fun _ ρ3 => (gs ds ρ3).bind fun _ ρ4 => .ok .nx ρ4 else .stuck
@[simp] theorem ev_asgF (i n : Nat) (sF : SE) (s : SA) (gs : SGs) (ρ : Env) : sAsgF i n sF s gs ρ = (sF ρ).bind fun d ρ1 => (s ρ1).bind fun ds ρ2 => if ds.length + 1 = n ∧ n ≤ 100 then (gOwn i d ρ2).bind fun _ ρ3 => (gs ds ρ3).bind fun _ ρ4 => .ok .nx ρ4 else .stuck := rfl
end
end Dt
set_option Elab.async false
set_option linter.all false
set_option maxRecDepth 100000
set_option maxHeartbeats 4000000
namespace Dt
open PySem PySem.Spec PyProof.Rows L2 RZ
variable [HW]
section
variable {ex : Exx} {X : Cx} {W : WX} {e o : Expr} {es : List Expr} {x : Str} {p pos : Pos} {sA : SA} {ea : SE}
def dctOf : Option D → Option (List Key × List D)
  | some (.dct ks ds) => some (ks, ds)
  | _ => none
/-- the variable at i is a dict of its own; what is put in is a dict that is data -/
def sDUpd (i : Nat) (s : SE) : SE := fun ρ => match dctOf (held ρ i) with
  | none => .stuck
  | some _ => (s ρ).bind fun d ρ' => match dctOf (held ρ' i), dctOf (some d) with
    | some a, some b => if a.1.length + b.1.length ≤ sizeLine then .ok .non (put ρ' i (.dct (putAll (b.1.zip b.2) a).1 (putAll (b.1.zip b.2) a).2)) else .stuck
    | _, _ => .stuck
@[simp] theorem ev_dupd (i : Nat) (s : SE) (ρ : Env) : sDUpd i s ρ = match dctOf (held ρ i) with
  | none => .stuck
  | some _ => (s ρ).bind fun d ρ' => match dctOf (held ρ' i), dctOf (some d) with
    | some a, some b => if a.1.length + b.1.length ≤ sizeLine then .ok .non (put ρ' i (.dct (putAll (b.1.zip b.2) a).1 (putAll (b.1.zip b.2) a).2)) else .stuck
    | _, _ => .stuck := rfl
@[simp] theorem dctOf_dct (ks : List Key) (ds : List D) : dctOf (some (.dct ks ds)) = some (ks, ds) := rfl
def strsOf : List D → Option (List Str)
  | [] => some []
  | .str z :: ds => (strsOf ds).map fun r => z :: r
  | _ => none
def zipT : List D → Option (List D)
  | [.tup xs, .tup ys] => some (pairUp xs ys)
  | _ => none
def iZipT (s : SA) : SA := fun ρ => (s ρ).bind fun ds ρ' => ofO (zipT ds) ρ'
@[simp] theorem ev_iZipT (s : SA) (ρ : Env) : iZipT s ρ = (s ρ).bind fun ds ρ' => ofO (zipT ds) ρ' := rfl
end
end Dt
set_option Elab.async false
set_option linter.all false
set_option maxRecDepth 100000
set_option maxHeartbeats 4000000
namespace Dt
open PySem PySem.Spec PyProof.Rows L2
variable [HW]
theorem NestedAll.of {h : Heap} {ks : List NestedKey} {us : List Value} (r : NestedAll h ks us) : NestedAll h ks us.toArray.toList := by simpa using r
section
variable {X : Cx} {pins : List (Addr × Obj)} {σ : L2.St} {H F : Hp} {s : Shared}
/-- what a dict holds at a key -/
def ndLook : List D → List D → NestedKey → Option D
  | k' :: ks, d :: ds, k => if nkey k' = some k then some d else ndLook ks ds k
  | _, _, _ => none
def ndPut (ks ds : List D) (kd : D) (k : NestedKey) (z : D) : List D × List D :=
  if (ndLook ks ds k).isSome = true then (ks, List.zipWith (fun k' d => if nkey k' = some k then z else d) ks ds) else (ks ++ [kd], ds ++ [z])
/-- a dict of the data stands at p -/
def NdAt (K : PySem.W.Frag) (F H : Hp) (p : Addr) (ks ds : List D) : Prop := ∃ ob xs vs, Rd H p (AtO p ob) ∧ NdC p ob xs ks vs ∧ Rps K F (xs.map fun x => .ref x.2.1) ks ∧ Rps K F vs ds
theorem Vw.nd {K : PySem.W.Frag} (fh : FLe F H) {v : V} {ks ds : List D} (h : Vw K F H v (.nd ks ds)) : ∃ p, v = .ref p ∧ NdAt K F H p ks ds := by
  rcases h with h | ⟨p, o, e, h1, ob, xs, vs, rfl, c, r1, r2⟩
  · cases h with
    | nd t c r1 r2 => exact ⟨_, rfl, _, _, _, .inr ⟨_, fh _ _ t⟩, c, r1, r2⟩
  · exact ⟨p, e, ob, xs, vs, .inl h1, c, r1, r2⟩
end
end Dt
set_option Elab.async false
set_option linter.all false
set_option maxRecDepth 100000
set_option maxHeartbeats 4000000
namespace Dt
open PySem PySem.Spec PyProof.Rows L2
variable [HW]
section
variable {ex : Exx} {X : Cx} {W : WX} {a b c e o tg : Expr} {es : List Expr} {pos p : Pos} {sa sb sc : SO} {ea eb : SE} {sB : SB} {sA : SA} {x : Str} {id : String} {G : Gx}
/-- d[k] = v -/
def putN (d i z : D) : Option D := match d with
  | .nd ks ds => (nkey i).bind fun k => if ks.length ≤ sizeLine then some (.nd (ndPut ks ds i k z).1 (ndPut ks ds i k z).2) else none
  | _ => none
def gPutN (i : Nat) (sk : SO) : SG := fun z ρ => match held ρ i with
  | none => .stuck
  | some _ => (sk ρ).bind fun o ρ' => match held ρ' i, o.get ρ' with
    | some d, some k => match putN d k z with
      | some d' => .ok () (put ρ' i d')
      | none => .stuck
    | _, _ => .stuck
@[simp] theorem ev_gPutN (i : Nat) (sk : SO) (z : D) (ρ : Env) : gPutN i sk z ρ = match held ρ i with
  | none => .stuck
  | some _ => (sk ρ).bind fun o ρ' => match held ρ' i, o.get ρ' with
    | some d, some k => match putN d k z with
      | some d' => .ok () (put ρ' i d')
      | none => .stuck
    | _, _ => .stuck := rfl
def keysN : D → Option (List D)
  | .nd ks _ => some ks
  | _ => none
def iNd (s : SE) : SA := fun ρ => (s ρ).bind fun d ρ' => ofO (keysN d) ρ'
@[simp] theorem ev_iNd (s : SE) (ρ : Env) : iNd s ρ = (s ρ).bind fun d ρ' => ofO (keysN d) ρ' := rfl
end
end Dt
set_option Elab.async false
set_option linter.all false
set_option maxRecDepth 100000
set_option maxHeartbeats 4000000
namespace Dt
open PySem PySem.Spec PyProof.Rows L2
variable [HW]
/-- a tuple (true) or a list (false) -/
def SqK (K : PySem.W.Frag) : Bool → Hp → Addr → List V → Prop
  | true => SqT K
  | false => SqL K
def ItKd : Bool → Heap → Addr → Addr → Nat → Prop
  | true => fun h it a i => h.IsTupleIter it a i
  | false => fun h it a i => h.IsListIter it a i
def IsSq : Bool → Heap → Addr → Array Value → Prop
  | true => fun h a items => h.IsTuple a items
  | false => fun h a items => h.IsList a items
def itObj : Bool → Addr → Obj
  | true => fun a => { cls := .type "tuple_iterator", data := .fields #[.ref a, .int 0 0] }
  | false => fun a => { cls := .type "list_iterator", data := .fields #[.ref a, .int 0 0] }
theorem draws_sq {prog : Program} {w : World} {A : Around} (k : Bool) (hh : A.handled = none) (it a : Addr) (hne : a ≠ it) (items : Array Value) :
    Draws prog w A it [it, a] items.size (fun i v => items[i]? = some v) (fun i h => ItKd k h it a i ∧ IsSq k h a items) := by
  cases k
  · exact Draws.list hh it a hne items
  · exact Draws.tuple hh it a hne items
theorem begins_sq (k : Bool) (a : Addr) (items : Array Value) : Begins (.ref a) (itObj k a) fun h => IsSq k h a items := by
  cases k
  · exact begins_list a items
  · exact begins_tuple a items
theorem itKd_new {k : Bool} {h : Heap} {it a : Addr} (e : h.get? it = some (itObj k a)) : ItKd k h it a 0 := by
  cases k
  · exact ⟨_, e, rfl, rfl⟩
  · exact ⟨_, e, rfl, rfl⟩
theorem itKd_obj {k : Bool} {h : Heap} {it a : Addr} {i : Nat} (e : ItKd k h it a i) : ∃ o, h.get? it = some o ∧ ∀ v, o.data ≠ .cell v := by
  cases k
  · obtain ⟨o, e1, _, d⟩ := e
    exact ⟨o, e1, fun v q => by rw [d] at q; cases q⟩
  · obtain ⟨o, e1, _, d⟩ := e
    exact ⟨o, e1, fun v q => by rw [d] at q; cases q⟩
theorem itKd_at {k : Bool} {h h' : Heap} {it a : Addr} {i : Nat} (e : ItKd k h it a i) (q : ∀ o, h.get? it = some o → h'.get? it = some o) : ItKd k h' it a i := by
  cases k
  · exact Heap.IsListIter.at e q
  · exact Heap.IsTupleIter.at e q
theorem sq_get {X : Cx} {pins : List (Addr × Obj)} {σ : L2.St} {H : Hp} {s : Shared} {k : Bool} {a : Addr} {xs : List V} (I : Inv X pins σ H s) (h : SqK X.K k H a xs) : ∃ its : List Value, Vals xs its ∧ IsSq k s.heap a its.toArray ∧ a < s.heap.objs.size := by
  cases k
  · obtain ⟨its, rv, p, _⟩ := I.list h
    exact ⟨its, rv, p.isList, p.lt⟩
  · obtain ⟨its, rv, p, _⟩ := I.tuple h
    obtain ⟨o, ho, _⟩ := id p
    exact ⟨its, rv, (show s.heap.IsTuple a its.toArray from p), Heap.lt_size ho⟩
theorem sq_inj {X : Cx} {pins : List (Addr × Obj)} {σ : L2.St} {H : Hp} {s : Shared} {k : Bool} {a : Addr} {xs ys : List V} (I : Inv X pins σ H s) (h : SqK X.K k H a xs) (h' : SqK X.K k H a ys) : xs = ys := by
  cases k
  · exact I.list_inj h h'
  · exact I.tuple_inj h h'
/-- one turn of an iterator that hands out its own tuple -/
theorem turn_item {X : Cx} {elts : List Expr} {kk : Nat} {tpos : Pos} {it : Addr} {fp fpw wr : List Addr} {n i : Nat} {Pt : Nat → Array Value → Prop} {St : Nat → Heap → Prop} {Mid : Nat → Addr → Heap → Prop} {pins : List (Addr × Obj)} {s : Shared} {σ : L2.St} {H : Hp} {E : Value → Shared → Prop} {Y : V → Hp → Prop} {tn : Heap → Prop}
    (T : WalksT X.prog X.w X.A it fpw wr n Pt St Mid) (I : Inv X pins σ H s) (hf : ∀ b ∈ fp, FpOk X pins H b) (hi : i < n) (st : St i s.heap) (hw : ∀ b ∈ wr, b ∈ fp) (old : ∀ b ∈ fp, b < s.heap.objs.size)
    (hv : ∀ vals, Pt i vals → ∃ xs : List V, Vals xs vals.toList ∧ xs.length ≤ sizeLine ∧ ∀ T, H T = none → Y (.ref T) (upd H T (.tup xs))) (ht : ∀ h', St (i + 1) h' → tn h') :
    wpAny (model X.prog X.w) X.A (pyNext (.ref it)) (fun r s1 => ∃ u, r = some u ∧
      wpAny (model X.prog X.w) X.A (letOwnedTupleGo (.Tuple elts kk tpos) (.ref it) u) (fun _ s2 => ∃ x H', Inv X pins σ H' s2 ∧ RelV x u ∧ Y x H' ∧ tn s2.heap ∧ ∀ b ∈ fp, H' b = none) E s1) E s := by
  refine T.item i s _ E hi st fun Ta vals h' tk hP hT hI hM hk => ⟨_, rfl, T.go elts kk tpos i Ta { s with heap := h', toks := tk } _ E hM fun h'' st2 hk2 => ?_⟩
  obtain ⟨xs, rv, hl, hy⟩ := hv vals hP
  have nT : H Ta = none := I.hok.fresh hT
  obtain ⟨o, e1, e2, m, e3⟩ := hI
  have nw : Ta ∉ wr := T.apart i Ta h' hM
  have new : ObjOk X.prog X.w (upd H Ta (.tup xs)) h'' Ta (.tup xs) := ⟨hl, vals.toList, rv, o, hk2 Ta o nw e1, e2, m, by rw [Array.toArray_toList]; exact e3⟩
  exact ⟨.ref Ta, _, I.turnedNew (t' := tk) (ch := fp) (fun b o hb q => hk2 b o (fun z => hb (hw b z)) (hk b o (fun z => hb (hw b z)) q)) hf hT new, rfl, hy Ta nT, ht h'' st2,
    fun b hb => by rw [upd_ne (Nat.ne_of_lt (Nat.lt_of_lt_of_le (old b hb) hT))]; exact (hf b hb).1⟩
theorem turn_done {X : Cx} {it : Addr} {fp fpw wr : List Addr} {n : Nat} {Pt : Nat → Array Value → Prop} {St : Nat → Heap → Prop} {Mid : Nat → Addr → Heap → Prop} {pins : List (Addr × Obj)} {s : Shared} {σ : L2.St} {H : Hp} {E : Value → Shared → Prop}
    (T : WalksT X.prog X.w X.A it fpw wr n Pt St Mid) (I : Inv X pins σ H s) (hf : ∀ b ∈ fp, FpOk X pins H b) (st : St n s.heap) (hw : ∀ b ∈ wr, b ∈ fp) : wpAny (model X.prog X.w) X.A (pyNext (.ref it)) (fun r s1 => r = none ∧ Inv X pins σ H s1) E s :=
  T.done s _ E st fun h' tk hk => ⟨rfl, I.turnedL (t' := tk) (ch := fp) (fun b o hb q => hk b o (fun z => hb (hw b z)) q) hf⟩
def Itzz (K : PySem.W.Frag) (k1 k2 : Bool) (a b : Addr) : It :=
  ⟨fun i H => ∃ (xs ys : List V), SqK K k1 H a xs ∧ SqK K k2 H b ys ∧ i < min xs.length ys.length,
    fun i H v H' => ∃ T x y, v = .ref T ∧ H T = none ∧ H' = upd H T (.tup [x, y]) ∧ (∀ xs, SqK K k1 H a xs → xs[i]? = some x) ∧ ∀ ys, SqK K k2 H b ys → ys[i]? = some y,
    fun i H => ∃ xs ys : List V, SqK K k1 H a xs ∧ SqK K k2 H b ys ∧ i = min xs.length ys.length⟩
theorem vals_at {xs : List V} {its : List Value} {i : Nat} {u : Value} (r : Vals xs its) (e : its.toArray[i]? = some u) : ∃ x, xs[i]? = some x ∧ RelV x u := by
  have e : its[i]? = some u := by simpa using e
  have hl := r.length
  have hi : i < its.length := (List.getElem?_eq_some_iff.mp e).1
  obtain ⟨u', e1, rr⟩ := r.get (x := xs[i]'(by omega)) (i := i) (by simp [show i < xs.length by omega])
  rw [e] at e1
  cases e1
  exact ⟨_, by simp [show i < xs.length by omega], rr⟩
theorem turn_zz {P : Program} {w : World} {K : PySem.W.Frag} {elts : List Expr} {kk : Nat} {tpos : Pos} {a b N : Addr} (k1 k2 : Bool) (ha : a < N) (hb : b < N) :
    Turn P w K (.Tuple elts kk tpos) (Itzz K k1 k2 a b) [N + 4, N + 2, N + 3, N, N + 1] (N + 4) (fun i h => IsZip h (N + 4) (N + 2) (N + 3) .none ∧ IsTupOf2 h (N + 2) (.ref N) (.ref (N + 1)) ∧ (∃ x y, IsTupOf2 h (N + 3) x y) ∧ ItKd k1 h N a i ∧ ItKd k2 h (N + 1) b i) := by
  have S : ZipSep2 (N + 4) (N + 2) (N + 3) N (N + 1) [N, a] [N + 1, b] := zip_sep2 (fun c hc => by rw [List.mem_singleton.mp hc]; exact ha) fun c hc => by rw [List.mem_singleton.mp hc]; exact hb
  have nea : a ≠ N := Nat.ne_of_lt ha
  have neb : b ≠ N + 1 := Nat.ne_of_lt (Nat.lt_succ_of_lt hb)
  have hw : ∀ c ∈ [N + 4, N + 3, N, N + 1], c ∈ [N + 4, N + 2, N + 3, N, N + 1] := fun c hc => by
    have : c = N + 4 ∨ c = N + 3 ∨ c = N ∨ c = N + 1 := by simpa using hc
    rcases this with rfl | rfl | rfl | rfl <;> simp
  have ob : ∀ i h, (IsZip h (N + 4) (N + 2) (N + 3) .none ∧ IsTupOf2 h (N + 2) (.ref N) (.ref (N + 1)) ∧ (∃ x y, IsTupOf2 h (N + 3) x y) ∧ ItKd k1 h N a i ∧ ItKd k2 h (N + 1) b i) → ∀ c ∈ [N + 4, N + 2, N + 3, N, N + 1], ∃ o, h.get? c = some o ∧ ∀ v, o.data ≠ .cell v := fun i h st c hc => by
    obtain ⟨hz, hT, ⟨x, y, hO⟩, h1, h2⟩ := st
    have : c = N + 4 ∨ c = N + 2 ∨ c = N + 3 ∨ c = N ∨ c = N + 1 := by simpa using hc
    rcases this with rfl | rfl | rfl | rfl | rfl
    · exact ⟨_, hz, fun v q => nomatch q⟩
    · exact ⟨_, hT, fun v q => nomatch q⟩
    · exact ⟨_, hO, fun v q => nomatch q⟩
    · exact itKd_obj h1
    · exact itKd_obj h2
  refine ⟨by simp, ob, fun i h h' st k => ?_, ?_, ?_, fun A i s Q E st h => wpAny_pyIter_zip st.1 h⟩
  · obtain ⟨hz, hT, ⟨x, y, hO⟩, h1, h2⟩ := st
    exact ⟨k _ (by simp) _ hz, k _ (by simp) _ hT, ⟨x, y, k _ (by simp) _ hO⟩, itKd_at h1 fun o q => k N (by simp) o q, itKd_at h2 fun o q => k (N + 1) (by simp) o q⟩
  · intro X hP hW hK hc i pins s σ H E I hf st hg; subst hP hW hK
    obtain ⟨xs, ys, hx, hy, hi⟩ := hg
    obtain ⟨its, rv, p1, _⟩ := sq_get I hx
    obtain ⟨its2, rv2, p2, _⟩ := sq_get I hy
    have l1 := rv.length
    have l2 := rv2.length
    have D := WalksT.zipD2 S (draws_sq (prog := X.prog) (w := X.w) (A := X.A.in1) k1 (I.ok.hd hc) N a nea its.toArray) (draws_sq (A := X.A.in1) k2 (I.ok.hd hc) (N + 1) b neb its2.toArray)
    have old : ∀ c ∈ [N + 4, N + 2, N + 3, N, N + 1], c < s.heap.objs.size := fun c hc => let ⟨o, e, _⟩ := ob i _ st c hc; Heap.lt_size e
    obtain ⟨hz, hT, hO, h1, h2⟩ := st
    refine turn_item (Y := (Itzz X.K k1 k2 a b).yld i H) (tn := fun h => IsZip h (N + 4) (N + 2) (N + 3) .none ∧ IsTupOf2 h (N + 2) (.ref N) (.ref (N + 1)) ∧ (∃ x y, IsTupOf2 h (N + 3) x y) ∧ ItKd k1 h N a (i + 1) ∧ ItKd k2 h (N + 1) b (i + 1)) D I hf (by simp; omega) ⟨hz, hT, hO, ⟨h1, p1⟩, ⟨h2, p2⟩⟩ hw old (fun vals hv => ?_) fun h' st' => ⟨st'.1, st'.2.1, st'.2.2.1, st'.2.2.2.1.1, st'.2.2.2.2.1⟩
    obtain ⟨u1, u2, e1, e2, rfl⟩ := hv
    obtain ⟨x, ex, rx⟩ := vals_at rv e1
    obtain ⟨y, ey, ry⟩ := vals_at rv2 e2
    exact ⟨[x, y], .cons rx (.cons ry .nil), by show 2 ≤ sizeLine; decide, fun T hT => ⟨T, x, y, rfl, hT, rfl, fun l hl => by rw [sq_inj I hl hx]; exact ex, fun l hl => by rw [sq_inj I hl hy]; exact ey⟩⟩
  · intro X hP hW hK hc i pins s σ H E I hf st hg; subst hP hW hK
    obtain ⟨xs, ys, hx, hy, hi⟩ := hg
    obtain ⟨its, rv, p1, _⟩ := sq_get I hx
    obtain ⟨its2, rv2, p2, _⟩ := sq_get I hy
    have l1 := rv.length
    have l2 := rv2.length
    have D := WalksT.zipD2 S (draws_sq (prog := X.prog) (w := X.w) (A := X.A.in1) k1 (I.ok.hd hc) N a nea its.toArray) (draws_sq (A := X.A.in1) k2 (I.ok.hd hc) (N + 1) b neb its2.toArray)
    obtain ⟨hz, hT, hO, h1, h2⟩ := st
    have e : i = min its.toArray.size its2.toArray.size := by simp; omega
    exact turn_done D I hf ⟨hz, hT, hO, ⟨by rw [← e]; exact h1, p1⟩, ⟨by rw [← e]; exact h2, p2⟩⟩ hw
def iZipG (K : PySem.W.Frag) (ta : TA) : TI := fun σ H R => ta σ H fun vs H1 => ∃ k1 k2 a b xs ys, vs = [.ref a, .ref b] ∧ SqK K k1 H1 a xs ∧ SqK K k2 H1 b ys ∧ R (Itzz K k1 k2 a b) H1
theorem pi_zz {X : Cx} {e e2 : Expr} {ta : TA} {p pos tpos : Pos} {elts : List Expr} {kk : Nat} (hg : Gl X "zip") (hm : X.mg "zip" = none) (ha : PA X [e, e2] ta)
    (hs : starEach [e, e2] X.env = (false, eval e X.env) :: starEach [e2] X.env := by rfl) (hpl : (backTo pos (starEach [e2] X.env)).any (·.1) = false := by rfl) :
    PI X (.Tuple elts kk tpos) (.Call (.Name "zip" p) [e, e2] [] pos) (iZipG X.K ta) := by
  refine ⟨fun pins s σ H R I h => Call_ (ld_blt I hg hm boot_zip (callWith_type1 (thn (ha.run pos pins s σ H _ I h) fun us s1 ⟨vs, H1, I1, r1, k1, k2, a, b, xs, ys, ex, hx, hy, q1⟩ => ?_) hs hpl))⟩
  subst ex
  cases r1 with
  | cons r rr =>
    cases rr with
    | cons r' rr =>
      cases rr; cases r; cases r'
      obtain ⟨its, rv, p1, la⟩ := sq_get I1 hx
      obtain ⟨its2, rv2, p2, lb⟩ := sq_get I1 hy
      refine zip_begins2 (begins_sq k1 a its.toArray) (begins_sq k2 b its2.toArray) p1 p2 fun h' hz hTI hTO h1 h2 hsz hk => wpAny_pyIter_zip hz ?_
      refine ⟨_, _, _, _, H1, rfl, I1.kept (t' := s1.toks) hk, turn_zz k1 k2 la lb, ⟨hz, hTI, ⟨_, _, hTO⟩, itKd_new h1, itKd_new h2⟩, fun c hcm => ?_, q1⟩
      have : c = s1.heap.objs.size + 4 ∨ c = s1.heap.objs.size + 2 ∨ c = s1.heap.objs.size + 3 ∨ c = s1.heap.objs.size ∨ c = s1.heap.objs.size + 1 := by simpa using hcm
      have hle : s1.heap.objs.size ≤ c := by
        rcases this with rfl | rfl | rfl | rfl | rfl <;> first | exact Nat.le_add_right _ _ | exact Nat.le_refl _
      exact I1.fpOk hle (I1.hok.fresh hle)
/-- the parts of a list or a tuple -/
def seqD : D → Option (List D)
  | .lst xs => some xs
  | .tup xs => some xs
  | .arg xs => some xs
  | _ => none
theorem seqD_sq {K : PySem.W.Frag} {F : Hp} {v : V} {d : D} {xs : List D} (h : Rp K F v d) (e : seqD d = some xs) : ∃ k a vs, v = .ref a ∧ SqK K k F a vs ∧ Rps K F vs xs := by
  cases h with
  | tup t r => cases e; exact ⟨true, _, _, rfl, t.sq, r⟩
  | arg t r => cases e; exact ⟨true, _, _, rfl, t, r⟩
  | lst t r => cases e; exact ⟨false, _, _, rfl, SqL.of t, r⟩
  | _ => cases e
theorem FLe.sqK {K : PySem.W.Frag} {F G : Hp} (h : FLe F G) {k : Bool} {a : Addr} {xs : List V} (r : SqK K k F a xs) : SqK K k G a xs := by
  cases k
  · exact h.sqL r
  · exact h.sqT r
theorem iter_zz {K : PySem.W.Frag} {F : Hp} {k1 k2 : Bool} {a b : Addr} {vs ws : List V} {xs ys : List D} (ha : SqK K k1 F a vs) (hb : SqK K k2 F b ws) (rx : Rps K F vs xs) (ry : Rps K F ws ys) : IterOk K (Itzz K k1 k2 a b) F (pairUp xs ys) := by
  have at1 : ∀ {F1 H : Hp}, FLe F F1 → FLe F1 H → SqK K k1 H a vs := fun h1 h2 => h2.sqK (h1.sqK ha)
  have at2 : ∀ {F1 H : Hp}, FLe F F1 → FLe F1 H → SqK K k2 H b ws := fun h1 h2 => h2.sqK (h1.sqK hb)
  have lx := rx.length
  have ly := ry.length
  have lp : (pairUp xs ys).length = min xs.length ys.length := by unfold pairUp; rw [List.length_zipWith]
  refine ⟨fun i F1 H h1 h2 hi => ⟨vs, ws, at1 h1 h2, at2 h1 h2, by rw [lx, ly, ← lp]; exact hi⟩, fun F1 H h1 h2 => ⟨vs, ws, at1 h1 h2, at2 h1 h2, by rw [lx, ly, ← lp]⟩, fun i F1 H H' x d h1 h2 e y => ?_⟩
  obtain ⟨T, v, w, rfl, hT, rfl, g1, g2⟩ := y
  unfold pairUp at e
  rw [List.getElem?_zipWith] at e
  cases ex : xs[i]? with
  | none => rw [ex] at e; cases e
  | some dx =>
    cases ey : ys[i]? with
    | none => rw [ex, ey] at e; cases e
    | some dy =>
      rw [ex, ey] at e
      cases e
      obtain ⟨v', e1, r1⟩ := rx.get ex
      obtain ⟨w', e2, r2⟩ := ry.get ey
      have e3 := g1 vs (at1 h1 h2)
      have e4 := g2 ws (at2 h1 h2)
      rw [e1] at e3; cases e3
      rw [e2] at e4; cases e4
      have n := New.obj h2 hT (.tup [v, w])
      exact ⟨_, n, .arg (.inl (.inl upd_same)) (.cons (r1.mono (h1.trans n.f)) (.cons (r2.mono (h1.trans n.f)) .nil))⟩
def zipG : List D → Option (List D)
  | [x, y] => (seqD x).bind fun xs => (seqD y).map fun ys => pairUp xs ys
  | _ => none
def iZipX (s : SA) : SA := fun ρ => (s ρ).bind fun ds ρ' => ofO (zipG ds) ρ'
@[simp] theorem ev_iZipX (s : SA) (ρ : Env) : iZipX s ρ = (s ρ).bind fun ds ρ' => ofO (zipG ds) ρ' := rfl
section
variable {ex : Exx} {X : Cx} {W : WX} {e : Expr} {p pos : Pos} {sA : SA}
theorem d_iZipX {e2 : Expr} {elts : List Expr} {kk : Nat} {tpos : Pos} (hg : Gl X "zip") (hm : X.mg "zip" = none) (ha : DA (GK X ex) X W [e, e2] sA) (hs : starEach [e, e2] X.env = (false, eval e X.env) :: starEach [e2] X.env := by rfl) (hpl : (backTo pos (starEach [e2] X.env)).any (·.1) = false := by rfl) :
    DI (GK X ex) X W (.Tuple elts kk tpos) (.Call (.Name "zip" p) [e, e2] [] pos) (iZipX sA) :=
  wkI (pi_zz hg hm ha hs hpl) fun σ H Q ⟨ρ, F, Rv, io, rel, q⟩ => by
    refine ⟨ρ, F, Rv, io, rel, ?_⟩
    rw [ev_iZipX] at q
    cases e1 : sA ρ with
    | stuck => rw [e1] at q; exact q.elim
    | exc x ρ' => rw [e1] at q; exact q
    | ok ds ρ' =>
      rw [e1, R.bind_ok] at q
      intro vs H' F' le rel' rs
      cases e3 : zipG ds with
      | none => rw [e3] at q; exact q.elim
      | some zs =>
        rw [e3] at q
        unfold zipG at e3
        split at e3
        · rename_i x y
          cases ea : seqD x with
          | none => rw [ea] at e3; cases e3
          | some xs =>
            cases eb : seqD y with
            | none => rw [ea, eb] at e3; cases e3
            | some ys =>
              rw [ea, eb] at e3
              cases e3
              cases rs with
              | cons r1 rs =>
                cases rs with
                | cons r2 rs =>
                  cases rs
                  obtain ⟨k1, a, us, rfl, s1, q1⟩ := seqD_sq r1 ea
                  obtain ⟨k2, b, ws, rfl, s2, q2⟩ := seqD_sq r2 eb
                  exact ⟨k1, k2, a, b, us, ws, rfl, rel'.fH.sqK s1, rel'.fH.sqK s2, q _ H' F' le rel' (iter_zz s1 s2 q1 q2)⟩
        · cases e3
end
end Dt
set_option Elab.async false
set_option linter.all false
set_option maxRecDepth 100000
set_option maxHeartbeats 4000000
namespace Dt
open PySem PySem.Spec PyProof.Rows L2
variable [HW]
def numbered : Nat → List D → List D
  | _, [] => []
  | n, d :: ds => .arg [.int (n : Nat), d] :: numbered (n + 1) ds
def enumD : List D → Option (List D)
  | [x] => (seqD x).map (numbered 0)
  | _ => none
def iEnumX (s : SA) : SA := fun ρ => (s ρ).bind fun ds ρ' => ofO (enumD ds) ρ'
@[simp] theorem ev_iEnumX (s : SA) (ρ : Env) : iEnumX s ρ = (s ρ).bind fun ds ρ' => ofO (enumD ds) ρ' := rfl
section
variable {ex : Exx} {X : Cx} {W : WX} {a b c e tg : Expr} {p pos : Pos} {sA : SA} {G : Gx}
def downto (lo : Int) (n : Nat) : List D := (List.range n).map fun i => .int (lo + (i : Nat) * (-1))
def rng3D : List D → Option (List D)
  | [.int i, .int j, .int k] => if k = -1 ∧ -(2 ^ 62) ≤ i ∧ i < 2 ^ 62 ∧ -(2 ^ 62) ≤ j ∧ j < 2 ^ 62 then some (downto i (i - j).toNat) else none
  | _ => none
def iRng3' (s : SA) : SA := fun ρ => (s ρ).bind fun ds ρ' => ofO (rng3D ds) ρ'
@[simp] theorem ev_iRng3 (s : SA) (ρ : Env) : iRng3' s ρ = (s ρ).bind fun ds ρ' => ofO (rng3D ds) ρ' := rfl
def sNew2 (i j : Nat) : SS := fun ρ => (gOwn i (.lst []) ρ).bind fun _ ρ2 => (gOwn j (.lst []) ρ2).bind fun _ ρ3 => .ok .nx ρ3
@[simp] theorem ev_new2 (i j : Nat) (ρ : Env) : sNew2 i j ρ = (gOwn i (.lst []) ρ).bind fun _ ρ2 => (gOwn j (.lst []) ρ2).bind fun _ ρ3 => .ok .nx ρ3 := rfl
end
end Dt
set_option Elab.async false
set_option linter.all false
set_option maxRecDepth 100000
set_option maxHeartbeats 4000000
namespace Dt
open PySem PySem.Spec PyProof.Rows L2
variable [HW]
def veB : List Value := [.type "ValueError", .type "Exception", .type "BaseException", .type "object"]
/-- where the classes lie -/
def exA (K : PySem.W.Frag) (n : String) : Addr := fnA K (Str.ofString n)
/-- the class of that name, as it stands -/
structure ExcK (K : PySem.W.Frag) (mg : Str → Option Value) (n : String) : Prop where
  m : mg (Str.ofString n) = some (.ref (exA K n))
  e : PySem.W.excIn K (exA K n) veB "ValueError.__new__" = true
  k : PySem.W.keepIn K (.ref (exA K n)) = true
  b : PySem.W.subIn K (.ref (exA K n)) (.type "BaseException") = some true
  t : PySem.W.typeIn K (.ref (exA K n)) = some (.type "type")
/-- raise X("m") -/
def sRaise (n : String) : SS := fun ρ => .exc ⟨n, .non⟩ ρ
@[simp] theorem ev_raise (n : String) (ρ : Env) : sRaise n ρ = .exc ⟨n, .non⟩ ρ := rfl
theorem d_raise {T : List (Addr × Str)} {X : Cx} {W : WX} {n : String} {m : Str} {j : Nat} {p p2 pos rpos : Pos} (hu : At X W) (c : ExcK X.K X.mg n) (hg : Gl X (Str.ofString n)) (hd : (Str.ofString n == ("__debug__" : Str)) = false := by decide) :
    DS (GK X ⟨exA X.K, T⟩) X W (.Raise (some (.Call (.Name (Str.ofString n) p) [.Constant (.str m) j p2] [] pos)) none rpos) (sRaise n) :=
  wkS (L2N.ps_raise hu.calm hu.tk (L2N.pmk_own PySem.F.excBase_ValueError c.e c.m c.k (raises_own c.b c.t) hg hd)) fun D σ H ⟨ρ, F, Rv, io, rel, q⟩ => q (.ref (exA X.K n)) none σ H F (FLe.refl F) rel ⟨rfl, rfl⟩
end Dt
set_option Elab.async false
set_option linter.all false
set_option maxRecDepth 100000
set_option maxHeartbeats 4000000
namespace Dt
open PySem PySem.Spec PyProof.Rows L2 HotX
variable [HW]
section
variable {prog : Program} {w : World} {A : Around} {E : Value → Shared → Prop} {s : Shared} {x1 : Addr}
/-- the end of an iteration, raised while x1 is handled -/
theorem stop_hot {α : Type} {Q : α → Shared → Prop} (hot : HotAt A x1 s.heap)
    (h : ∀ h' e, (∀ b o, s.heap.get? b = some o → h'.get? b = some o) → (∃ o, h'.get? e = some o ∧ o.cls = .type "StopIteration") → E (.ref e) { s with heap := h' }) :
    wpAny (model prog w) A (newExc (.type "StopIteration") [] >>= fun e => (raiseNew e : Sem α)) Q E s := by
  obtain ⟨hh, o1, vs1, h1, d1, c1⟩ := hot
  have up : ∀ {h : Heap} (o o' : Obj) (b : Addr) (ob : Obj), h.get? b = some ob → ((h.push o).push o').get? b = some ob := fun o o' b ob e => Heap.get?_push_of_some _ (Heap.get?_push_of_some _ e)
  refine wpAny_bind ?_; simp only [newExc, newTuple]
  refine wpAny_bind (wpAny_newObj_type (wpAny_bind (m := firstArgMember _ _) (wpAny_of_eq (a := Value.none) (by first | rfl | (simp only [firstArgMember]; rfl)) (wpAny_newObj_type ?_ (by size_fits)))) (by size_fits))
  refine raiseNew_hot ⟨hh, o1, vs1, up _ _ _ _ h1, d1, c1⟩ (Nat.ne_of_lt (Heap.lt_size (Heap.get?_push_of_some _ h1))) (Heap.get?_push_size _ rfl) rfl (by first | (simp; done) | (simp; omega) | (simp only [Array.size_append]; simp; omega)) (h _ _ (fun b o e => ?_) ⟨_, Heap.get?_update_self _ (Heap.get?_push_size _ rfl) rfl, rfl⟩)
  exact (Heap.get?_update_other _ _ (Nat.ne_of_gt (Heap.lt_size (Heap.get?_push_of_some _ e)))).trans (up _ _ _ _ e)
theorem HotAt.keep {h h' : Heap} (c : HotAt A x1 h) (k : ∀ o, h.get? x1 = some o → h'.get? x1 = some o) : HotAt A x1 h' := let ⟨a, o, vs, e, d⟩ := c; ⟨a, o, vs, k o e, d⟩
theorem nextOf_list_hot {it l : Addr} {i : Nat} {items : Array Value} {Q : Value → Shared → Prop} (hot : HotAt A x1 s.heap) (hne : x1 ≠ it) (hit : s.heap.IsListIter it l i) (hl : s.heap.IsList l items) (hx : items[i]? = none)
    (hE : ∀ h' e, Heap.ExtBut it s.heap h' → (∃ o, h'.get? e = some o ∧ o.cls = .type "StopIteration") → E (.ref e) { s with heap := h' }) : wpAny (model prog w) A (Builtin.SmallTypes.nextOf (.ref it)) Q E s := by
  obtain ⟨o, ho, hc, hd⟩ := id hit; obtain ⟨ol, hol, _, nl, hdl⟩ := hl; unfold Builtin.SmallTypes.nextOf
  refine wpAny_bind (wpAny_callSpecial?_slot (name := Str.ofString "__next__") hit.typeIs slot_listiter_next (wpAny_call_entry slot_listiter_next hit.typeIs entry_listiter_next ?_ (args_listiter_next _)))
  show wpAny _ _ (field (.ref it) 0 >>= _) _ _ s; refine wpAny_bind (wpAny_field ho hd (x := .ref l) rfl ?_); show wpAny _ _ (if (Value.ref l == Value.none) = true then _ else _) _ _ s
  rw [if_neg (show ¬ ((Value.ref l == Value.none) = true) from Bool.false_ne_true)]; show wpAny _ _ (field (.ref it) 1 >>= _) _ _ s; refine wpAny_bind (wpAny_field ho hd (x := .int i 0) rfl ?_)
  show wpAny _ _ (seqItems? (.ref l) >>= _) _ _ s; refine wpAny_bind (wpAny_seqItems hol hdl ?_); simp only [Int.toNat_natCast, hx]
  refine wpAny_bind (wpAny_rule (wpAny_bind (wpAny_setField ho hd (by simp) ?_)))
  refine stop_hot (HotAt.keep hot fun o e => (Heap.get?_update_other _ _ hne.symm).trans e) fun h' e k st => hE h' e (fun b o hb e => k b o ((Heap.get?_update_other _ _ (Ne.symm hb)).trans e)) st
theorem draws_list_hot (hh : A.handled = some (.ref x1)) (it l : Addr) (hne : l ≠ it) (hx : x1 ≠ it) (items : Array Value) : Draws prog w A it [it, l, x1] items.size (fun i v => items[i]? = some v) (fun i h => (h.IsListIter it l i ∧ h.IsList l items) ∧ HotAt A x1 h) where
  live := fun _ _ st => let ⟨o, ho, _⟩ := st.1.1; ⟨o, ho⟩
  frame := fun _ _ _ st hk => ⟨⟨st.1.1.at fun o e => hk it (by simp) o e, st.1.2.at fun o e => hk l (by simp) o e⟩, HotAt.keep st.2 fun o e => hk x1 (by simp) o e⟩
  item := fun i s Q E hi st hQ => wpAny_nextOf_list_item st.1.1 st.1.2 (x := items[i]) (by simp [hi]) fun h' hit' hs' => hQ _ h' s.toks (by simp [hi]) ⟨⟨hit', st.1.2.extBut hs'.extBut hne⟩, HotAt.keep st.2 fun o e => hs'.extBut _ _ hx e⟩ hs'
  done := fun s Q E st hE => nextOf_list_hot st.2 hx st.1.1 st.1.2 (by simp) hE
/-- a tuple unpacked -/
theorem next_tuple_hot {it t : Addr} {i : Nat} {items : Array Value} {Q : Option Value → Shared → Prop} (hot : HotAt A x1 s.heap) (hne : x1 ≠ it) (hit : IsTupIter s.heap it t i) (ht : IsTup s.heap t items) (hx : items[i]? = none)
    (hQ : ∀ h', Heap.ExtBut it s.heap h' → Q none { s with heap := h' }) : wpAny (model prog w) A (pyNext (.ref it)) Q E s := by
  obtain ⟨o, ho, hc, hd⟩ := id hit; obtain ⟨ol, hol, _, nl, hdl⟩ := ht; unfold pyNext
  refine wpAny_bind (wpAny_attempt (wpAny_callSpecial?_slot (name := Str.ofString "__next__") hit.typeIs slot_tupleiter_next (wpAny_call_entry slot_tupleiter_next hit.typeIs entry_tupleiter_next ?_ (args_tupleiter_next _))))
  show wpAny _ _ (field (.ref it) 0 >>= _) _ _ s; refine wpAny_bind (wpAny_field ho hd (x := .ref t) rfl ?_); show wpAny _ _ (if (Value.ref t == Value.none) = true then _ else _) _ _ s
  rw [if_neg (show ¬ ((Value.ref t == Value.none) = true) from Bool.false_ne_true)]; show wpAny _ _ (field (.ref it) 1 >>= _) _ _ s; refine wpAny_bind (wpAny_field ho hd (x := .int i 0) rfl ?_)
  show wpAny _ _ (seqItems? (.ref t) >>= _) _ _ s; refine wpAny_bind (wpAny_seqItems hol hdl ?_); simp only [Int.toNat_natCast, hx]
  refine wpAny_bind (wpAny_rule (wpAny_bind (wpAny_setField ho hd (by simp) ?_)))
  refine stop_hot (HotAt.keep hot fun o e => (Heap.get?_update_other _ _ hne.symm).trans e) fun h' e k ⟨oe, st, sc⟩ => wpAny_bind (wpAny_isInstance (T := "StopIteration") (b := true) ⟨oe, st, sc⟩ isSubtype_stop (wpAny_pure (hQ h' fun b o hb e => k b o ((Heap.get?_update_other _ _ (Ne.symm hb)).trans e))))
theorem unpackItems_hot {t : Addr} {items : Array Value} {Q : List Value → Shared → Prop} (hot : HotAt A x1 s.heap) (ht : IsTup s.heap t items)
    (hQ : ∀ h', Heap.ExtBut s.heap.objs.size s.heap h' → Q items.toList { s with heap := h' }) : wpAny (model prog w) A (unpackItems (.ref t) items.size none) Q E s := by
  have hlt : t ≠ s.heap.objs.size := let ⟨o, ho, _⟩ := ht; Nat.ne_of_lt (Heap.lt_size ho)
  have hx : x1 ≠ s.heap.objs.size := let ⟨_, o, _, ho, _⟩ := hot; Nat.ne_of_lt (Heap.lt_size ho)
  unfold unpackItems; refine wpAny_bind ?_; unfold notIterableAtAll
  refine wpAny_bind (wpAny_specialOf ht.typeIs slot_tuple_iter.lookup (wpAny_pure ?_)); simp only [Bool.false_eq_true, if_false]
  refine wpAny_bind (wpAny_holding (iter_tuple ht (wpAny_bind (wpAny_holding (draw_tuple hlt items.size 0 _ _ ⟨_, Heap.get?_push_size _ rfl, rfl, rfl⟩ (ht.push _) (by omega) fun h₁ hit₁ hs₁ => ?_)))))
  have hall : List.take items.size (List.drop 0 items.toList) = items.toList := (by rw [List.drop_zero]; exact List.take_of_length_le (by simp))
  rw [hall, if_neg (by simp)]
  refine wpAny_bind (wpAny_holding (next_tuple_hot (HotAt.keep hot fun o e => hs₁.extBut _ _ hx (Heap.get?_push_of_some _ e)) hx hit₁ ((ht.push _).extBut hs₁.extBut hlt) (by simp) fun h₂ he₂ => ?_))
  simp only [Option.isSome_none, Bool.false_eq_true, if_false]
  exact wpAny_pure (hQ h₂ fun b o hb e => he₂ b o hb (hs₁.extBut b o hb (Heap.get?_push_of_some _ e)))
theorem assign_tuple_hot {env : PySem.Env} {elts : List Expr} {k} {pos : Pos} {t : Addr} {items : Array Value} {Q : Unit → Shared → Prop} (hot : HotAt A x1 s.heap) (ht : IsTup s.heap t items) (hn : (assignEach elts env).length = items.size) (hstar : (assignEach elts env).findIdx? (·.1) = none)
    (h : ∀ h', Heap.ExtBut s.heap.objs.size s.heap h' → wpAny (model prog w) A (assignInOrder ((assignEach elts env).map (·.2)) items.toList) Q E { s with heap := h' }) : wpAny (model prog w) A (assign (.Tuple elts k pos) env (.ref t)) Q E s := by
  rw [assign_Tuple]; refine wpAny_bind (wpAny_standAt ?_); unfold unpack; rw [hn, hstar]; exact wpAny_bind (wpAny_holding (unpackItems_hot hot ht h))
end
end Dt
set_option Elab.async false
set_option linter.all false
set_option maxRecDepth 100000
set_option maxHeartbeats 4000000
namespace Dt
open PySem PySem.Spec PyProof.Rows L2 HotX
variable [HW]
/-- each state of the context bears the exception x1, which is handled -/
def HotB (X : Cx) (x1 : Addr) : Prop := X.A.handled = some (.ref x1) ∧ ∀ pins σ H s, Inv X pins σ H s → HotAt X.A x1 s.heap
theorem HotB.of {X : Cx} {p : Addr × Obj} (h : L2H.Hot1 X.A p) (hp : p ∈ X.pn) : HotB X p.1 := ⟨h.1, fun pins σ H s I => let ⟨v1, e1, c1⟩ := h.2; ⟨h.1, p.2, v1, (I.pin p (List.mem_append_left _ hp)).1, e1, c1⟩⟩
/-- a walk while x1 is handled -/
structure TurnB (x1 : Addr) (P : Program) (w : World) (K : PySem.W.Frag) (tg : Expr) (J : It) (fp : List Addr) (it : Addr) (tn : Nat → Heap → Prop) : Prop where
  ob : ∀ i h, tn i h → ∀ b ∈ fp, ∃ o, h.get? b = some o ∧ ∀ v, o.data ≠ .cell v
  kp : ∀ i h h', tn i h → (∀ b ∈ fp, ∀ o, h.get? b = some o → h'.get? b = some o) → tn i h'
  itm : ∀ (X : Cx), X.prog = P ∧ X.w = w ∧ X.K = K → HotB X x1 → ∀ (i : Nat) (pins : List (Addr × Obj)) (s : Shared) (σ : L2.St) (H : Hp) (E : Value → Shared → Prop), Inv X pins σ H s → (∀ b ∈ fp, FpOk X pins H b) → tn i s.heap → J.go i H →
    wpAny (model P w) X.A (pyNext (.ref it)) (fun r s1 => ∃ u, r = some u ∧ wpAny (model P w) X.A (letOwnedTupleGo tg (.ref it) u) (fun _ s2 => ∃ x H', Inv X pins σ H' s2 ∧ RelV x u ∧ J.yld i H x H' ∧ tn (i + 1) s2.heap ∧ ∀ b ∈ fp, H' b = none) E s1) E s
  dn : ∀ (X : Cx), X.prog = P ∧ X.w = w ∧ X.K = K → HotB X x1 → ∀ (i : Nat) (pins : List (Addr × Obj)) (s : Shared) (σ : L2.St) (H : Hp) (E : Value → Shared → Prop), Inv X pins σ H s → (∀ b ∈ fp, FpOk X pins H b) → tn i s.heap → J.stop i H →
    wpAny (model P w) X.A (pyNext (.ref it)) (fun r s1 => r = none ∧ Inv X pins σ H s1) E s
  sf : ∀ (A : Around) (i : Nat) (s : Shared) (Q : Value → Shared → Prop) (E : Value → Shared → Prop), tn i s.heap → Q (.ref it) s → wpAny (model P w) A (pyIter (.ref it)) Q E s
theorem turn_zzB {P : Program} {w : World} {K : PySem.W.Frag} {elts : List Expr} {kk : Nat} {tpos : Pos} {a b N x1 : Addr} (ha : a < N) (hb : b < N) (hx : x1 < N) :
    TurnB x1 P w K (.Tuple elts kk tpos) (Itzz K false false a b) [N + 4, N + 2, N + 3, N, N + 1] (N + 4) (fun i h => IsZip h (N + 4) (N + 2) (N + 3) .none ∧ IsTupOf2 h (N + 2) (.ref N) (.ref (N + 1)) ∧ (∃ x y, IsTupOf2 h (N + 3) x y) ∧ ItKd false h N a i ∧ ItKd false h (N + 1) b i) := by
  have two : ∀ {c d : Addr}, d < N → ∀ z ∈ [d, x1], z < N := fun {c d} h z hz => by
    have : z = d ∨ z = x1 := by simpa using hz
    rcases this with rfl | rfl
    · exact h
    · exact hx
  have S : ZipSep2 (N + 4) (N + 2) (N + 3) N (N + 1) [N, a, x1] [N + 1, b, x1] := zip_sep2 (two (c := 0) ha) (two (c := 0) hb)
  have nea : a ≠ N := Nat.ne_of_lt ha
  have neb : b ≠ N + 1 := Nat.ne_of_lt (Nat.lt_succ_of_lt hb)
  have nx1 : x1 ≠ N := Nat.ne_of_lt hx
  have nx2 : x1 ≠ N + 1 := Nat.ne_of_lt (Nat.lt_succ_of_lt hx)
  obtain ⟨_, ob, kp, _, _, sf⟩ := turn_zz (P := P) (w := w) (K := K) (elts := elts) (kk := kk) (tpos := tpos) false false ha hb
  have hw : ∀ c ∈ [N + 4, N + 3, N, N + 1], c ∈ [N + 4, N + 2, N + 3, N, N + 1] := fun c hc => by
    have : c = N + 4 ∨ c = N + 3 ∨ c = N ∨ c = N + 1 := by simpa using hc
    rcases this with rfl | rfl | rfl | rfl <;> simp
  refine ⟨ob, kp, ?_, ?_, sf⟩
  · intro X ⟨hP, hW, hK⟩ hot i pins s σ H E I hf st hg; subst hP hW hK
    obtain ⟨xs, ys, hx, hy, hi⟩ := hg
    obtain ⟨its, rv, p1, _⟩ := sq_get I hx
    obtain ⟨its2, rv2, p2, _⟩ := sq_get I hy
    have l1 := rv.length
    have l2 := rv2.length
    have D := WalksT.zipD2 S (draws_list_hot (prog := X.prog) (w := X.w) (A := X.A.in1) hot.1 N a nea nx1 its.toArray) (draws_list_hot (A := X.A.in1) hot.1 (N + 1) b neb nx2 its2.toArray)
    have old : ∀ c ∈ [N + 4, N + 2, N + 3, N, N + 1], c < s.heap.objs.size := fun c hc => let ⟨o, e, _⟩ := ob i _ st c hc; Heap.lt_size e
    obtain ⟨hz, hT, hO, h1, h2⟩ := st
    have hA := hot.2 _ _ _ _ I
    refine turn_item (Y := (Itzz X.K false false a b).yld i H) (tn := fun h => IsZip h (N + 4) (N + 2) (N + 3) .none ∧ IsTupOf2 h (N + 2) (.ref N) (.ref (N + 1)) ∧ (∃ x y, IsTupOf2 h (N + 3) x y) ∧ ItKd false h N a (i + 1) ∧ ItKd false h (N + 1) b (i + 1)) D I hf (by simp; omega) ⟨hz, hT, hO, ⟨⟨h1, p1⟩, hA⟩, ⟨⟨h2, p2⟩, hA⟩⟩ hw old (fun vals hv => ?_) fun h' st' => ⟨st'.1, st'.2.1, st'.2.2.1, st'.2.2.2.1.1.1, st'.2.2.2.2.1.1⟩
    obtain ⟨u1, u2, e1, e2, rfl⟩ := hv
    obtain ⟨x, ex, rx⟩ := vals_at rv e1
    obtain ⟨y, ey, ry⟩ := vals_at rv2 e2
    exact ⟨[x, y], .cons rx (.cons ry .nil), by show 2 ≤ sizeLine; decide, fun T hT => ⟨T, x, y, rfl, hT, rfl, fun l hl => by rw [sq_inj I hl hx]; exact ex, fun l hl => by rw [sq_inj I hl hy]; exact ey⟩⟩
  · intro X ⟨hP, hW, hK⟩ hot i pins s σ H E I hf st hg; subst hP hW hK
    obtain ⟨xs, ys, hx, hy, hi⟩ := hg
    obtain ⟨its, rv, p1, _⟩ := sq_get I hx
    obtain ⟨its2, rv2, p2, _⟩ := sq_get I hy
    have l1 := rv.length
    have l2 := rv2.length
    have D := WalksT.zipD2 S (draws_list_hot (prog := X.prog) (w := X.w) (A := X.A.in1) hot.1 N a nea nx1 its.toArray) (draws_list_hot (A := X.A.in1) hot.1 (N + 1) b neb nx2 its2.toArray)
    obtain ⟨hz, hT, hO, h1, h2⟩ := st
    have hA := hot.2 _ _ _ _ I
    have e : i = min its.toArray.size its2.toArray.size := by simp; omega
    exact turn_done D I hf ⟨hz, hT, hO, ⟨⟨by rw [← e]; exact h1, p1⟩, hA⟩, ⟨⟨by rw [← e]; exact h2, p2⟩, hA⟩⟩ hw
def PIEB (X : Cx) (x1 : Addr) (pins : List (Addr × Obj)) (σ : L2.St) (tg : Expr) (R : It → Hp → Prop) (v : Value) (s : Shared) : Prop :=
  ∃ (it : Addr) (fp : List Addr) (tn : Nat → Heap → Prop) (J : It) (H : Hp), v = .ref it ∧ Inv X pins σ H s ∧ TurnB x1 X.prog X.w X.K tg J fp it tn ∧ tn 0 s.heap ∧ (∀ b ∈ fp, FpOk X pins H b) ∧ R J H
structure PIB (X : Cx) (x1 : Addr) (tg iter : Expr) (wi : TI) : Prop where
  run : ∀ (pins : List (Addr × Obj)) (s : Shared) (σ : L2.St) (H : Hp) (R : It → Hp → Prop), Inv X pins σ H s → wi σ H R → wpAny (model X.prog X.w) X.A (eval iter X.env) (fun v s1 => wpAny (model X.prog X.w) X.A (pyIter v) (PIEB X x1 pins σ tg R) X.xe s1) X.xe s
def iZipB (K : PySem.W.Frag) (ta : TA) : TI := fun σ H R => ta σ H fun vs H1 => ∃ a b xs ys, vs = [.ref a, .ref b] ∧ SqL K H1 a xs ∧ SqL K H1 b ys ∧ R (Itzz K false false a b) H1
theorem pi_zzB {X : Cx} {x1 : Addr} {e e2 : Expr} {ta : TA} {p pos tpos : Pos} {elts : List Expr} {kk : Nat} (hot : HotB X x1) (hg : Gl X "zip") (hm : X.mg "zip" = none) (ha : PA X [e, e2] ta)
    (hs : starEach [e, e2] X.env = (false, eval e X.env) :: starEach [e2] X.env := by rfl) (hpl : (backTo pos (starEach [e2] X.env)).any (·.1) = false := by rfl) : PIB X x1 (.Tuple elts kk tpos) (.Call (.Name "zip" p) [e, e2] [] pos) (iZipB X.K ta) := by
  refine ⟨fun pins s σ H R I h => Call_ (ld_blt I hg hm boot_zip (callWith_type1 (thn (ha.run pos pins s σ H _ I h) fun us s1 ⟨vs, H1, I1, r1, a, b, xs, ys, ex, hx, hy, q1⟩ => ?_) hs hpl))⟩
  subst ex
  cases r1 with
  | cons r rr =>
    cases rr with
    | cons r' rr =>
      cases rr; cases r; cases r'
      obtain ⟨its, rv, p1, la⟩ := sq_get (k := false) I1 hx
      obtain ⟨its2, rv2, p2, lb⟩ := sq_get (k := false) I1 hy
      have lx : x1 < s1.heap.objs.size := let ⟨_, o, _, ho, _⟩ := hot.2 _ _ _ _ I1; Heap.lt_size ho
      refine zip_begins2 (begins_sq false a its.toArray) (begins_sq false b its2.toArray) p1 p2 fun h' hz hTI hTO h1 h2 hsz hk => wpAny_pyIter_zip hz ?_
      refine ⟨_, _, _, _, H1, rfl, I1.kept (t' := s1.toks) hk, turn_zzB la lb lx, ⟨hz, hTI, ⟨_, _, hTO⟩, itKd_new h1, itKd_new h2⟩, fun c hcm => ?_, q1⟩
      have : c = s1.heap.objs.size + 4 ∨ c = s1.heap.objs.size + 2 ∨ c = s1.heap.objs.size + 3 ∨ c = s1.heap.objs.size ∨ c = s1.heap.objs.size + 1 := by simpa using hcm
      have hle : s1.heap.objs.size ≤ c := by
        rcases this with rfl | rfl | rfl | rfl | rfl <;> first | exact Nat.le_add_right _ _ | exact Nat.le_refl _
      exact I1.fpOk hle (I1.hok.fresh hle)
theorem pg_tupB {X : Cx} {x1 : Addr} {es : List Expr} {k n : Nat} {pos : Pos} {t : TGs} (hot : HotB X x1) (h : PGs X es t) (hn : (assignEach es X.env).length = n := by rfl) (hst : (assignEach es X.env).findIdx? (·.1) = none := by rfl) : PG X (.Tuple es k pos) (gTup X.K n t) :=
  ⟨fun pins s σ H v u Q I r ⟨a, xs, e1, hq, hl, hw⟩ => by
    subst e1; cases r
    obtain ⟨its, rv, ht, hz⟩ := I.tuple hq
    refine assign_tuple_hot (hot.2 _ _ _ _ I) ht (by simp [hn, ← hl, rv.length]) hst fun h' hx => ?_
    exact h.run pins _ σ H xs _ Q (I.kept (h' := h') (t' := s.toks) fun b o e => hx b o (Nat.ne_of_lt (Heap.lt_size e)) e) (by simpa using rv) hw⟩
end Dt
set_option Elab.async false
set_option linter.all false
set_option maxRecDepth 100000
set_option maxHeartbeats 4000000
namespace Dt
open PySem PySem.Spec PyProof.Rows L2 HotX
variable [HW]
section
variable {X : Cx} {p : Addr × Obj}
/-- a block's states bear it too -/
theorem HotB.blk {pins : List (Addr × Obj)} {σ : L2.St} {H : Hp} {s : Shared} {scope : Scope} {ce : PySem.Env} {fp : List Addr} (hot : L2H.Hot1 X.A p) (hp : p ∈ X.pn) (I : Inv X pins σ H s) (hf : ∀ b ∈ fp, FpOk X pins H b) : HotB (X.blk s H scope ce fp) p.1 := by
  obtain ⟨g, n, nl, nf, _⟩ := I.pin p (List.mem_append_left _ hp)
  obtain ⟨hh, v1, e1, c1⟩ := hot
  exact ⟨hh, fun pins' σ' H' s' J => ⟨hh, p.2, v1, J.base.keep p.1 p.2 g n (fun z => (List.mem_cons.mp (I.stkSub p.1 z)).elim nl nf) fun z => (hf p.1 z).2.2.2.2.2 p (List.mem_append_left _ hp) rfl, e1, c1⟩⟩
theorem lc_hot {pins : List (Addr × Obj)} {s : Shared} {σ : L2.St} {H : Hp} {Q : VK} {elt tg iter : Expr} {ifs : List Expr} {scope : Scope} {own : List (Str × Nat)} {pos pos' : Pos} {wi : TI} {g : TG} {tt : TT} {te : TE} {use : Option (Value → Sem Unit)} {Qf : Value → Shared → Prop}
    (hot : L2H.Hot1 X.A p) (hp : p ∈ X.pn) (hN : X.N.Nodup) (I : Inv X pins σ H s) (hi : PIB X p.1 tg iter wi) (ok : BlkOk X.N X.env.scope scope own)
    (hg : ∀ (s : Shared) (H : Hp) (C : Addr) (cl : List (Str × Addr)) (fp : List Addr), HotB (X.blk s H scope (compEnvC scope cl C X.env) fp) p.1 → PG (X.blk s H scope (compEnvC scope cl C X.env) fp) tg g)
    (ht : ∀ (s : Shared) (H : Hp) (C : Addr) (cl : List (Str × Addr)) (fp : List Addr), PTs (X.blk s H scope (compEnvC scope cl C X.env) fp) ifs tt)
    (he : ∀ (s : Shared) (H : Hp) (C : Addr) (cl : List (Str × Addr)) (fp : List Addr), PE (X.blk s H scope (compEnvC scope cl C X.env) fp) elt te) (hs : ∀ x, foldedSetIterable iter X.env x = pure x) (h : tLc wi g tt te (own.map (·.2)) σ H Q)
    (hR : ∀ D C s' m H', Inv X pins σ H' s' → Q (.ref D) H' → s'.heap.Ns C m → FpOk X pins H' C → compPost (model X.prog X.w) X.A X.xe use Qf (.ref D) C (.ok .next) s') :
    wpAny (model X.prog X.w) X.A (comprehension (.ListComp elt [⟨tg, iter, ifs, 0⟩] scope pos) scope X.env pos' (newList []) false (eval iter X.env) use) Qf X.xe s := by
  have hfree : ∀ y ∈ scope.names, y.2 = .free → ∃ c, X.env.cells.lookup y.1 = some c := fun y hy e => (ok.free y hy e).elim (fun k => I.ok.has _ (.inl k)) fun k => I.ok.has _ (.inr k)
  refine wpAny_comprehension_free (use := use) rfl hs (closure_ok hfree) ok.kind (fun y hy e => by rw [ok.uniq y hy, e]) (thn (hi.run pins s σ H _ I h) fun xv s1 hx => thn hx fun itv s2 ⟨it, fp, tn, J, H2, e, I2, T, st2, f2, q⟩ => ?_)
  subst e
  refine wpAny_newObj_type (newEnv_comp ?_) (by show 0 ≤ sizeLine; decide)
  generalize hD : s2.heap.objs.size = D
  obtain ⟨W, ⟨m0, w0⟩, turn⟩ := q D (I2.hok.fresh (Nat.le_of_eq hD))
  generalize hs3 : ({ s2 with heap := s2.heap.push { cls := .type "list", data := .seq ([] : List Value).toArray } } : Shared) = s3
  have I3 : Inv X pins σ (upd H2 D (.lst [])) s3 := (by
    subst hs3 hD
    exact I2.laid (t' := s2.toks) (fun b o e => Heap.get?_push_of_some _ e) (Nat.le_refl _) ⟨Nat.zero_le _, [], 0, .nil, Heap.get?_push_size _ rfl⟩)
  have h3 : s3.heap = s2.heap.push { cls := .type "list", data := .seq ([] : List Value).toArray } := (by rw [← hs3])
  have f3 : ∀ b ∈ fp, FpOk X pins (upd H2 D (.lst [])) b ∧ b < s3.heap.objs.size := fun b hb => by
    obtain ⟨o, e, _⟩ := T.ob _ _ st2 b hb
    have hlt := Heap.lt_size e
    exact ⟨⟨(upd_ne (by rw [← hD]; exact Nat.ne_of_lt hlt)).trans (f2 b hb).1, (f2 b hb).2⟩, by rw [h3, Heap.size_push]; exact Nat.lt_succ_of_lt hlt⟩
  have st3 : tn 0 s3.heap := T.kp _ _ _ st2 fun b _ o e => (by rw [h3]; exact Heap.get?_push_of_some _ e)
  have I4 := block_start I3 ok hN f3
  have hb : HotB (X.blk s3 (upd H2 D (.lst [])) scope (compEnvC scope (cellsFrom (s3.heap.objs.size + 1) scope.names (cloFrom X.env.cells scope.names [])) s3.heap.objs.size X.env) fp) p.1 := HotB.blk hot hp I3 fun b hb => (f3 b hb).1
  have pg := hg s3 (upd H2 D (.lst [])) s3.heap.objs.size (cellsFrom (s3.heap.objs.size + 1) scope.names (cloFrom X.env.cells scope.names [])) fp hb
  have pt := ht s3 (upd H2 D (.lst [])) s3.heap.objs.size (cellsFrom (s3.heap.objs.size + 1) scope.names (cloFrom X.env.cells scope.names [])) fp; have pe := he s3 (upd H2 D (.lst [])) s3.heap.objs.size (cellsFrom (s3.heap.objs.size + 1) scope.names (cloFrom X.env.cells scope.names [])) fp
  show codeAny _ _ (.compStart (.ListComp elt [⟨tg, iter, ifs, 0⟩] scope pos) 0 (.ref it) (.ref D) (compEnvC scope (cellsFrom (s3.heap.objs.size + 1) scope.names (cloFrom X.env.cells scope.names [])) s3.heap.objs.size X.env)) (compPost (model X.prog X.w) X.A X.xe use Qf (.ref D) s3.heap.objs.size)
    { s3 with heap := pushCells (s3.heap.push { cls := .type "dict", data := .dict #[] }) scope.names }
  have nfp : ∀ b ∈ fp, (upd H2 D (.lst [])) b = none := fun b hb => (f3 b hb).1.1
  generalize hce : compEnvC scope (cellsFrom (s3.heap.objs.size + 1) scope.names (cloFrom X.env.cells scope.names [])) s3.heap.objs.size X.env = ce at I4 pg pt pe hb ⊢
  have cL : ce.locals = s3.heap.objs.size := (by subst hce; rfl)
  generalize hH3 : upd H2 D (.lst []) = H3 at I3 I4 pg pt pe w0 nfp f3 hb
  generalize hs4 : ({ s3 with heap := pushCells (s3.heap.push { cls := .type "dict", data := .dict #[] }) scope.names } : Shared) = s4 at I4 ⊢
  have st4 : tn 0 s4.heap := T.kp _ _ _ st3 fun b _ o e => (by rw [← hs4]; exact pushCells_keeps _ _ _ _ (Heap.get?_push_of_some _ e))
  have stat : ∀ {σ' : L2.St} {H' : Hp} {s' : Shared}, Inv (X.blk s3 H3 scope ce fp) [] σ' H' s' → (∀ b ∈ fp, H' b = none) → ∀ b ∈ fp, FpOk (X.blk s3 H3 scope ce fp) [] H' b := fun {σ' H' s'} I' hn b hb => ⟨hn b hb, (I'.ok.exf b hb).1, I'.ok.exfs b hb, .inl hb, (I'.ok.exf b hb).2, fun p hp => nomatch (show p ∈ ([] : List (Addr × Obj)) ++ [] from hp)⟩
  have loop : codeAny (model X.prog X.w) X.A (.compLoop (.ListComp elt [⟨tg, iter, ifs, 0⟩] scope pos) 0 (.ref it) (.ref D) ce) (compPost (model X.prog X.w) X.A X.xe use Qf (.ref D) s3.heap.objs.size) s4 := by
    refine compLoop_any (fun n s' => ∃ i H', Inv (X.blk s3 H3 scope ce fp) [] (wipe σ (own.map (·.2))) H' s' ∧ tn i s'.heap ∧ (∀ b ∈ fp, H' b = none) ∧ W i n H') ?_ m0 ⟨0, H3, I4, st4, nfp, w0⟩
    rintro n s5 ⟨i, H5, I5, st5, n5, w5⟩
    rcases turn i n H5 w5 with ⟨stop, qq⟩ | ⟨go, Nx, hNx, step⟩
    · refine thnF (T.dn (X.blk s3 H3 scope ce fp) ⟨rfl, rfl, rfl⟩ hb i [] s5 _ H5 (fun _ _ => False) I5 (stat I5 n5) st5 stop) fun r s6 ⟨hr, I6⟩ => ?_
      subst hr
      have I7 : Inv X pins σ H5 s6 := I3.call' (ch := fp) I6.os I6.base I6.hok I6.bare fun b hb => let z := (f3 b hb).1; ⟨z.2.2.2.1, z.2.1, z.2.2.2.2.1, z.2.2.2.2.2⟩
      have nC : H5 s3.heap.objs.size = none := cL ▸ I6.free
      obtain ⟨m, hn, _⟩ := I6.loc
      exact hR D s3.heap.objs.size s6 m H5 I7 qq (cL ▸ hn) (I3.fpOk (Nat.le_refl _) nC)
    · refine thnF (T.itm (X.blk s3 H3 scope ce fp) ⟨rfl, rfl, rfl⟩ hb i [] s5 _ H5 (fun _ _ => False) I5 (stat I5 n5) st5 go) fun r s6 ⟨u, hr, h6⟩ => ?_
      subst hr
      refine thnF h6 fun _ s7 ⟨x, H7, I7, r7, y7, st7, n7⟩ => thnF (pg.run _ s7 _ H7 x u _ (I7.pinned (stat I7 n7) (T.ob _ _ st7)) r7 (step x H7 y7)) fun _ s8 ⟨σ8, H8, I8, hw8, q8⟩ => thnF (pt.run _ s8 σ8 H8 _ I8 q8) fun b s9 ⟨H9, I9, q9⟩ => ?_
      have fin : ∀ {s' : Shared} {H' : Hp}, Inv (X.blk s3 H3 scope ce fp) ([] ++ pinsAt fp s7.heap) σ8 H' s' → Nx H' → ∃ m, m < n ∧ ∃ i H', Inv (X.blk s3 H3 scope ce fp) [] (wipe σ (own.map (·.2))) H' s' ∧ tn i s'.heap ∧ (∀ b ∈ fp, H' b = none) ∧ W i m H' := fun {s' H'} I' nx => by
        obtain ⟨m', hm, w'⟩ := hNx H' nx
        have pin' : ∀ b ∈ fp, ∀ o, s7.heap.get? b = some o → s'.heap.get? b = some o ∧ H' b = none := fun b hb o e => (I'.pin (b, o) (List.mem_append_right _ (List.mem_append_right _ (mem_pinsAt hb e)))).imp id And.left
        refine ⟨m', hm, i + 1, H', (I'.unpinned (pins := [])).weak (by rw [← hw8, wipe_length]) (fun j v e => (wipe_some (hw8 ▸ e)).1), T.kp _ _ _ st7 fun b hb o e => (pin' b hb o e).1, fun b hb => let ⟨o, e, _⟩ := T.ob _ _ st7 b hb; (pin' b hb o e).2, w'⟩
      cases b with
      | false => exact fin I9 q9
      | true => exact thnF (pe.run _ s9 σ8 H9 _ I9 q9) fun z s10 ⟨yv, H10, I10, r10, acc, hD10, hz10, nx⟩ => app_ok (X := X.blk s3 H3 scope ce fp) I10 hD10 hz10 r10 fun s11 I11 => fin I11 nx
  exact codeAny_compStart_list loop (T.sf X.A 0 _ _ _ st4 loop)
theorem pe_lcB {elt tg iter : Expr} {ifs : List Expr} {scope : Scope} {own : List (Str × Nat)} {pos : Pos} {wi : TI} {g : TG} {tt : TT} {te : TE} (hot : L2H.Hot1 X.A p) (hp : p ∈ X.pn) (hN : X.N.Nodup) (hi : PIB X p.1 tg iter wi) (ok : BlkOk X.N X.env.scope scope own)
    (hg : ∀ (s : Shared) (H : Hp) (C : Addr) (cl : List (Str × Addr)) (fp : List Addr), HotB (X.blk s H scope (compEnvC scope cl C X.env) fp) p.1 → PG (X.blk s H scope (compEnvC scope cl C X.env) fp) tg g)
    (ht : ∀ (s : Shared) (H : Hp) (C : Addr) (cl : List (Str × Addr)) (fp : List Addr), PTs (X.blk s H scope (compEnvC scope cl C X.env) fp) ifs tt)
    (he : ∀ (s : Shared) (H : Hp) (C : Addr) (cl : List (Str × Addr)) (fp : List Addr), PE (X.blk s H scope (compEnvC scope cl C X.env) fp) elt te) (hs : ∀ x, foldedSetIterable iter X.env x = pure x := by intro _; rfl) :
    PE X (.ListComp elt [⟨tg, iter, ifs, 0⟩] scope pos) (tLc wi g tt te (own.map (·.2))) := ⟨fun pins s σ H Q I h => by
  rw [eval_ListComp]
  exact lc_hot hot hp hN I hi ok hg ht he hs h fun D C s' m H' I' q hn ⟨f0, f1, f2, f3, f4, f5⟩ => ⟨m, hn, fun h'' sb => ⟨.ref D, H', I'.turned (t' := s'.toks) (fun b o hb e => (sb.2 b hb).trans e) f0 f1 f3 f4 f5, rfl, q⟩⟩⟩
end
end Dt
set_option Elab.async false
set_option linter.all false
set_option maxRecDepth 100000
set_option maxHeartbeats 4000000
namespace Dt
open PySem PySem.Spec PyProof.Rows L2 HotX
variable [HW]
def txtsD : List D → Option (List Str)
  | [] => some []
  | .str s :: ds => (txtsD ds).map (s :: ·)
  | _ => none
theorem txts_rp {K : PySem.W.Frag} {F : Hp} : ∀ {vs : List V} {ds : List D} {ys : List Str}, Rps K F vs ds → txtsD ds = some ys → vs = ys.map V.str
  | _, _, _, .nil, e => by cases e; rfl
  | _, _, _, .cons (d := d) (ds := ds) a b, e => by
    cases a with
    | str s =>
      simp only [txtsD] at e
      cases e2 : txtsD ds with
      | none => rw [e2] at e; cases e
      | some zs => rw [e2] at e; cases e; rw [txts_rp b e2]; rfl
    | _ => simp only [txtsD] at e; cases e
def joinG (a : Str) (d : D) : Option D := match d with
  | .lst ds => (txtsD ds).bind fun ys => if (ys.map (·.length)).sum + ys.length * a.length ≤ 16777216 then some (.str (Txt.join a ys)) else none
  | _ => none
def sJoin (so se : SE) : SE := fun ρ => (so ρ).bind fun d ρ1 => match d with
  | .str a => (se ρ1).bind fun l ρ2 => ofO (joinG a l) ρ2
  | _ => .stuck
@[simp] theorem ev_join (so se : SE) (ρ : Env) : sJoin so se ρ = (so ρ).bind fun d ρ1 => match d with
  | .str a => (se ρ1).bind fun l ρ2 => ofO (joinG a l) ρ2
  | _ => .stuck := rfl
section
variable {ex : Exx} {X : Cx} {W : WX} {o e : Expr} {apos pos : Pos} {so se : SE}
theorem d_join (ho : DE (GK X ex) X W o so) (he : DE (GK X ex) X W e se) (hs : starEach [e] X.env = [(false, eval e X.env)] := by rfl) (hbase : attributeBase o "join" X.env (eval o X.env) = eval o X.env := by rfl) (hline : (apos.endLine == pos.line) = true := by rfl) :
    DE (GK X ex) X W (.Call (.Attribute o "join" apos) [e] [] pos) (sJoin so se) :=
  wkE (pe_join ho he hs hbase hline) fun σ H Q ⟨ρ, F, Rv, io, rel, q⟩ => by
    refine ⟨ρ, F, Rv, io, rel, ?_⟩
    unfold sJoin at q
    cases e1 : so ρ with
    | stuck => rw [e1] at q; exact q.elim
    | exc x ρ' => rw [e1] at q; exact q
    | ok d ρ1 =>
      rw [e1, R.bind_ok] at q
      intro v H1 F1 le1 rel1 rp
      cases d with
      | str a =>
        cases rp
        refine ⟨⟨a, rfl⟩, ρ1, F1, Rv, io, rel1, ?_⟩
        cases e2 : se ρ1 with
        | stuck => simp only [e2] at q; exact q.elim
        | exc x ρ' => simp only [e2] at q; exact XPost.le q le1
        | ok l ρ2 =>
          simp only [e2, R.bind_ok] at q
          intro v2 H2 F2 le2 rel2 rp2
          cases e3 : joinG a l with
          | none => rw [e3] at q; exact q.elim
          | some d =>
            rw [e3] at q
            unfold joinG at e3
            split at e3
            · rename_i ds
              cases e4 : txtsD ds with
              | none => rw [e4] at e3; cases e3
              | some ys =>
                rw [e4, Option.bind_some] at e3
                split at e3
                · rename_i hz
                  cases e3
                  cases rp2 with
                  | lst t r =>
                    rw [txts_rp r e4] at t
                    exact ⟨a, _, ys, rfl, rfl, .inl (SqL.of (rel2.fH _ _ t)), hz, q _ H2 F2 (le1.trans le2) rel2 (.str _)⟩
                · cases e3
            · cases e3
      | _ => exact q.elim
end
section
open PySem.W PySem.Calls PySem.Builtin PySem.Builtin.ObjectAttr PySem.Builtin.Getset_descriptor
variable {prog : Program} {w : World} {A : Around} {E : Value → Shared → Prop} {s : Shared} {K : Frag} {x D : Addr} {ox : Obj} {R : Result → Shared → Prop}
/-- at x: an instance of D -/
structure InstX (h : Heap) (x : Addr) (ox : Obj) (D : Addr) : Prop where
  at_ : h.get? x = some ox
  cls : ox.cls = .ref D
theorem InstX.type {M : Model} {h : Heap} (I : InstX h x ox D) : Looks M h (typeOf (.ref x)) (.ref D) := I.cls ▸ (Looks.ld I.at_).andThen .now
theorem class_getX {tp : Value} (X : K.In s.heap) (I : InstX s.heap x ox D) (hm : mroIn K D (.type "object") = some true)
    (h : R (.ok (.ret (.ref D))) s) : codeAny (model prog w) A (.call (.builtin "getset_descriptor.__get__") ⟨[.builtin "object.__class__", .ref x, tp], []⟩) R s := by
  obtain ⟨hh, g, dr, t, os⟩ := s
  have L0 := I.type (M := model prog w)
  have L1 := looks_mroIn (M := model prog w) X hm
  refine codeAny_call_builtin KF.slot_gs.plain KF.entry_gs (KF.slot_gs.check _ _ _ _ _ _ _ _ KF.type_class (KF.args_gs _ _ _) ?_)
  unfold Builtin.«getset_descriptor.__get__» descrGet
  rw [dga_obj]
  refine wpAny_bind (wpAny_pure ?_)
  unfold descrGetter descrCheckInstance descrNameAndClass isInstance
  simp only [KF.owner_class]
  repeat lk
  refine ⟨Code.quiet_builtin _ (by decide +kernel), codeAny_builtin KF.entry_class ?_⟩
  unfold Builtin.«object.__class__» shownTypeOf
  repeat lk
  exact h
theorem kin_classX {Q : Option Value → Shared → Prop} (hga : findIn K (.ref D) "__getattribute__" = some (some (.builtin "BaseException.__getattribute__"))) (hgt : findIn K (.ref D) "__getattr__" = some none) (hsub : subIn K (.ref D) (.type "BaseException") = some true)
    (hdct : hasDictIn K D = true) (ha : findIn K (.ref D) "__class__" = some (some (.builtin "object.__class__")))
    (hn : specialIn K (.builtin "object.__class__") "__get__" = some (some (.builtin "getset_descriptor.__get__"))) (htk : takesIn K (.builtin "object.__class__") = some true) (hm : mroIn K D (.type "object") = some true)
    (X : K.In s.heap) (I : InstX s.heap x ox D) (h : Q (some (.ref D)) { s with toks := s.toks + 1 }) : wpAny (model prog w) A (getAttr? (.ref x) "__class__") Q E s := by
  obtain ⟨hp, g, d, t, os⟩ := s
  have L0 := I.type (M := model prog w)
  have L1 := looks_findIn (M := model prog w) X hga
  have L2 := looks_findIn (M := model prog w) X hgt
  have L3 : Looks (model prog w) hp (PySem.Builtin.ObjectAttr.find (.ref x) (.ref D) "__class__") (PySem.Builtin.ObjectAttr.Found.bind (.builtin "getset_descriptor.__get__") (.builtin "object.__class__")) := by
    have a1 := looks_findIn (M := model prog w) X ha
    have a2 : Looks (model prog w) hp (getOf (some (.builtin "object.__class__"))) (some (.builtin "getset_descriptor.__get__")) := looks_specialIn X hn
    have a3 := looks_takesIn (M := model prog w) X htk
    exact a1.andThen (a2.andThen ((show Looks (model prog w) hp (dataDescriptor? (some (.builtin "object.__class__")) (some (.builtin "getset_descriptor.__get__"))) (some (.builtin "getset_descriptor.__get__", .builtin "object.__class__")) from a3.andThen .now).andThen (Looks.tag .now)))
  have sub : Looks (model prog w) hp (isInstance (.ref x) (.type "BaseException")) true := L0.andThen (looks_subIn X hsub)
  have hx0 : (false && onTheHeap (Value.builtin "BaseException.__getattribute__")) = false := rfl
  have hx2 : (Value.builtin "BaseException.__getattribute__" == Value.builtin "object.__getattribute__") = false := by decide +kernel
  have hx1 : (onTheHeap (Value.ref D) && Value.builtin "BaseException.__getattribute__" == Value.builtin "object.__getattribute__") = false := by rw [hx2]; rfl
  unfold getAttr? getAttrBy? getAttrBy
  refine wpAny_bind (wpAny_mkText (wpAny_bind (wpAny_attempt (wpAny_holding (wpAny_bind (L0.at (wpAny_bind (L1.at ?_))))))))
  show wpAny _ _ (if (onTheHeap (Value.ref D) && Value.builtin "BaseException.__getattribute__" == Value.builtin "object.__getattribute__") = true then _ else _) _ _ _
  rw [hx1, if_neg Bool.false_ne_true]
  unfold getAttrByItsOwn hookBefore
  refine wpAny_bind ?_
  rw [if_pos (show onTheHeap (Value.ref D) = true from rfl)]
  refine L2.at ?_
  refine wpAny_bind (wpAny_attempt (wpAny_holding ?_))
  unfold callGetattribute
  rw [hx0, if_neg Bool.false_ne_true]
  unfold boundAndCalled
  rw [PySem.F.excAttr_ValueError.ga.bind (.ref x)]
  refine wpAny_bind (wpAny_pure ?_)
  show wpAny _ _ (call (.builtin "BaseException.__getattribute__") [.ref x, .str "__class__" t]) _ _ _
  refine wpAny_call (codeAny_call_builtin PySem.F.excAttr_ValueError.ga.plain PySem.F.entry_bexc_ga ?_)
  refine @check_slot (model prog w) _ _ ⟨hp, g, d, t + 1, os⟩ "BaseException.__getattribute__" "BaseException" "__getattribute__" (.ref x) [.str "__class__" t] [] _ (by decide +kernel) (by decide +kernel) sub (PySem.F.args_bexc_ga (.ref x) (.str "__class__" t)) ?_
  unfold Builtin.«object.__getattribute__»
  refine wpAny_bind (wpAny_of_eq (a := ((Value.ref x : Value), [Value.str "__class__" t])) (by first | rfl | (simp only [slotArgs]; rfl)) ?_)
  refine wpAny_bind (wpAny_pure (wpAny_bind (L0.at (wpAny_bind (L3.at ?_)))))
  show wpAny _ _ (holding [Value.builtin "object.__class__"] (call (.builtin "getset_descriptor.__get__") [.builtin "object.__class__", .ref x, .ref D]) >>= ret) _ _ _
  refine wpAny_bind (wpAny_holding (wpAny_call (class_getX (s := ⟨hp, g, d, t + 1, os⟩) (ox := ox) X I hm ?_)))
  refine wpAny_pure ?_
  show wpAny _ _ (handedOut (.ref D)) _ _ _
  rw [handedOut_of (v := .ref D) rfl]
  first
    | exact wpAny_pure (wpAny_pure h)
    | exact wpAny_pure h
    | exact wpAny_pure (wpAny_bind (wpAny_pure (wpAny_pure h)))
theorem kitx_excX (hga : findIn K (.ref D) "__getattribute__" = some (some (.builtin "BaseException.__getattribute__"))) (hgt : findIn K (.ref D) "__getattr__" = some none) (hsub : subIn K (.ref D) (.type "BaseException") = some true) (hdct : hasDictIn K D = true) (ha : findIn K (.ref D) "__class__" = some (some (.builtin "object.__class__")))
    (hn : specialIn K (.builtin "object.__class__") "__get__" = some (some (.builtin "getset_descriptor.__get__"))) (htk : takesIn K (.builtin "object.__class__") = some true) (hm : mroIn K D (.type "object") = some true) :
    KitX K (.ref x) (.ref D) (fun h => InstX h x ox D) where
  ty := fun _ _ _ I => I.type
  it := fun _ _ X _ => by
    obtain ⟨cdD, hcD, _⟩ := any_some hdct
    unfold clsIn at hcD
    split at hcD
    · rename_i c' d' cd' sl' ho
      intro A' Q' E' s' k q
      unfold isType loadHead
      exact wpAny_bind (wpAny_loadPart (k _ _ (X _ _ ho)) (wpAny_pure q))
    · cases hcD
  ne := fun h tp dd its n sl X htp => by
    obtain ⟨cdD, hcD, _⟩ := any_some hdct
    refine Bool.eq_false_iff.mpr fun q => ?_
    have e : D = tp := Value.ref.inj (beq_iff_eq.mp q)
    subst e
    unfold clsIn at hcD
    split at hcD
    · rename_i c' d' cd' sl' ho
      have z := (X _ _ ho).symm.trans htp
      cases z
    · cases hcD
  ca := fun X I k => kin_classX hga hgt hsub hdct ha hn htk hm X I k
end
theorem call_isP {X : Cx} {a C : Addr} {oe : Obj} {dx : Option Addr} (hp : (a, oe) ∈ X.pn) (c : ExcC X.K C) (hz : Zc (.ref C) dx oe) (hf : ∃ vs, oe.data = .fields vs) : CallR X (.builtin "isinstance") (rIsE X.K C a) := fun pins s σ H xs us Q I r ⟨d, cv, b, ex, hcv, e, q⟩ => by
  subst ex
  match us, r with
  | [_, ut], .cons rx (.cons rt .nil) =>
    obtain rfl : _ = Value.ref a := rx
    obtain rfl : ut = cv := hcv _ rt
    have J : InstX s.heap a oe C := ⟨(I.pin (a, oe) (List.mem_append_left _ hp)).1, hz.1⟩
    exact PySem.W.kia_one (kitx_excX c.hg c.hk c.hs c.hd c.ha c.hn c.ht c.hm) I.kIn J e (fun z => nomatch z) fun tk => ⟨V.bl b, H, I.kept (fun _ _ z => z), rfl, q⟩
def sIsE (i : Nat) (a : Addr) (b : Bool) : SE := fun ρ => match ρ[i]? with
  | some (.fro (.exn c)) => if c = a then .ok (.bl b) ρ else .stuck
  | _ => .stuck
section
variable {ex : Exx} {X : Cx} {W : WX} {e : Expr} {p pos : Pos}
theorem d_isE {i : Nat} {a C c : Addr} {oe : Obj} {dx : Option Addr} {b : Bool} {t : Str} {q : Pos} (hp : (a, oe) ∈ X.pn) (cc : ExcC X.K C) (hz : Zc (.ref C) dx oe) (hf : ∃ vs, oe.data = .fields vs) (hg : Gl X "isinstance") (hm : X.mg "isinstance" = none)
    (gt : Gl X t) (mt : X.mg t = some (.ref c)) (k : PySem.W.kitOne X.K (.ref C) (.ref c) = some b) (ha : PE X e (tVar i)) (hd : (t == ("__debug__" : Str)) = false := by decide)
    (he : starEach (e :: (.Name t q) :: []) X.env = (false, eval e X.env) :: starEach ((.Name t q) :: []) X.env := by rfl) (hpl : (backTo pos (starEach ((.Name t q) :: []) X.env)).any (·.1) = false := by rfl) (hs2 : starEach ((.Name t q) :: []) X.env = (false, eval (.Name t q) X.env) :: starEach [] X.env := by rfl) :
    DE (GK X ex) X W (.Call (.Name "isinstance" p) (e :: (.Name t q) :: []) [] pos) (sIsE i a b) :=
  wkE (isi_gl hg hm (call_isP hp cc hz hf) (pa_cons ha (pa_cons (pe_glob (v := .ref c) gt mt rfl hd) pa_nil hs2) he) he hpl) fun σ H Q ⟨ρ, F, Rv, io, rel, z⟩ => by
    unfold sIsE at z
    cases e1 : ρ[i]? with
    | none => rw [e1] at z; exact z.elim
    | some cl =>
      rw [e1] at z
      cases cl with
      | fro d =>
        cases d with
        | exn c' =>
          by_cases ec : c' = a
          · simp only [if_pos ec] at z
            subst ec
            obtain ⟨v, e2, x, rfl, rp⟩ := rel.slot e1
            cases rp
            exact ⟨_, e2, .ref c, .ref c, b, rfl, (fun u h => h), k, z (.bl b) H F (FLe.refl F) rel (.bl b)⟩
          · simp only [if_neg ec] at z
        | _ => exact z.elim
      | _ => exact z.elim
end
def zipL : List D → Option (List D)
  | [.lst xs, .lst ys] => some (pairUp xs ys)
  | _ => none
def iZipL (s : SA) : SA := fun ρ => (s ρ).bind fun ds ρ' => ofO (zipL ds) ρ'
@[simp] theorem ev_iZipL (s : SA) (ρ : Env) : iZipL s ρ = (s ρ).bind fun ds ρ' => ofO (zipL ds) ρ' := rfl
def gTupA (n : Nat) (gs : SGs) : SG := fun d ρ => match d with
  | .arg ds => if ds.length = n then gs ds ρ else .stuck
  | _ => .stuck
@[simp] theorem ev_gTupA (n : Nat) (gs : SGs) (ds : List D) (ρ : Env) : gTupA n gs (.arg ds) ρ = if ds.length = n then gs ds ρ else .stuck := rfl
section
variable {ex : Exx} {X : Cx} {W : WX} {e tg elt iter : Expr} {es : List Expr} {p pos : Pos} {sA : SA}
theorem d_iZipB {x1 : Addr} {e2 : Expr} {elts : List Expr} {kk : Nat} {tpos : Pos} (hot : HotB X x1) (hg : Gl X "zip") (hm : X.mg "zip" = none) (ha : DA (GK X ex) X W [e, e2] sA) (hs : starEach [e, e2] X.env = (false, eval e X.env) :: starEach [e2] X.env := by rfl) (hpl : (backTo pos (starEach [e2] X.env)).any (·.1) = false := by rfl) :
    PIB X x1 (.Tuple elts kk tpos) (.Call (.Name "zip" p) [e, e2] [] pos) (tI (GK X ex) W (iZipL sA)) :=
  ⟨fun pins s σ H RR I ⟨ρ, F, Rv, io, rel, q⟩ => (pi_zzB hot hg hm ha hs hpl).run pins s σ H RR I (by
    refine ⟨ρ, F, Rv, io, rel, ?_⟩
    rw [ev_iZipL] at q
    cases e1 : sA ρ with
    | stuck => rw [e1] at q; exact q.elim
    | exc x ρ' => rw [e1] at q; exact q
    | ok ds ρ' =>
      rw [e1, R.bind_ok] at q
      intro vs H' F' le rel' rs
      cases e3 : zipL ds with
      | none => rw [e3] at q; exact q.elim
      | some zs =>
        rw [e3] at q
        unfold zipL at e3
        split at e3
        · rename_i xs ys
          cases e3
          match vs, rs with
          | [_, _], .cons r1 (.cons r2 .nil) =>
            cases r1 with
            | lst t1 q1 =>
              cases r2 with
              | lst t2 q2 =>
                have s1 : SqK X.K false F' _ _ := SqL.of t1
                have s2 : SqK X.K false F' _ _ := SqL.of t2
                exact ⟨_, _, _, _, rfl, rel'.fH.sqL s1, rel'.fH.sqL s2, q _ H' F' le rel' (iter_zz s1 s2 q1 q2)⟩
        · cases e3)⟩
theorem d_gTupB {x1 : Addr} {k n : Nat} {gs : SGs} {js : List Nat} (hot : HotB X x1) (h : DGs (GK X ex) X W js es gs) (hn : (assignEach es X.env).length = n := by rfl) (hst : (assignEach es X.env).findIdx? (·.1) = none := by rfl) : DG (GK X ex) X W js (.Tuple es k pos) (gTupA n gs) :=
  wkG (pg_tupB hot h hn hst) fun v σ H Q ⟨d, ρ, F, Rv, io, rel, rp, q⟩ => by
    cases d with
    | arg ds =>
      cases rp with
      | arg t r =>
        rw [ev_gTupA] at q
        by_cases hl : ds.length = n
        · rw [if_pos hl] at q
          exact ⟨_, _, rfl, rel.fH.sqT t, by rw [r.length]; exact hl, ds, ρ, F, Rv, io, rel, r, q⟩
        · rw [if_neg hl] at q; exact q.elim
    | _ => exact q.elim
theorem d_compFB {pp : Addr × Obj} {ifs : List Expr} {scope : Scope} {own : List (Str × Nat)} {it : SA} {g : SG} {t : ST} {s : SE} {js : List Nat} (hot : L2H.Hot1 X.A pp) (hp : pp ∈ X.pn) (nd : X.N.Nodup) (hi : PIB X pp.1 tg iter (tI (GK X ex) W it)) (ok : BlkOk X.N X.env.scope scope own)
    (hg : ∀ (s : Shared) (H : Hp) (C : Addr) (cl : List (Str × Addr)) (fp : List Addr), HotB (X.blk s H scope (compEnvC scope cl C X.env) fp) pp.1 → DG (GK X ex) (X.blk s H scope (compEnvC scope cl C X.env) fp) W0 js tg g)
    (ht : ∀ (s : Shared) (H : Hp) (C : Addr) (cl : List (Str × Addr)) (fp : List Addr), PTs (X.blk s H scope (compEnvC scope cl C X.env) fp) ifs (tT (GK X ex) W0 t))
    (he : ∀ (s' : Shared) (H : Hp) (C : Addr) (cl : List (Str × Addr)) (fp : List Addr), DE (GK X ex) (X.blk s' H scope (compEnvC scope cl C X.env) fp) W0 elt s) (hjs : js.all (fun j => (own.map (·.2)).contains j) = true) (hs : ∀ x, foldedSetIterable iter X.env x = pure x := by intro _; rfl) :
    DF (GK X ex) X W (.ListComp elt [⟨tg, iter, ifs, 0⟩] scope pos) (sComp (own.map (·.2)) it g t s) :=
  wkE (pe_lcB hot hp nd hi ok hg ht he hs) fun σ H Q h => comp_core hjs h
end
end Dt
set_option Elab.async false
set_option linter.all false
set_option maxRecDepth 100000
set_option maxHeartbeats 4000000
namespace Dt
open PySem PySem.Spec PyProof.Rows L2 HotX L2H
variable [HW]
abbrev CXf : CXT := fun _ _ _ _ _ _ => False
section
variable {P : Program} {w : World} {K : PySem.W.Frag} {mg : Str → Option Value} {base : Heap}
/-- a def's body runs while p is handled -/
theorem run_pin {CX : CXT} {x qual : Str} {st : Stmt} {f : Addr} {fd : FuncData} {N ps : List Str} {k : Nat} (F : Fun K x qual st f fd) (S : FnScope N ps (defScope st)) {A : Around} {outer : List PySem.Env} {s : Shared} {H : Hp} {args : Args} {us : List Value} {vs : List V} {Q : VK} {E : XK} {p : Addr × Obj}
    (hr : RoomH (k + 1) A) (pin : PinOk outer H s p) (e0 : Env0 P w K mg base A outer s H) (hb : BindsTo s fd args (ps.zip us)) (r : Vals vs us) (hl : vs.length = ps.length)
    (body : ∀ cd : Value, RoomH k (A.deeper (envOfC qual (defScope st) s.heap.objs.size f cd)) → ∃ t, PSs (cxH CX P w K mg base N qual (defScope st) f cd A outer s H E p) (defBody st) t ∧ t { nx := fun _ H' => Q .non H', rt := Q } (L2.start N vs) H) :
    codeAny (model P w) A (.call (.ref f) args) (CR CX outer P w H s Q E) s := by
  obtain ⟨_, _, _, _, _, _, cd, _, _, e, lk, hcd⟩ := F.ex; subst e
  have KX : K.In s.heap := e0.mod.kin.keeps fun b o e => (e0.bs b o e).1; have lim : s.heap.NoLimit := e0.mod.nolimit.keeps fun b o e => (e0.bs b o e).1
  have hkind : ∀ y ∈ ps.zip us, (defScope st).names.lookup y.1 = some .local ∨ ((defScope st).names.lookup y.1 = some .cell ∧ ((cellsFrom (s.heap.objs.size + 1) (defScope st).names []).lookup y.1).isSome = true) := fun ⟨n, v⟩ hy => (S.par n (List.of_mem_zip hy).1).imp id fun q => ⟨q, PySem.W.cellsFrom_some _ _ _ (.inl q)⟩
  refine codeAny_call_function hr.depth (KX _ _ lk) rfl S.co S.gen rfl (PySem.W.codeRec_of KX hcd) (hb _ _ _ _ (wpAny_newFunctionEnv_cells S.kind hkind fun env he s1 x => ?_)); subst he
  refine ⟨lim.keeps x.toInCall.keep, codeAny_func ?_⟩
  obtain ⟨t, ht, hq⟩ := body cd (hr.deeper _)
  refine wpAny_mono (ht.run [] s1 (L2.start N vs) H _ (inv_startH S pin e0 hl r x) hq) (fun fl s' hs => ?_) fun e s' hs => hs
  have fin : ∀ {σ' : L2.St} {H' : Hp} {v : V} {u : Value}, Inv (cxH CX P w K mg base N qual (defScope st) f cd A outer s H E p) [] σ' H' s' → RelV v u → Q v H' → CE outer P w H s Q u s' := fun {σ' H' v u} J rv q => ⟨v, H', J.os, J.bare, J.base, J.hok, rv, q⟩
  cases fl with
  | ret u => exact let ⟨v, σ', H', J, rv, q⟩ := hs; fin J rv q
  | next => exact let ⟨σ', H', J, q⟩ := hs; fin (v := V.non) (u := Value.none) J rfl q
  | brk => exact let ⟨_, _, _, q⟩ := hs; q.elim
  | cont => exact let ⟨_, _, _, q⟩ := hs; q.elim
end
end Dt
set_option Elab.async false
set_option linter.all false
set_option maxRecDepth 100000
set_option maxHeartbeats 4000000
namespace Dt
open PySem PySem.Spec PyProof.Rows L2 HotX L2H
variable [HW]
/-- what of the environment is frozen data -/
def froOnly (ρ : Env) : Env := ρ.map fun c => match c with
  | .fro d => .fro d
  | _ => .no
theorem froOnly_at {ρ : Env} {i : Nat} {c : Cell} (h : (froOnly ρ)[i]? = some c) : c = .no ∨ ∃ d, c = .fro d ∧ ρ[i]? = some (.fro d) := by
  unfold froOnly at h
  rw [List.getElem?_map] at h
  cases e : ρ[i]? with
  | none => rw [e] at h; cases h
  | some c' =>
    rw [e] at h
    cases c' with
    | fro d => cases h; exact .inr ⟨d, rfl, rfl⟩
    | _ => cases h; exact .inl rfl
section
variable {T : List (Addr × Str)} {K : PySem.W.Frag} {io : Io T} {Rv F R' : Hp} {ρ : Env} {σ : L2.St} {H H1 : Hp}
theorem Rel.fros (r : Rel K io Rv ρ F σ H) (ap : Apart F R' H) : Rel K ({} : Io []) R' (froOnly ρ) F σ H := by
  have nh : ∀ {i : Nat} {c : Cell} {d : D}, (froOnly ρ)[i]? = some c → c.held = some d → False := fun {i c d} e h => by
    rcases froOnly_at e with rfl | ⟨_, rfl, _⟩ <;> cases h
  refine ⟨ap.f, ap.r, ap.d, by unfold froOnly; rw [List.length_map]; exact r.len, fun i c v e1 e2 => ?_, fun i j ci cj di dj p e1 _ h1 _ _ _ => (nh e1 h1).elim, fun ip hip => (nomatch hip), fun i d e => (nh e rfl).elim, fun t ht => (nomatch ht), ap.nt⟩
  rcases froOnly_at e1 with rfl | ⟨d, rfl, e3⟩
  · trivial
  · exact r.cell i _ v e3 e2
/-- a code object was made, the table grew -/
theorem Rel.tabled {P : Addr} {q : Str} {io : Io [(P, q)]} (r : Rel K io Rv ρ F σ H) (x : LamX.ExtN H H1) (tb : LamX.Tabs [(P, q)] H1) : ∃ F1, FLe F F1 ∧ Rel K io Rv ρ F1 σ H1 := by
  classical
  have tk := r.tab (P, q) (.head _)
  obtain ⟨tF, tR, nx, ps, tH, _⟩ := id tk
  obtain ⟨ps1, b1, b2, b3⟩ := tb (P, q) (.head _)
  have b1 : H1 P = some (.tbl ps1) := b1
  have fup : ∀ {a o}, F a = some o → H1 a = some o := fun {a o} e => x a o (r.fH a o e) fun ps z => r.nt.tb a ps (by rw [e, z])
  have rup : ∀ {a o}, Rv a = some o → H1 a = some o := fun {a o} e => x a o (r.rH a o e) fun ps z => nx.1 a ps (by rw [e, z])
  let F1 : Hp := fun a => if H1 a = some (LamX.CodeO a q) then H1 a else F a
  have yes : ∀ {a}, H1 a = some (LamX.CodeO a q) → F1 a = some (LamX.CodeO a q) := fun {a} e => (if_pos e).trans e
  have no : ∀ {a}, H1 a ≠ some (LamX.CodeO a q) → F1 a = F a := fun {a} e => if_neg e
  have le : FLe F F1 := fun a o e => by
    by_cases h : H1 a = some (LamX.CodeO a q)
    · rw [yes h, ← h]; exact fup e
    · rw [no h]; exact e
  have own : ∀ {p d}, OwnAt K F Rv H p d → OwnAt K F1 Rv H1 p d := fun {p d} w => by
    obtain ⟨o, e, ob⟩ := w.at_
    have e1 : H1 p = some o := x p o e (ob.nt default).1
    refine ⟨?_, w.nR, o, e1, ob.mono le⟩
    rw [no (fun z => by rw [e1] at z; exact ob.nx q (Option.some.inj z))]
    exact w.nF
  refine ⟨F1, le, fun a o e => ?_, fun a o e => rup e, fun a o e => ?_, r.len, fun i c v e1 e2 => ?_, r.inj, r.ios, r.ioc, fun t ht => ?_, fun a ps z => ?_⟩
  · by_cases h : H1 a = some (LamX.CodeO a q)
    · rw [yes h] at e; rw [h]; exact e
    · rw [no h] at e; exact fup e
  · by_cases h : H1 a = some (LamX.CodeO a q)
    · cases e2 : Rv a with
      | none => rfl
      | some o' => have z := rup e2; rw [h] at z; cases z; exact (nx.2 a q e2).elim
    · rw [no h] at e; exact r.dj a o e
  · have k := r.cell i c v e1 e2
    cases c with
    | no => trivial
    | fro d => obtain ⟨y, e, rp⟩ := k; exact ⟨y, e, rp.mono le⟩
    | own d => obtain ⟨p, e, w⟩ := k; exact ⟨p, e, own w⟩
    | io d => obtain ⟨p, e, w⟩ := k; exact ⟨p, e, own w⟩
  · have et : t = (P, q) := List.mem_singleton.mp ht
    subst et
    refine ⟨?_, tR, nx, ps1, b1, b2, fun pos cv hc => ?_⟩
    · show F1 P = none
      rw [no (fun z => by rw [b1] at z; exact LamX.codeO_ne ps1 (Option.some.inj z).symm)]
      exact tF
    · obtain ⟨c, e, k⟩ := b3 pos cv hc
      exact ⟨c, e, yes k⟩
  · by_cases h : H1 a = some (LamX.CodeO a q)
    · rw [yes h] at z; cases z; rfl
    · rw [no h] at z; exact r.nt a ps z
theorem Rel.tabsOf {P : Addr} {q : Str} {io : Io [(P, q)]} (r : Rel K io Rv ρ F σ H) : LamX.Tabs [(P, q)] H := fun p hp => by
  have e : p = (P, q) := List.mem_singleton.mp hp
  subst e
  obtain ⟨_, _, _, ps, e1, e2, e3⟩ := r.tab (P, q) (.head _)
  exact ⟨ps, e1, e2, fun pos cv h => let ⟨c, e, k⟩ := e3 pos cv h; ⟨c, e, r.fH _ _ k⟩⟩
end
abbrev lamCxN (X : Cx) (A : Around) (outer : List PySem.Env) (s : Shared) (H : Hp) (E : XK) (scope : Scope) (f c : Addr) : Cx :=
  (LamX.lamCx X A outer s H E scope f c).tr [] fun e s' => wpAny (model X.prog X.w) (A.deeper (LamX.lamEnv X scope s.heap.objs.size f c)) (leaving (LamX.lamEnv X scope s.heap.objs.size f c) e) (fun _ s'' => L2N.CX X.prog X.w outer H s E e s'') (fun e' s'' => L2N.CX X.prog X.w outer H s E e' s'') s'
section
variable {X : Cx} {pins : List (Addr × Obj)} {σ : L2.St} {H : Hp} {s : Shared}
theorem at_lam {A : Around} {outer : List PySem.Env} {E : XK} {scope : Scope} {f c : Addr} {k : Nat} (nd : X.N.Nodup) (wd : X.w = HW.w) (hr : Room k (A.deeper (LamX.lamEnv X scope s.heap.objs.size f c))) : At (lamCxN X A outer s H E scope f c) (wE E) :=
  ⟨rfl, nd, hr.units, L2N.takes_of (E₁ := fun e' s'' => L2N.CX X.prog X.w outer H s E e' s'') rfl rfl rfl rfl, wd⟩
/-- the call of what the def got: the lambda's body runs -/
theorem pe_actN {CXg : CXT} {Eg : XK} {Ng : List Str} {qg : Str} {sg : Scope} {g f c : Addr} {cdg pm ctv : Value} {params : Arguments} {body : Expr} {scope : Scope} {k i : Nat} {a : Str} {pn : List (Addr × Obj)} {xe : Value → Shared → Prop} {W : WX} {E : XK} {tb : TE} {p1 p2 : Pos}
    (I : Inv X pins σ H s) (L : LamX.LamS X.env.scope scope) (hf : s.heap.get? f = some (PySem.W.kla_obj "<lambda>" (X.env.qual ++ "<lambda>") params body scope (cloFrom X.env.cells scope.names []) pm c ctv)) (hfn : H f = none) (hfr : f ∉ frs X.stack)
    (hbind : bindArgs (PySem.W.kla_fn "<lambda>" (X.env.qual ++ "<lambda>") params body scope (cloFrom X.env.cells scope.names []) pm (.ref c) ctv) ⟨[], []⟩ = pure [])
    (tk : L2N.Takes ((cxOf CXg X.prog X.w X.K X.mg X.base Ng qg sg g cdg X.A X.stack s H Eg).tr pn xe) W) (hr : Room (k + 1) (X.A.deeper (envOfC qg sg s.heap.objs.size g cdg)))
    (hbody : ∀ (A : Around) (outer : List PySem.Env) (s : Shared) (H : Hp), Room k (A.deeper (LamX.lamEnv X scope s.heap.objs.size f c)) → PE (lamCxN X A outer s H E scope f c) body tb)
    (hN : Ng[i]? = some a) (hv : Vis sg a) (hd : (a == ("__debug__" : Str)) = false := by decide) (hcd : (a == ("__classdict__" : Str)) = false := by decide) :
    PE ((cxOf CXg X.prog X.w X.K X.mg X.base Ng qg sg g cdg X.A X.stack s H Eg).tr pn xe) (.Call (.Name a p1) [] [] p2)
      (fun σZ HZ Q => (∀ cls d H', E cls d H' → W cls d σZ H') ∧ σZ[i]? = some (some (.ref f)) ∧ HZ c = some (LamX.CodeO c (X.env.qual ++ "<lambda>")) ∧ tb σ HZ Q) := ⟨fun pinsZ sZ σZ HZ Q IZ ⟨hW, hs, hc, ht⟩ => by
  refine wpAny_Call_Name_kw (thn ((pe_var (pos := p1) (i := i) hN hv hd hcd).run pinsZ sZ σZ HZ (fun v H1 => v = .ref f ∧ H1 = HZ) IZ ⟨.ref f, hs, rfl, rfl⟩) fun u s1 ⟨v, H1, I1, r1, ev, eH⟩ => ?_); subst ev
  rw [eH] at I1; obtain rfl : u = Value.ref f := r1
  have of1 := I1.base.keep f _ hf hfn hfr (fun z => nomatch (show f ∈ ([] : List Addr) from z)); refine PySem.W.callWith_F0 ⟨_, _, _, _, of1⟩ ?_
  obtain ⟨⟨oc, vs, t, hoc, hdc, hvc⟩, _, _⟩ := I1.hok c _ hc; have e0 := I1.env0
  have rc : codeAny (model X.prog X.w) (X.A.deeper (envOfC qg sg s.heap.objs.size g cdg)) (.call (.ref f) ⟨[], []⟩) (CR (L2N.CX X.prog X.w) (envOfC qg sg s.heap.objs.size g cdg :: X.stack) X.prog X.w HZ s1 Q E) s1 := by
    refine PySem.W.kla_callFunE hr.depth of1 rfl L.co L.gen rfl ⟨c, oc, vs, t, rfl, hoc, hdc, hvc⟩ (hbind ▸ wpAny_pure (wpAny_newFunctionEnv (fun y hy => (L.own y hy).2) (fun y hy => nomatch hy) (fun h₁ hns hsb => ⟨I1.nolimit.fresh _ hsb, ?_⟩) L.kind))
    have J0 : Inv (LamX.lamCx X (X.A.deeper (envOfC qg sg s.heap.objs.size g cdg)) (envOfC qg sg s.heap.objs.size g cdg :: X.stack) s1 HZ E scope f c) [] σ HZ { s1 with heap := h₁, toks := s1.toks + ([] : List (Str × Value)).length } := LamX.lam_start2 I L e0 hr.hd I1.base hns fun b o e => hsb.extBut b o (Nat.ne_of_lt (Heap.lt_size e)) (Heap.get?_push_of_some _ e)
    have J := J0.toTry (lamCxN X (X.A.deeper (envOfC qg sg s.heap.objs.size g cdg)) (envOfC qg sg s.heap.objs.size g cdg :: X.stack) s1 HZ E scope f c).xe
    exact PySem.W.kla_codeExpr (wpAny_mono ((hbody _ _ s1 HZ (hr.deeper _)).run [] _ _ HZ Q J ht) (fun v s' ⟨w', H', J', rv, q⟩ => ⟨w', H', J'.os, J'.bare, J'.base, J'.hok, rv, q⟩) fun e s' hq => hq)
  refine wpAny_call (codeAny_mono rc fun r s' hq => ?_)
  match r, hq with
  | .error e, hq => exact tk e s' (L2N.XE.of_call I1 hW hq)
  | .ok (.ret u), hq => exact I1.after hq⟩
end
end Dt
set_option Elab.async false
set_option linter.all false
set_option maxRecDepth 100000
set_option maxHeartbeats 4000000
namespace Dt
open PySem PySem.Spec PyProof.Rows L2 HotX L2H
variable [HW]
/-- a def that tells the word of the exception that is handled -/
structure WordAt (P : Program) (w : World) (K : PySem.W.Frag) (mg : Str → Option Value) (base : Heap) (k : Nat) (x : Str) (Good : Addr → Str → Prop) : Prop where
  there : ∃ (f : Addr) (fd : FuncData) (y : Str), mg x = some (.ref f) ∧ PySem.W.keepIn K (.ref f) = true ∧ Binds K fd [y] [] ∧
    ∀ (A : Around) (outer : List PySem.Env) (s : Shared) (H : Hp) (args : Args) (us : List Value) (Q : VK) (p : Addr × Obj) (C : Addr) (wd : Str), RoomH k A → Hot1 A p → PinOk outer H s p → Env0 P w K mg base A outer s H → BindsTo s fd args ([y].zip us) → Vals [.ref p.1] us →
      (∃ dx, Zc (.ref C) dx p.2) → Good C wd → (∀ H', (∀ b o, H b = some o → H' b = some o) → Q (.str wd) H') → codeAny (model P w) A (.call (.ref f) args) (CR CXf outer P w H s Q fun _ _ _ => False) s
/-- .. by its body's derivation -/
theorem word_at {P : Program} {w : World} {K : PySem.W.Frag} {mg : Str → Option Value} {base : Heap} {k m : Nat} {x y : Str} {st : Stmt} {N : List Str} {ea : String → Addr} {Good : Addr → Str → Prop} {W : WX} (F : Fn K mg x st [y]) (S : FnScope N [y] (defScope st)) (hm : N.length = m + 1)
    (h : ∀ (f : Addr) (cd : Value) (A : Around) (outer : List PySem.Env) (s : Shared) (H : Hp) (p : Addr × Obj) (C : Addr) (wd : Str), Hot1 A p → RoomH k (A.deeper (envOfC x (defScope st) s.heap.objs.size f cd)) → ∀ {dx : Option Addr}, Zc (.ref C) dx p.2 → Good C wd →
      ∃ body : SS, DSs ⟨K, ⟨ea, []⟩⟩ (cxH CXf P w K mg base N x (defScope st) f cd A outer s H (fun _ _ _ => False) p) W (defBody st) body ∧ ∃ ρ', body (.fro (.exn p.1) :: List.replicate m .no) = .ok (.rt (.str wd)) ρ') : WordAt P w K mg base (k + 1) x Good := by
  obtain ⟨f, fd, F, mx, hb⟩ := F.there
  refine ⟨f, fd, y, mx, F.kp, hb, fun A outer s H args us Q p C wd hr hot pin e0 b r ⟨dx, hz⟩ g q => run_pin F S hr pin e0 b r rfl fun cd hr' => ?_⟩
  obtain ⟨body, d, ρ', e⟩ := h f cd A outer s H p C wd hot hr' hz g
  refine ⟨_, d, .fro (.exn p.1) :: List.replicate m .no, fun _ => none, H, {}, ⟨(fun a o z => nomatch z), (fun a o z => z), (fun a o z => nomatch z), ?_, fun i c v e1 e2 => ?_, fun i j ci cj di dj pp e1 _ h1 _ _ _ => ?_, fun ip hip => (nomatch hip), fun i d e1 => ?_, fun t ht => (nomatch ht), fun a ps z => nomatch z⟩, ?_⟩
  · unfold L2.start
    simp [hm]
  · cases i with
    | zero =>
      simp [L2.start] at e1 e2
      subst e1 e2
      exact ⟨_, rfl, .exn _⟩
    | succ i =>
      rw [List.getElem?_cons_succ, List.getElem?_replicate] at e1
      split at e1
      · cases e1; trivial
      · cases e1
  · cases i with
    | zero => cases e1; cases h1
    | succ i =>
      rw [List.getElem?_cons_succ, List.getElem?_replicate] at e1
      split at e1
      · cases e1; cases h1
      · cases e1
  · cases i with
    | zero => cases e1
    | succ i =>
      rw [List.getElem?_cons_succ, List.getElem?_replicate] at e1
      split at e1 <;> cases e1
  · rw [e]
    intro v σ' H' F' le rel rp
    cases rp
    exact q H' fun b o z => rel.rH b o z
/-- the value, or what the exception makes -/
def sTried (wd : Exn → Option D) (s : SE) : SE := fun ρ => match s (froOnly ρ) with
  | .ok d _ => .ok d ρ
  | .exc x _ => ofO (wd x) ρ
  | .stuck => .stuck
@[simp] theorem ev_tried (wd : Exn → Option D) (s : SE) (ρ : Env) : sTried wd s ρ = match s (froOnly ρ) with
  | .ok d _ => .ok d ρ
  | .exc x _ => ofO (wd x) ρ
  | .stuck => .stuck := rfl
section
variable {X : Cx} {W : WX}
theorem d_tried {c P CE : Addr} {k kw : Nat} {ea : String → Addr} {xt xw : Str} {tc tw : Str} {te : Str} {stt : Stmt} {Good : Addr → Str → Prop} {wd : Exn → Option D} {params : Arguments} {body : Expr} {scope : Scope} {sb : SE} {p lpos pos p1 p2 p3 p4 p5 p6 p7 p8 p9 p10 : Pos}
    (hu : At X W) (tb : LamX.TabB X.base X.mg c P) (hcd : X.env.code = .ref c) (Ft : Fn X.K X.mg xt stt [tc]) (St : FnScope [tc, te] [tc] (defScope stt)) (hr : Room (k + 2) X.A) (hg : Gl X xt)
    (hbd : defBody stt = [.Try [.Return (some (.Call (.Name tc p1) [] [] p2)) p3] [.ExceptHandler (some (.Name tw p4)) (some te) [.Return (some (.Call (.Name xw p5) [.Name te p6] [] p7)) p8] p9] [] [] p10])
    (hce : X.mg tw = some (.ref CE)) (gce : (defScope stt).names.lookup tw = some .globalImplicit) (gxw : (defScope stt).names.lookup xw = some .globalImplicit) (vtc : (defScope stt).names.lookup tc = some .local) (vte : (defScope stt).names.lookup te = some .local)
    (Wd : WordAt X.prog X.w X.K X.mg X.base kw xw Good) (hkw : kw ≤ k) (hwd : ∀ x d, wd x = some d → PySem.W.exmOne X.K (.ref (ea x.cls)) (.ref CE) = some true ∧ ∃ w, d = .str w ∧ Good (ea x.cls) w)
    (L : LamX.LamS X.env.scope scope) (hdef : defaultsOf params X.env = ([], [])) (hbind : ∀ (q : Str) (cl : List (Str × Addr)) (pm cv ctv : Value), bindArgs (PySem.W.kla_fn "<lambda>" q params body scope cl pm cv ctv) ⟨[], []⟩ = pure [])
    (hbody : ∀ (A : Around) (outer : List PySem.Env) (s : Shared) (H : Hp) (E : XK) (f c' : Addr), Room k (A.deeper (LamX.lamEnv X scope s.heap.objs.size f c')) → DE ⟨X.K, ⟨ea, []⟩⟩ (lamCxN X A outer s H E scope f c') (wE E) body sb)
    (d1 : (xt == ("__debug__" : Str)) = false := by decide) (d2 : (tc == ("__debug__" : Str)) = false := by decide) (d3 : (tc == ("__classdict__" : Str)) = false := by decide) (d4 : (tw == ("__debug__" : Str)) = false := by decide) (d5 : (xw == ("__debug__" : Str)) = false := by decide) (d6 : (te == ("__debug__" : Str)) = false := by decide)
    (d7 : (te == ("__classdict__" : Str)) = false := by decide) :
    DE ⟨X.K, ⟨ea, [(P, X.env.qual ++ "<lambda>")]⟩⟩ X W (.Call (.Name xt p) [.Lambda params body scope lpos] [] pos) (sTried wd sb) := ⟨fun pins s σ H Q I ⟨ρ, F, Rv, io, rel, q⟩ => by
  obtain ⟨g, fdg, Ff, hm, hb⟩ := Ft.there
  obtain ⟨fw, fdw, yw, mw, kpw, bw, runw⟩ := Wd.there
  refine wpAny_Call_Name_kw (ld_glob I hg hm ?_ d1)
  refine PySem.W.callWith_K (h₀ := X.base) I.ok.mod.kin Ff.kp ?_ (by rfl) (by rfl)
  show wpAny _ _ (spliced ((false, eval (.Lambda params body scope lpos) X.env) :: backTo pos (starEach [] X.env))) _ _ s
  have rel : Rel X.K io Rv ρ F σ H := rel
  refine Calls.spliced_cons (LamX.lam_make2 (T := [(P, X.env.qual ++ "<lambda>")]) I tb hcd (.head _) (fun p hp _ => by rw [List.mem_singleton.mp hp]) rel.tabsOf hdef (L.has I.ok) fun f c' pm' ctv H1 s' I1 eN T1 hf hfn hfr hco => ?_)
  refine Calls.spliced_nil ⟨I1.kIn, ?_⟩
  obtain ⟨F1, le1, rel1⟩ := rel.tabled eN T1
  have rel2 := rel1.fros (restOf_apart rel1 none)
  obtain ⟨_, _, _, _, _, _, cdv, _, _, ef, lk, hcg⟩ := Ff.ex
  -- what comes back
  have fin : ∀ {F' H' : Hp} {v : V} {d : D} , FLe F1 F' → Apart F' (restOf F1 H1 none) H' → Rp X.K F' v d → (match sTried wd sb ρ with | .ok d' _ => d' = d | _ => False) → Q v H' := fun {F' H' v d} le ap rp hd => by
    have r3 := rel1.behind le ap
    unfold sTried at q hd
    cases e : sb (froOnly ρ) with
    | stuck => rw [e] at q; exact q.elim
    | ok d' ρ' => rw [e] at q hd; cases hd; exact q v H' F' (le1.trans le) r3 rp
    | exc x ρ' =>
      rw [e] at q hd
      simp only at q hd
      cases e2 : wd x with
      | none => rw [e2] at q; exact q.elim
      | some d' => rw [e2] at q hd; cases hd; exact q v H' F' (le1.trans le) r3 rp
  have rc : codeAny (model X.prog X.w) X.A (.call (.ref g) ⟨[.ref f], []⟩) (CR CXf X.stack X.prog X.w H1 s' Q fun _ _ _ => False) s' := by
    subst ef
    refine LamX.run_ofS (N := [tc, te]) (ps := [tc]) (us := [.ref f]) (vs := [.ref f]) lk hcg St hr I1.env0 (hb s' [.ref f] I1.kIn rfl) (.cons rfl .nil) rfl fun hr' => ?_
    have hbd' : defBody stt = _ := hbd
    rw [hbd']
    refine ⟨_, pss_one (L2N.ps_try_as (X := cxOf CXf X.prog X.w X.K X.mg X.base [tc, te] xt (defScope stt) g cdv X.A X.stack s' H1 fun _ _ _ => False) (i := 1) (n := te) (c := .ref CE) (Wout := fun _ _ _ _ => False)
      (tb := fun W D σZ HZ => ∃ E : XK, (∀ cls d H', E cls d H' → W cls d σZ H') ∧ σZ[0]? = some (some (.ref f)) ∧ HZ c' = some (LamX.CodeO c' (X.env.qual ++ "<lambda>")) ∧ tE ⟨X.K, ⟨ea, []⟩⟩ (wE E) sb σ HZ D.rt)
      (ts := fun a cls d D σ H => ∃ C w, cls = .ref C ∧ Good C w ∧ σ[1]? = some (some (.ref a)) ∧ H a = none ∧ ∀ H', (∀ b o, H b = some o → H' b = some o) → D.rt (.str w) H')
      rfl rfl St.nd rfl vte ⟨gce, d4, .inl hce⟩ takes0N (fun W pn xe tk _ => ?_) (fun a oe cls d pn hz hfl => ?_)), ?_⟩
    · refine ⟨fun pins s2 σ2 H2 D I2 ⟨E, hW, h1, h2, h3⟩ => ?_⟩
      have hp := pe_actN (i := 0) (a := tc) (E := E) (p1 := p1) (p2 := p2) I1 L hf hfn hfr (hbind _ _ _ _ _) tk hr' (fun A outer s H hr2 => hbody A outer s H E f c' hr2) rfl (.inl vtc) d2 d3
      exact (pss_one (ps_ret (pos := p3) hp)).run pins s2 σ2 H2 D I2 ⟨hW, h1, h2, h3⟩
    · refine ⟨fun pins s2 σ2 H2 D I2 ⟨C, w, e1, gd, h1, h2, h3⟩ => ?_⟩
      subst e1
      obtain ⟨vs, hv⟩ := hfl
      have hot : Hot1 ((cxOf CXf X.prog X.w X.K X.mg X.base [tc, te] xt (defScope stt) g cdv X.A X.stack s' H1 fun _ _ _ => False).suite a ((a, oe) :: pn)).A (a, oe) := ⟨rfl, vs, hv, hz.2.2 vs hv⟩
      have hrm : RoomH kw ((cxOf CXf X.prog X.w X.K X.mg X.base [tc, te] xt (defScope stt) g cdv X.A X.stack s' H1 fun _ _ _ => False).suite a ((a, oe) :: pn)).A := by
        have z := (roomH_of hr').mono (show kw ≤ k + 1 by omega)
        exact ⟨z.dp, z.un⟩
      have call : PE ((cxOf CXf X.prog X.w X.K X.mg X.base [tc, te] xt (defScope stt) g cdv X.A X.stack s' H1 fun _ _ _ => False).suite a ((a, oe) :: pn)) (.Call (.Name xw p5) [.Name te p6] [] p7)
          (fun σ H Q => σ[1]? = some (some (.ref a)) ∧ ∀ H', (∀ b o, H b = some o → H' b = some o) → Q (.str w) H') := ⟨fun pins s σ H Q I ⟨h1, h3⟩ => by
        refine wpAny_Call_Name_kw (ld_glob I gxw mw ?_ d5)
        refine PySem.W.callWith_K (h₀ := X.base) I.ok.mod.kin kpw (thn ((pa_cons (pe_var (i := 1) rfl (.inl vte) d6 d7) pa_nil rfl).run p7 pins s σ H (fun vs H1 => vs = [.ref a] ∧ H1 = H) I ⟨_, h1, rfl, rfl⟩) fun us s1 ⟨vs, H1, I1, r, ev, eH⟩ => ⟨I1.kIn, ?_⟩) (by rfl) (by rfl)
        subst ev; rw [eH] at I1
        have P1 := I1.pin (a, oe) (List.mem_append_left _ (.head _))
        have b := bw s1 us I1.kIn (by rw [List.append_nil]; exact r.length.symm)
        rw [List.append_nil] at b
        refine wpAny_call (codeAny_mono (runw _ _ s1 H _ us Q (a, oe) C w hrm hot ⟨P1.1, P1.2.1, fun hm => (List.mem_cons.mp (I1.stkSub a hm)).elim P1.2.2.1 P1.2.2.2.1, P1.2.2.2.2⟩ I1.env0 b r ⟨_, hz.zc⟩ gd h3) fun r s' hq => ?_)
        match r, hq with
        | .ok (.ret u), hq => exact I1.after hq⟩
      exact (pss_one (ps_ret (pos := p8) call)).run pins s2 σ2 H2 D I2 ⟨h1, h3⟩
    · refine ⟨fun cls dd H' => ∃ C w, cls = .ref C ∧ Good C w ∧ PySem.W.exmOne X.K cls (.ref CE) = some true ∧ ∀ H'', (∀ b o, H' b = some o → H'' b = some o) → Q (.str w) H'', fun cls d H' ⟨C, w, e1, gd, em, h3⟩ => ⟨true, em, fun _ a na => ⟨C, w, e1, gd, rfl, na, h3⟩, fun z => nomatch z⟩, rfl, hco, froOnly ρ, F1, restOf F1 H1 none, {}, rel2, ?_⟩
      cases e : sb (froOnly ρ) with
      | stuck => unfold sTried at q; rw [e] at q; exact q.elim
      | ok d ρ' => exact fun v H' F' le r rp => fin le ⟨r.fH, r.rH, r.dj, r.nt⟩ rp (by unfold sTried; rw [e])
      | exc x ρ' =>
        intro cls dd σ' H' F' le r xr
        cases e2 : wd x with
        | none => unfold sTried at q; rw [e] at q; simp only [e2] at q; exact q.elim
        | some d =>
          obtain ⟨em, w, rfl, gd⟩ := hwd x d e2
          obtain ⟨xc, xd⟩ := xr
          refine ⟨ea x.cls, w, xc, gd, by rw [xc]; exact em, fun H'' up => fin (F' := F') (d := .str w) le ⟨fun a o z => up a o (r.fH a o z), fun a o z => up a o (r.rH a o z), r.dj, r.nt⟩ (.str w) ?_⟩
          unfold sTried
          rw [e]
          simp only [e2]
          rfl
  refine wpAny_call (codeAny_mono rc fun r s2 hq => ?_)
  match r, hq with
  | .ok (.ret u), hq => exact I1.after hq⟩
end
end Dt
set_option Elab.async false
set_option linter.all false
set_option maxRecDepth 100000
set_option maxHeartbeats 4000000
namespace Dt
open PySem PySem.Spec PyProof.Rows L2 HotX L2H
variable [HW]
/-- what a class that is raised says; CE: the class of the handler -/
structure ExcD (K : PySem.W.Frag) (C CE : Addr) : Prop where
  e : PySem.W.excIn K C veB "ValueError.__new__" = true
  k : PySem.W.keepIn K (.ref C) = true
  b : PySem.W.subIn K (.ref C) (.type "BaseException") = some true
  t : PySem.W.typeIn K (.ref C) = some (.type "type")
  hg : PySem.W.findIn K (.ref C) "__getattribute__" = some (some (.builtin "BaseException.__getattribute__"))
  hk : PySem.W.findIn K (.ref C) "__getattr__" = some none
  hd : PySem.W.hasDictIn K C = true
  ha : PySem.W.findIn K (.ref C) "__class__" = some (some (.builtin "object.__class__"))
  hn : PySem.W.specialIn K (.builtin "object.__class__") "__get__" = some (some (.builtin "getset_descriptor.__get__"))
  ht : PySem.W.takesIn K (.builtin "object.__class__") = some true
  hm : PySem.W.mroIn K C (.type "object") = some true
  cb : PySem.W.subIn K (.ref CE) (.type "BaseException") = some true
  cd : PySem.W.hasDictIn K CE = true
  ct : PySem.W.typeIn K (.ref CE) = some (.type "type")
  cs : PySem.W.subIn K (.ref C) (.ref CE) = some true
theorem ExcD.c {K : PySem.W.Frag} {C CE : Addr} (h : ExcD K C CE) : ExcC K C := ⟨h.hg, h.hk, h.b, h.hd, h.ha, h.hn, h.ht, h.hm⟩
theorem ExcD.exm {K : PySem.W.Frag} {C CE : Addr} (h : ExcD K C CE) : PySem.W.exmOne K (.ref C) (.ref CE) = some true := PySem.W.exm_ref h.cb h.cd h.ct h.cs
theorem ExcD.kk {K : PySem.W.Frag} {mg : Str → Option Value} {CE : Addr} {n : String} (h : ExcD K (exA K n) CE) (m : mg (Str.ofString n) = some (.ref (exA K n))) : ExcK K mg n := ⟨m, h.e, h.k, h.b, h.t⟩
/-- what the lambdas of a def are called -/
def lamQ (x : Str) (st : Stmt) : Str := (envOfC x (defScope st) 0 0 .none).qual ++ "<lambda>"
/-- the law's promise where its table is empty -/
def spT (K : PySem.W.Frag) (P : Addr) (m : List D → FR) : Sp := fun vs H Q E => ∃ a ns o, vs = [.ref a] ∧ H P = some (.tbl #[]) ∧ SqL K H a (ns.map V.int) ∧ m [.scr ns] = .ok (.bl true) o ∧ ∀ H', Q (.bl true) H'
section
variable {P : Program} {w : World} {K : PySem.W.Frag} {mg : Str → Option Value} {base : Heap}
theorem law_T {x y : Str} {st : Stmt} {fa c Tb : Addr} {N : List Str} {k : Nat} {ea : String → Addr} {body : SS} {kV doc pm ct oc : Value} {an od : Option Addr} {osl : Array (Option Value)}
    (lk : K.lookup fa = some ⟨oc, od, .func (PySem.W.fnOf x x (defArgs st) (defBody st) (defScope st) .none kV doc pm an (.ref c) ct), osl⟩) (hcd : PySem.W.codeIn K (.ref c) x = true) (S : FnScope N [y] (defScope st))
    (h : ∀ (A : Around) (outer : List PySem.Env) (s : Shared) (H : Hp) (E : XK), Room k (A.deeper (envOfC x (defScope st) s.heap.objs.size fa (.ref c))) →
      DSs ⟨K, ⟨ea, [(Tb, lamQ x st)]⟩⟩ (cxOf (L2N.CX P w) P w K mg base N x (defScope st) fa (.ref c) A outer s H E) (wE E) (defBody st) body) :
    FnOk P w K mg base (L2N.CX P w) (k + 1) fa (PySem.W.fnOf x x (defArgs st) (defBody st) (defScope st) .none kV doc pm an (.ref c) ct) [y] (spT K Tb (runP N.length 1 body)) := by
  refine fn_of lk hcd S (fun vs H Q E ⟨a, _, _, e, _⟩ => by rw [e]; rfl) fun A outer s H vs Q E hr ⟨a, ns, o, ev, hT, hS, hm, q⟩ => ⟨_, h A outer s H E hr, ?_⟩
  subst ev
  classical
  let F : Hp := fun b => if ∃ u, H b = some u ∧ Lone u = false then none else H b
  have hF : ∀ {b u}, H b = some u → Lone u = true → F b = some u := fun {b u} e n => (if_neg (fun ⟨u', z, y⟩ => by rw [e] at z; cases z; rw [n] at y; cases y)).trans e
  have fH : FLe F H := fun b u e => by
    by_cases z : ∃ u, H b = some u ∧ Lone u = false
    · rw [show F b = none from if_pos z] at e; cases e
    · rw [show F b = H b from if_neg z] at e; exact e
  have nt : NoTb F := fun b u e => by
    cases l : Lone u with
    | true => rfl
    | false =>
      have z : F b = none := if_pos ⟨u, fH b _ e, l⟩
      rw [z] at e; cases e
  have sF : SqL K F a (ns.map V.int) := by
    rcases hS with (r | ⟨o, r⟩) | r
    · exact .inl (.inl (hF r rfl))
    · exact .inl (.inr ⟨o, hF r rfl⟩)
    · exact .inr r
  have e0 : L2.start N [.ref a] = [V.ref a].map some ++ List.replicate (N.length - 1) none := rfl
  rw [e0]
  have rp : Rps K F [V.ref a] [.scr ns] := .cons (.scr sF) .nil
  have r0 := rel_start (m := N.length - 1) (K := K) (Rv := fun _ => none) ⟨fH, (fun a o z => nomatch z), (fun _ _ _ => rfl), nt⟩ rp
  refine ⟨[D.scr ns].map Cell.fro ++ List.replicate (N.length - 1) Cell.no, F, fun _ => none, {}, ⟨r0.fH, r0.rH, r0.dj, r0.len, r0.cell, r0.inj, fun ip hip => (nomatch hip), (fun i d e => (nomatch fro_held (c := .io d) e)), fun t ht => ?_, nt⟩, ?_⟩
  · have et : t = (Tb, lamQ x st) := List.mem_singleton.mp ht
    subst et
    exact ⟨if_pos ⟨_, hT, rfl⟩, rfl, ⟨(fun a ps z => nomatch z), fun a q z => nomatch z⟩, #[], hT, trivial, fun pos cv z => by simp [codeAmong] at z⟩
  · unfold runP at hm
    have hm : (match body ([D.scr ns].map Cell.fro ++ List.replicate (N.length - 1) Cell.no) with | .ok (.rt d) _ => FR.ok d [] | .ok .nx _ => .ok .non [] | .exc x _ => .exc x | _ => .stuck) = .ok (.bl true) o := hm
    cases e : body ([D.scr ns].map Cell.fro ++ List.replicate (N.length - 1) Cell.no) with
    | stuck => rw [e] at hm; cases hm
    | exc x ρ' => rw [e] at hm; cases hm
    | ok fl ρ' =>
      rw [e] at hm
      cases fl with
      | rt d => cases hm; exact fun v σ' H' F' le rel rp => by cases rp; exact q H'
      | nx => cases hm
      | bk => cases hm
      | ct => cases hm
end
theorem walkT {xp : Str} {l : PySem.W.OpenLaw} {q : Program} {loose : List Str} {XP : (Str → Option Value) → Heap → Prop} {YP : World → Heap → Prop} {d : DefRec} {K : Params → PySem.W.Frag} {k : Nat} {m : List D → FR} (hn : l.most = some 63) (hdf : d.params.defaults = []) (hr : Room k callerA)
    (hrec : ((recsOf q).any fun e => e.name == d.name) = true) (hY : ∀ (w : World) (h : Heap), YP w h → (K w.params).In h)
    (F : ∀ (w : World) (mg : Str → Option Value) (fa : Addr) (h : Heap), (K w.params).In h → h.Ns mainGlobals mg → mg d.name = some (.ref fa) →
      ∃ (fd : FuncData) (c P : Addr) (o1 : Obj) (e : Value) (dd : Option Addr) (vs : Array Value) (sl : Array (Option Value)), (K w.params).lookup fa = some o1 ∧ o1.data = .func fd ∧ fd.code = .ref c ∧ (K w.params).lookup c = some ⟨e, dd, .fields vs, sl⟩ ∧ vs[11]? = some (.ref P) ∧
        PySem.W.codeHdIn (K w.params) c P = true ∧ (K w.params).lookup P = none ∧ (∀ (s : Shared) (u : Value), BindsTo s fd ⟨[u], []⟩ [(xp, u)]) ∧
        ∀ base : Heap, (K w.params).In base → base.Ns mainGlobals mg → LamX.TabB base mg c P → FnOk l.prog w (K w.params) mg base (L2N.CX l.prog w) k fa fd [xp] (spT (K w.params) P m))
    (plain : ∀ ns : List Int, ns.length ≤ 63 → (∀ z ∈ ns, Builtin.Int.intBits z ≤ 1048576) → ∃ o, m [.scr ns] = .ok (.bl true) o) :
    PySem.W.WalkO q loose XP YP l.row.toRowW d [] (fun f vs => PySem.call f vs) :=
  LamX.walk_ofOwn (n := 63) (k := k) (x := xp) (CX := fun w => L2N.CX l.prog w) hn (by decide) hdf hr hrec hY (fun w mg fa h Y KX G hmg own => by
    obtain ⟨fd, c, P, o1, e, dd, vs, sl, k1, k2, k3, k4, k5, k6, k7, hb, hF⟩ := F w mg fa h KX G hmg
    refine ⟨fd, [(c, P)], spT (K w.params) P m, fun p hp => ?_, fun p hp => ?_, fun p hp => ?_, hb, fun H a ns hl hbits hT hS => ?_, fun base kb gb hTB => hF base kb gb (hTB (c, P) (.head _))⟩
    · rw [List.mem_singleton.mp hp]; exact own c P o1 fd e dd vs sl k1 k2 k3 k4 k5
    · rw [List.mem_singleton.mp hp]; exact k7
    · rw [List.mem_singleton.mp hp]; exact PySem.W.codeHd_of_K KX k6
    · obtain ⟨o, z⟩ := plain ns hl hbits
      exact ⟨a, ns, o, rfl, hT (c, P) (.head _), hS, z, fun _ => rfl⟩) fun w H s e s' z => by
    obtain ⟨_, _, _, _, _, _, _, _, _, _, _, _, z⟩ := z
    exact z
end Dt
set_option Elab.async false
set_option linter.all false
set_option maxRecDepth 100000
set_option maxHeartbeats 4000000
namespace Dt
open PySem PySem.Spec PyProof.Rows L2
variable [HW]
def keyT (e : Int × Value) : Str := match e.2 with
  | .str x _ => x
  | _ => Str.empty
def GoodT (w : World) (e : Int × Value) : Prop := ∃ x tk, e.2 = Value.str x tk ∧ e.1 = hashStr w x
/-- the set of texts at a: S its members, n their number; its table rises and can be walked -/
def SetS (w : World) (h : Heap) (a : Addr) (S : Str → Bool) (n : Nat) : Prop :=
  ∃ o es ep t, h.get? a = some o ∧ o.ExactSet ∧ o.data = .set es ep t ∧ (∀ e ∈ es.toList, GoodT w e) ∧ (es.toList.map keyT).Nodup ∧ (∀ k, S k = true ↔ k ∈ es.toList.map keyT) ∧ es.size < scanBound ∧ t.fits es.size = true ∧ es.size = n ∧ Ris t.place.toList ∧ (w.params.followText "set-order" = true ∨ t.led = true)
section
variable {P : Program} {w : World} {h h' : Heap} {a : Addr} {S : Str → Bool} {n : Nat}
theorem SetS.at_ (R : SetS w h a S n) (k : ∀ o, h.get? a = some o → h'.get? a = some o) : SetS w h' a S n := let ⟨o, es, ep, t, ho, r⟩ := R; ⟨o, es, ep, t, k o ho, r⟩
end
end Dt
set_option Elab.async false
set_option linter.all false
set_option maxRecDepth 100000
set_option maxHeartbeats 4000000
namespace Dt
open PySem PySem.Spec PyProof.Rows L2
end Dt
set_option Elab.async false
set_option linter.all false
set_option maxRecDepth 100000
set_option maxHeartbeats 4000000
namespace Dt
open PySem PySem.Spec PyProof.Rows L2
variable [HW]
/-- one more text in a rising list -/
def insU (x : Str) : List Str → List Str
  | [] => [x]
  | y :: r => if sLt x y = true then x :: y :: r else if x = y then y :: r else y :: insU x r
/-- the unlike texts, ascending -/
def riseOf (xs : List Str) : List Str := xs.foldl (fun l x => insU x l) []
section
variable {X : Cx} {W : WX} {ex : Exx} {p p2 q pos : Pos}
def sortSetD : D → Option D
  | .lst ds => (strsOf ds).bind fun xs => if xs.length < 64 then some (.lst ((riseOf xs).map D.str)) else none
  | _ => none
def sSortSet (s : SE) : SE := fun ρ => (s ρ).bind fun d ρ' => ofO (sortSetD d) ρ'
@[simp] theorem ev_sortSet (s : SE) (ρ : Env) : sSortSet s ρ = (s ρ).bind fun d ρ' => ofO (sortSetD d) ρ' := rfl
end
end Dt
set_option Elab.async false
set_option linter.all false
set_option maxRecDepth 100000
set_option maxHeartbeats 4000000
namespace Dt
open PySem PySem.Spec PyProof.Rows L2
end Dt
set_option Elab.async false
set_option linter.all false
set_option maxRecDepth 100000
set_option maxHeartbeats 4000000
namespace Dt
open PySem PySem.Spec PyProof.Rows L2
end Dt
set_option Elab.async false
set_option linter.all false
set_option maxRecDepth 100000
set_option maxHeartbeats 4000000
namespace Dt
open PySem PySem.Spec PyProof.Rows L2
end Dt
set_option Elab.async false
set_option linter.all false
set_option maxRecDepth 100000
set_option maxHeartbeats 4000000
namespace Dt
open PySem PySem.Spec PyProof.Rows L2
variable [HW]
def sM1 (g : Str → Str → Option D) (so se : SE) : SE := fun ρ => (so ρ).bind fun d ρ1 => match d with
  | .str a => (se ρ1).bind fun e ρ2 => match e with
    | .str b => ofO (g a b) ρ2
    | _ => .stuck
  | _ => .stuck
@[simp] theorem ev_m1 (g : Str → Str → Option D) (so se : SE) (ρ : Env) : sM1 g so se ρ = (so ρ).bind fun d ρ1 => match d with
  | .str a => (se ρ1).bind fun e ρ2 => match e with
    | .str b => ofO (g a b) ρ2
    | _ => .stuck
  | _ => .stuck := rfl
def sAugI (f : Int → Int → Int) (i : Nat) (se : SE) : SS := fun ρ => match (ρ[i]? : Option Cell) with
  | some (.fro (.int a)) => (se ρ).bind fun e ρ' => match e, (ρ'[i]? : Option Cell) with
    | .int b, some (.fro _) => .ok .nx (ρ'.set i (.fro (.int (f a b))))
    | _, _ => .stuck
  | _ => .stuck
@[simp] theorem ev_augI (f : Int → Int → Int) (i : Nat) (se : SE) (ρ : Env) : sAugI f i se ρ = match (ρ[i]? : Option Cell) with
  | some (.fro (.int a)) => (se ρ).bind fun e ρ' => match e, (ρ'[i]? : Option Cell) with
    | .int b, some (.fro _) => .ok .nx (ρ'.set i (.fro (.int (f a b))))
    | _, _ => .stuck
  | _ => .stuck := rfl
theorem vals_refs : ∀ bs : List Addr, Vals (bs.map V.ref) (bs.map Value.ref)
  | [] => .nil
  | b :: bs => .cons rfl (vals_refs bs)
def sParF (i j : Nat) (sF sE : SE) : SS := fun ρ => (sF ρ).bind fun d ρ1 => (sE ρ1).bind fun e ρ2 => (gOwn i d ρ2).bind fun _ ρ3 => (gSet j e ρ3).bind fun _ ρ4 => .ok .nx ρ4
@[simp] theorem ev_parF (i j : Nat) (sF sE : SE) (ρ : Env) : sParF i j sF sE ρ = (sF ρ).bind fun d ρ1 => (sE ρ1).bind fun e ρ2 => (gOwn i d ρ2).bind fun _ ρ3 => (gSet j e ρ3).bind fun _ ρ4 => .ok .nx ρ4 := rfl
end Dt
set_option Elab.async false
set_option linter.all false
set_option maxRecDepth 100000
set_option maxHeartbeats 4000000
namespace Dt
open PySem PySem.Spec PyProof.Rows L2 GenW
end Dt
set_option Elab.async false
set_option linter.all false
set_option maxRecDepth 100000
set_option maxHeartbeats 4000000
namespace Dt
open PySem PySem.Spec PyProof.Rows L2 GenW
variable [HW]
section
variable {ex : Exx} {X : Cx} {W : WX} {x nm : Str} {k n : Nat} {g : List D → Option (List D)} {e : Expr} {es : List Expr} {sA : SA} {p pos pos' pn : Pos}
def sListG (n : Nat) (g : List D → Option (List D)) (s : SA) : SE := fun ρ => (s ρ).bind fun ds ρ' => if ds.length = n then (match g ds with
  | some out => .ok (.lst out) ρ'
  | none => .stuck) else .stuck
@[simp] theorem ev_listG (n : Nat) (g : List D → Option (List D)) (s : SA) (ρ : Env) : sListG n g s ρ = (s ρ).bind fun ds ρ' => if ds.length = n then (match g ds with
  | some out => .ok (.lst out) ρ'
  | none => .stuck) else .stuck := rfl
end
end Dt
set_option Elab.async false
set_option linter.all false
set_option maxRecDepth 100000
set_option maxHeartbeats 4000000
namespace Dt
open PySem PySem.Spec PyProof.Rows L2
end Dt
set_option Elab.async false
set_option linter.all false
set_option maxRecDepth 100000
set_option maxHeartbeats 4000000
namespace Dt
open PySem PySem.Spec PyProof.Rows L2 SrtO
end Dt
set_option Elab.async false
set_option linter.all false
set_option maxRecDepth 100000
set_option maxHeartbeats 4000000
namespace Dt
open PySem PySem.Spec PyProof.Rows L2 SrtO
end Dt
set_option Elab.async false
set_option linter.all false
set_option maxRecDepth 100000
set_option maxHeartbeats 4000000
namespace Dt
open PySem PySem.Spec PyProof.Rows L2 SrtO
end Dt
set_option Elab.async false
set_option linter.all false
set_option maxRecDepth 100000
set_option maxHeartbeats 4000000
namespace Dt
open PySem PySem.Spec PyProof.Rows L2 SrtO
end Dt
set_option Elab.async false
set_option linter.all false
set_option maxRecDepth 100000
set_option maxHeartbeats 4000000
namespace Dt
open PySem PySem.Spec PyProof.Rows L2
end Dt
set_option Elab.async false
set_option linter.all false
set_option maxRecDepth 100000
set_option maxHeartbeats 4000000
namespace Dt
open PySem PySem.Spec PyProof.Rows L2
end Dt
set_option Elab.async false
set_option linter.all false
set_option maxRecDepth 100000
set_option maxHeartbeats 4000000
namespace Dt
open PySem PySem.Spec PyProof.Rows L2
end Dt
set_option Elab.async false
set_option linter.all false
set_option maxRecDepth 100000
set_option maxHeartbeats 4000000
namespace Dt
open PySem PySem.Spec PyProof.Rows L2
end Dt
set_option Elab.async false
set_option linter.all false
set_option maxRecDepth 100000
set_option maxHeartbeats 4000000
namespace Dt
open PySem PySem.Spec PyProof.Rows L2
variable [HW]
/-- a def with n parameters and one that is given by name alone, else it is False -/
structure CalK (P : Program) (w : World) (K : PySem.W.Frag) (mg : Str → Option Value) (base : Heap) (x : Str) (k n : Nat) (kw : Str) (ea : String → Addr) (m : List D → FR) : Prop where
  there : ∃ f fd ps, FnOk P w K mg base (L2N.CX P w) k f fd ps (spP ⟨K, ⟨ea, []⟩⟩ (n + 1) m) ∧ mg x = some (.ref f) ∧ PySem.W.keepIn K (.ref f) = true ∧ (∃ ds, Vals [.bl false] ds ∧ Binds K fd ps ds) ∧ KBn K fd ps n [kw] (fun us ws => us ++ ws) (fun vs zs => vs ++ zs)
theorem CalK.mono {P : Program} {w : World} {K : PySem.W.Frag} {mg : Str → Option Value} {base : Heap} {x kw : Str} {j k n : Nat} {ea : String → Addr} {m : List D → FR} (C : CalK P w K mg base x j n kw ea m) (h : j ≤ k) : CalK P w K mg base x k n kw ea m := by
  obtain ⟨f, fd, ps, F, r⟩ := C.there
  exact ⟨f, fd, ps, F.mono h, r⟩
/-- called without it -/
def sCallK0 (n : Nat) (m : List D → FR) (s : SA) : SE := fun ρ => (s ρ).bind fun ds ρ' => if ds.length = n then endP (m (ds ++ [.bl false])) ρ' else .stuck
@[simp] theorem ev_callK0 (n : Nat) (m : List D → FR) (s : SA) (ρ : Env) : sCallK0 n m s ρ = (s ρ).bind fun ds ρ' => if ds.length = n then endP (m (ds ++ [.bl false])) ρ' else .stuck := rfl
/-- .. with it -/
def sCallK1 (n : Nat) (m : List D → FR) (s : SA) (sk : SE) : SE := fun ρ => (s ρ).bind fun ds ρ1 => (sk ρ1).bind fun z ρ2 => if ds.length = n then endP (m (ds ++ [z])) ρ2 else .stuck
@[simp] theorem ev_callK1 (n : Nat) (m : List D → FR) (s : SA) (sk : SE) (ρ : Env) : sCallK1 n m s sk ρ = (s ρ).bind fun ds ρ1 => (sk ρ1).bind fun z ρ2 => if ds.length = n then endP (m (ds ++ [z])) ρ2 else .stuck := rfl
end Dt
set_option Elab.async false
set_option linter.all false
set_option maxRecDepth 100000
set_option maxHeartbeats 400000
namespace Dt
open PySem PySem.Spec PyProof.Rows L2 NdefX
variable [HW]
section
open PySem.W
variable {prog : Program} {w : World} {A : Around} {E : Value → Shared → Prop} {h : Heap} {g : Array GenState} {d : Drawn} {t : Nat} {os : OsState}
variable {nm q : Str} {C N : Addr} {bs bm : List Value} {hdct : Bool} {sn : List Str} {sub : List Value} {ab : Bool} {col : Option Bool} {dd : Option Addr} {k0 k1 k2 k3 k5 : Option Value}
theorem call_mw {u e t0 : Addr} {rest : List Value} {Q : Value → Shared → Prop}
    (hC : h.get? C = some (excClassObj nm q C N bs bm hdct sn sub ab col dd k0 k1 k2 k3 k5 "ValueError.__new__")) (he : h.get? e = some (HandSPX.excO C t0)) (hu : h.get? u = some (kxs_mw "ValueError.__init__" e)) (hrest : rest.length ≤ sizeLine)
    (hq : ∀ h' t1, (∀ b o, b ≠ e → h.get? b = some o → h'.get? b = some o) → h'.get? e = some (HandSPX.excO C t1) → Q .none ⟨h', g, d, t, os⟩) :
    wpAny (model prog w) A (call (.ref u) rest) Q E ⟨h, g, d, t, os⟩ := by
  refine wpAny_call (codeAny_of_tree ?_)
  show wpAny _ A.in1 (callAny (.ref u) ⟨rest, []⟩) _ _ _
  simp only [callAny]
  refine wpAny_bind (wpAny_load hu ?_)
  simp only [kxs_mw, show (Value.type "method-wrapper" == Value.type "method" || Value.type "method-wrapper" == Value.type "builtin_function_or_method" || Value.type "method-wrapper" == Value.type "method-wrapper") = true by decide, if_true]
  refine W.KFB.if_so (by decide) ?_
  refine wpAny_bind (ESX.check_bound F.excBase_ValueError hC he rfl ?_)
  refine wpAny_bind (wpAny_pure (wpAny_pure ?_))
  refine ⟨Code.quiet_builtin _ (by decide +kernel), codeAny_builtin F.excBase_ValueError.initEntry ?_⟩
  rw [Around.under_plainId F.excBase_ValueError.init.plain _]
  wp_walk
  refine hq _ h.objs.size (fun b o hb ho => ?_) ?_
  · rw [Heap.get?_update_other _ _ (Ne.symm hb)]
    exact Heap.get?_push_of_some _ ho
  · rw [Heap.get?_update_self _ (Heap.get?_push_of_some _ he) rfl]
    rfl
end
/-- what is written of the class and its __init__ -/
structure OwnInit (P : Program) (K : PySem.W.Frag) (C : Addr) (qual : Str) (st : Stmt) : Prop where
  cls : OexC K C
  fn : ∃ (fI cc cd : Addr) (kV doc pm ct oc : Value) (an od : Option Addr) (osl : Array (Option Value)), PySem.W.findIn K (.ref C) "__init__" = some (some (.ref fI)) ∧ PySem.W.typeIn K (.ref fI) = some (.type "function") ∧
    K.lookup fI = some ⟨oc, od, .func (PySem.W.fnX "__init__" qual (defArgs st) (defBody st) (defScope st) [("__class__", cc)] .none kV doc pm an (.ref cd) ct), osl⟩ ∧ PySem.W.codeIn K (.ref cd) qual = true ∧
    (∃ (cl : Value) (cld : Option Addr) (csl : Array (Option Value)), K.lookup cc = some ⟨cl, cld, .cell (some (.ref C)), csl⟩) ∧
    ∃ (ccl : Value) (cdd : Option Addr) (vs : Array Value) (ccs : Array (Option Value)) (file : Str) (tf : Tok), K.lookup cd = some ⟨ccl, cdd, .fields vs, ccs⟩ ∧ vs[2]? = some (.str file tf) ∧ ((P.main.file : Str) == file) = true
  top : (P.main.scope.names.lookup ("super" : Str)).isSome = false
  any : PySem.W.nsIn K cStatics "thirdparty.any" = some none
  sup : PySem.W.ks_superIn K C C "__init__" = some (some (.builtin "ValueError.__init__"))
  sub : PySem.W.subIn K (.ref C) (.type "ValueError") = some true
  slf : PySem.W.mroIn K C (.ref C) = some true
  no : PySem.W.findIn K (.ref C) "most" = some none
def iArg (m : Str) (j : Nat) (p4 p5 p6 p7 p8 : Pos) : Expr := .BinOp (.Constant (.str m) j p4) .Add (.Call (.Name "str" p5) [.Name "most" p6] [] p7) p8
/-- the body's words -/
structure InitSt (st : Stmt) (m : Str) : Prop where
  scope : NScope ["self", "most", "__class__"] ["self", "most"] ["__class__"] (defScope st)
  args : ((defArgs st).posonlyargs ++ (defArgs st).args).head?.map (·.arg) = some ("self" : Str)
  bind : ∀ (kV doc pm cdv ct : Value) (an : Option Addr) (cc : Addr) (qual : Str) (us : List Value), us.length = 2 → bindArgs (PySem.W.fnX "__init__" qual (defArgs st) (defBody st) (defScope st) [("__class__", cc)] .none kV doc pm an cdv ct) ⟨us, []⟩ = (pure ((["self", "most"] : List Str).zip us) : Sem (List (Str × Value)))
  body : ∃ (p1 p2 p3 p4 p5 p6 p7 p8 p9 p10 p11 p12 p13 p14 : Pos) (j : Nat), defBody st = [.Expr (.Call (.Attribute (.Call (.Name "super" p1) [] [] p2) "__init__" p3) [iArg m j p4 p5 p6 p7 p8] [] p9) p10,
    .Assign [.Attribute (.Name "self" p11) "most" p12] (.Name "most" p13) p14] ∧ ∃ pl : Sem Bool, ∀ env : PySem.Env, eval (.Call (.Attribute (.Call (.Name "super" p1) [] [] p2) "__init__" p3) [iArg m j p4 p5 p6 p7 p8] [] p9) env = (do
      let ov ← attributeBase (.Call (.Name "super" p1) [] [] p2) "__init__" env (eval (.Call (.Name "super" p1) [] [] p2) env)
      standAt p3.atName
      let (f, first) ← holding [ov] (getMethod ov "__init__" pl)
      callWith p9 f first (backTo p9 (starEach [iArg m j p4 p5 p6 p7 p8] env)) [])
  sup : (defScope st).names.lookup ("super" : Str) = some .globalImplicit
  str : (defScope st).names.lookup ("str" : Str) = some .globalImplicit
  len : m.length ≤ 100
def spIn (C : Addr) (n : Int) : Sp := fun vs H Q _ => ∃ a, vs = [.ref a, .int n] ∧ H a = some (exo a C none) ∧ ∀ d, H d = none → d ≠ a → Q .non (upd (upd H d (exd d [("most", .int n)])) a (exo a C (some d)))
theorem init_ok {P : Program} {w : World} {K : PySem.W.Frag} {mg : Str → Option Value} {base : Heap} {k : Nat} {C : Addr} {qual m : Str} {st : Stmt} {n : Int} (T : OwnInit P K C qual st) (S : InitSt st m) (ms : mg "super" = none) (mt : mg "str" = none)
    (h1 : n.natAbs.log2 < 1920) (h2 : m.length + (Str.ofString (toString n)).length ≤ sizeLine) :
    ∃ fI fd, PySem.W.findIn K (.ref C) "__init__" = some (some (.ref fI)) ∧ PySem.W.typeIn K (.ref fI) = some (.type "function") ∧ FnOk P w K mg base (L2N.CX P w) (k + 1) fI fd ["self", "most"] (spIn C n) ∧ Binds K fd ["self", "most"] [] := by
  obtain ⟨fI, cc, cd, kV, doc, pm, ct, oc, an, od, osl, hfi, hty, lk, hcd, ⟨cl, cld, csl, lcc⟩, ccl, cdd, vsC, ccs, file, tf, lcd, hvs, hfile⟩ := T.fn
  refine ⟨fI, PySem.W.fnX "__init__" qual (defArgs st) (defBody st) (defScope st) [("__class__", cc)] .none kV doc pm an (.ref cd) ct, hfi, hty, ⟨fun vs H Q E ⟨a, e, _⟩ => by rw [e]; rfl, fun A outer s H args us vs Q E hr e0 hb r ⟨a, ev, ha, q⟩ => ?_⟩, fun s us _ hl => ?_⟩
  rotate_left
  · rw [List.append_nil] at hl ⊢
    exact .of_eq (S.bind _ _ _ _ _ _ _ _ us hl)
  subst ev
  match us, r with
  | [ua, un], .cons ra (.cons rb .nil) =>
  obtain rfl : ua = Value.ref a := ra
  obtain ⟨tn, rfl⟩ := (show ∃ t, un = Value.int n t from rb)
  have KX : K.In s.heap := e0.mod.kin.keeps fun b o e => (e0.bs b o e).1
  have lim : s.heap.NoLimit := e0.mod.nolimit.keeps fun b o e => (e0.bs b o e).1
  have NS := S.scope
  obtain ⟨p1, p2, p3, p4, p5, p6, p7, p8, p9, p10, p11, p12, p13, p14, j, hbody, pl, hcall⟩ := S.body
  obtain ⟨nm, qn, N0, bs, bm, sn, sub, ab, col, dd, k0, k1, k2, k3, k5, hC, hbm⟩ := T.cls.cls
  have hcl : PySem.W.clsIn K C = some { name := nm, bases := bs, mro := .ref C :: bm, ns := N0, qualname := qn, hasDict := true, slotNames := sn, subclasses := sub, abstract := ab, collection := col, hasDel := false } := by unfold PySem.W.clsIn; rw [hC] <;> rfl
  let NFo : NF := ⟨"__init__", qual, defArgs st, defBody st, defScope st, [("__class__", cc)], cd⟩
  have CA : CellsAt NFo.cl ["__class__"] [some (.ref C)] s.heap H := by
    have one : ∀ (y : Str) (c : Addr), ([("__class__", cc)] : List (Str × Addr)).lookup y = some c → y = "__class__" ∧ c = cc := fun y c e => by
      have q := PySem.mem_of_lookup e
      rw [List.mem_singleton] at q
      cases q
      exact ⟨rfl, rfl⟩
    refine ⟨rfl, fun y c e => ?_, fun x y c e1 e2 => (one x c e1).1.trans (one y c e2).1.symm, fun i y e => ?_⟩
    · obtain ⟨_, rfl⟩ := one y c e
      exact ⟨(e0.bs _ _ (e0.mod.kin _ _ lcc)).2, _, _, KX _ _ lcc, rfl⟩
    · match i, e with
      | 0, e =>
        cases e
        refine ⟨cc, by rfl, fun v e => ?_⟩
        cases e
        exact ⟨.ref C, rfl, _, KX _ _ lcc, rfl⟩
  refine ks_codeAny_call_defAt (body := defBody st) hr.depth (KX _ _ lk) rfl lim (PySem.W.codeRec_of KX hcd) rfl hb NS.nocell (fun ⟨x, v⟩ hx => NS.par x (List.of_mem_zip hx).1) (fun h₁ hns kp => ?_) NS.co NS.gen NS.kind
  have I : Inv (ncx (L2N.CX P w) P w K mg base ["self", "most", "__class__"] NFo fI A outer s H E) [] (startF ["self", "most", "__class__"] [.ref a, .int n] [some (.ref C)]) H { s with heap := h₁, toks := s.toks + (["self", "most"].zip [Value.ref a, Value.int n tn]).length } :=
    inv_startN NS hr.hd e0 rfl (.cons rfl (.cons ⟨tn, rfl⟩ .nil)) CA hns kp
  refine PySem.ks_wpAt_mono (E := (ncx (L2N.CX P w) P w K mg base ["self", "most", "__class__"] NFo fI A outer s H E).xe) (Q := fun fl s' => SP (ncx (L2N.CX P w) P w K mg base ["self", "most", "__class__"] NFo fI A outer s H E) [] { nx := fun _ H' => Q .non H', rt := Q } fl s') ?_ (fun fl s' hs => ?_) fun e s' hs => hs
  rotate_left
  · have fin : ∀ {σ' : L2.St} {H' : Hp} {v : V} {u : Value}, Inv (ncx (L2N.CX P w) P w K mg base ["self", "most", "__class__"] NFo fI A outer s H E) [] σ' H' s' → L2.RelV v u → Q v H' → CE outer P w H s Q u s' :=
      fun {σ' H' v u} J rv q => ⟨v, H', J.os, J.bare, J.base, J.hok, rv, q⟩
    cases fl with
    | ret u =>
      obtain ⟨v, σ', H', J, rv, q⟩ := hs
      exact fin J rv q
    | next =>
      obtain ⟨σ', H', J, q⟩ := hs
      exact fin (v := V.non) (u := Value.none) J rfl q
    | brk =>
      obtain ⟨_, _, _, q⟩ := hs
      exact False.elim q
    | cont =>
      obtain ⟨_, _, _, q⟩ := hs
      exact False.elim q
  show _root_.PySem.wpAt (model P w) (A.deeper (envF NFo fI s.heap.objs.size)) (.func (defBody st) (envF NFo fI s.heap.objs.size)) (execs (defBody st) (envF NFo fI s.heap.objs.size)) _ _ _
  rw [show execs (defBody st) (envF NFo fI s.heap.objs.size) = _ from congrArg (fun b => execs b (envF NFo fI s.heap.objs.size)) hbody]
  have hint : interactive (envF NFo fI s.heap.objs.size) = false := by
    show ((defScope st).kind == .module && _) = false
    rw [NS.kind]; rfl
  obtain ⟨ar, har, hare⟩ := Option.map_eq_some_iff.mp S.args
  refine PySem.ks_wpAt_execs_cons (PySem.ks_wpAt_Expr_any (PySem.ks_wpAt_MethodCall (PySem.ks_wpAt_super_base (env := envF NFo fI s.heap.objs.size) (f := fI) (cc := cd) S.sup (NS.frk _ (.head _)) (by decide) rfl (I.kIn _ _ lk) rfl har rfl (I.kIn _ _ lcd) rfl hvs hfile T.top ?_) (hcall _)) hint)
  obtain ⟨mb, hb1, hb2⟩ := I.mod.blt
  have eg : (envF NFo fI s.heap.objs.size).globals = mainGlobals := rfl
  refine PySem.W.ks_loadName_global NS.kind S.sup (Calls.loadGlobal_builtin (env := envF NFo fI s.heap.objs.size) (I.mod.glob.keeps I.bk) ms (hb1.keeps I.bk) ((hb2 "super" (by decide)).trans (by kernel_rfl)) ⟨rfl, ?_⟩)
  refine wpAny_loadName_free NS.kind (NS.frk _ (.head _)) rfl ⟨_, I.kIn _ _ lcc, rfl⟩ ?_
  rw [hare]
  refine wpAny_loadName_local NS.kind (NS.par _ (.head _)) hns (zip_look (i := 0) (by decide) rfl rfl) ?_
  refine PySem.ks_wpAny_isType_cls (I.kIn _ _ hC) rfl ⟨rfl, ?_⟩
  obtain ⟨t1, hx⟩ := exo_at I.hok ha
  refine PySem.ks_wpAny_call_super (I.kIn _ _ hC) rfl hx rfl (fun c z => nomatch z) (PySem.W.looks_mroIn I.kIn T.slf) (fun h' e k' => ?_)
  have I1 := I.kept (t' := s.toks + (["self", "most"].zip [Value.ref a, Value.int n tn]).length) k'
  have hx1 := k' _ _ hx
  have IA : PySem.W.InstAt h' a ({ cls := .ref C, dict := none, data := .fields #[.ref t1, .none, .none, .none, .bool false, .none] } : Obj) C none := ⟨hx1, rfl, rfl, trivial⟩
  have hm := T.sup
  unfold PySem.W.ks_superIn at hm
  rw [hcl] at hm
  refine PySem.W.kxs_getMethod PySem.W.kxs_ValueError e (PySem.W.looks_opaque I1.kIn T.any) (l₀ := .ref C :: bm) (fun A Q E s k q => wpAny_bind ((PySem.W.looks_clsIn I1.kIn hcl) A _ E s k (wpAny_pure q))) rfl I1.kIn hm (IA.type.andThen (PySem.W.looks_subIn I1.kIn T.sub)) (PySem.W.ks_ne I1.kIn IA hcl) (by decide) ?_
  dsimp only
  have hu : (h'.push (PySem.W.kxs_mw "ValueError.__init__" a)).get? h'.objs.size = some (PySem.W.kxs_mw "ValueError.__init__" a) := Heap.get?_push_at rfl rfl
  have I2 := I1.kept (h' := h'.push (PySem.W.kxs_mw "ValueError.__init__" a)) (t' := s.toks + (["self", "most"].zip [Value.ref a, Value.int n tn]).length + 1) (fun b o z => Heap.get?_push_of_some _ z)
  have lt0 := I1.lt
  have I3 := I2.pins_of (pins' := [(h'.objs.size, PySem.W.kxs_mw "ValueError.__init__" a)]) (fun p hp => by
    rw [List.mem_singleton] at hp
    subst hp
    refine ⟨hu, I1.hok.fresh (Nat.le_refl _), Nat.ne_of_gt lt0, fun hm2 => ?_, fun v z => nomatch z⟩
    obtain ⟨_, o, ho, _⟩ := e0.funs.mem hm2
    have z := Heap.lt_size ho
    exact absurd (Nat.lt_trans z lt0) (Nat.lt_irrefl _))
  have gs : Gl (ncx (L2N.CX P w) P w K mg base ["self", "most", "__class__"] NFo fI A outer s H E) "str" := S.str
  have pa : PA (ncx (L2N.CX P w) P w K mg base ["self", "most", "__class__"] NFo fI A outer s H E) [iArg m j p4 p5 p6 p7 p8] _ :=
    pa_cons (pe_op op_add_str pe_str (pe_callTy call_str_int gs mt PyProof.Rows.Boot.«str» (pa_cons (pe_var (i := 1) rfl (.inl (NS.par _ (.tail _ (.head _))))) pa_nil))) pa_nil
  refine PySem.W.kxs_callWith1 (x := a) (i := "ValueError.__init__") (news := [(h'.objs.size, PySem.W.kxs_mw "ValueError.__init__" a)]) (h₀ := base) (L := s.heap.objs.size) (fun p hp => ?_) (.head _) ?_ rfl rfl
  · rw [List.mem_singleton] at hp
    subst hp
    refine ⟨hu, Nat.ne_of_gt lt0, ?_⟩
    cases e5 : base.get? h'.objs.size with
    | none => rfl
    | some o => exact absurd (Heap.lt_size (I1.bk _ _ e5)) (Nat.lt_irrefl _)
  refine thn (pa.run p9 _ _ _ H (fun vs H1 => vs = [.str (m ++ Str.ofString (toString n))] ∧ H1 = H) I3 ⟨.int n, rfl, n, rfl, h1, m, _, rfl, rfl, h2, rfl, rfl⟩) fun us s3 ⟨vs, H1, I4, r4, ev4, eH⟩ => ?_
  subst ev4
  rw [eH] at I4
  refine ⟨(I4.pin _ (List.mem_append_right _ (.head _))).1, ?_⟩
  have hu4 := (I4.pin _ (List.mem_append_right _ (.head _))).1
  obtain ⟨t4, hx4⟩ := exo_at I4.hok ha
  obtain ⟨h4, g4, d4, tk4, os4⟩ := s3
  have l4 : us.length ≤ sizeLine := by
    have z := r4.length
    rw [← z, sizeLine_eq]
    exact (by decide : 1 ≤ 16777216)
  refine call_mw (I4.kIn _ _ hC) hx4 hu4 l4 fun h5 t5 k5 hx5 => ?_
  have J5 := I4.write (t' := tk4) (x := a) (e := a) (o := exo a C none) (by rw [ha]; exact True.intro) (.inl rfl) k5 ⟨_, hx5⟩ (exo_ok hx5)
  have eu : L2.upd H a (exo a C none) = H := by
    funext b
    by_cases hb : b = a
    · rw [hb, upd_same, ha]
    · rw [upd_ne hb]
  rw [eu] at J5
  have J6 := J5.pins_of (pins' := []) (fun p hp => nomatch hp)
  refine wpAt_of_wpAny ?_
  have ps : PSs (ncx (L2N.CX P w) P w K mg base ["self", "most", "__class__"] NFo fI A outer s H E) [.Assign [.Attribute (.Name "self" p11) "most" p12] (.Name "most" p13) p14] _ :=
    pss_one (ps_ost (pe_var (i := 0) rfl (.inl (NS.par _ (.head _)))) (pe_var (i := 1) rfl (.inl (NS.par _ (.tail _ (.head _))))))
  exact ps.run [] _ _ H _ J6 ⟨.int n, rfl, .ref a, rfl, a, C, rfl, T.cls, T.no, .inl ⟨ha, q⟩⟩
end Dt
set_option Elab.async false
set_option linter.all false
set_option maxRecDepth 100000
set_option maxHeartbeats 1000000
namespace Dt
open PySem PySem.Spec PyProof.Rows L2
variable [HW]
/-- what the class says of its instances, of CE above it -/
structure ExcM (K : PySem.W.Frag) (C CE : Addr) : Prop where
  b : PySem.W.subIn K (.ref C) (.type "BaseException") = some true
  hg : PySem.W.findIn K (.ref C) "__getattribute__" = some (some (.builtin "BaseException.__getattribute__"))
  hk : PySem.W.findIn K (.ref C) "__getattr__" = some none
  hd : PySem.W.hasDictIn K C = true
  ha : PySem.W.findIn K (.ref C) "__class__" = some (some (.builtin "object.__class__"))
  hn : PySem.W.specialIn K (.builtin "object.__class__") "__get__" = some (some (.builtin "getset_descriptor.__get__"))
  ht : PySem.W.takesIn K (.builtin "object.__class__") = some true
  hm : PySem.W.mroIn K C (.type "object") = some true
  cb : PySem.W.subIn K (.ref CE) (.type "BaseException") = some true
  cd : PySem.W.hasDictIn K CE = true
  ct : PySem.W.typeIn K (.ref CE) = some (.type "type")
  cs : PySem.W.subIn K (.ref C) (.ref CE) = some true
theorem ExcM.c {K : PySem.W.Frag} {C CE : Addr} (h : ExcM K C CE) : ExcC K C := ⟨h.hg, h.hk, h.b, h.hd, h.ha, h.hn, h.ht, h.hm⟩
theorem ExcM.exm {K : PySem.W.Frag} {C CE : Addr} (h : ExcM K C CE) : PySem.W.exmOne K (.ref C) (.ref CE) = some true := PySem.W.exm_ref h.cb h.cd h.ct h.cs
/-- the same of a class with its own __init__ -/
structure OexD (K : PySem.W.Frag) (C : Addr) : Prop where
  sa : PySem.W.findIn K (.ref C) "__setattr__" = some (some (.builtin "object.__setattr__"))
  exC : PySem.W.subIn K (.ref C) (.type "BaseException") = some true
  tyC : PySem.W.typeIn K (.ref C) = some (.type "type")
  kC : PySem.W.keepIn K (.ref C) = true
  any : PySem.W.nsIn K cStatics "thirdparty.any" = some none
  sub : PySem.W.subIn K (.ref C) (.type "ValueError") = some true
  slf : PySem.W.mroIn K C (.ref C) = some true
  no : PySem.W.findIn K (.ref C) "most" = some none
theorem ownInit_mk {P : Program} {K : PySem.W.Frag} {C fI cc cd N : Addr} {qual nm qn file : Str} {st : Stmt} {kV doc pm ct oc cl ccl : Value} {an od cld cdd dd : Option Addr} {osl csl ccs : Array (Option Value)} {vs : Array Value} {tf : Tok} {bs bm sub : List Value} {sn : List Str} {ab : Bool} {col : Option Bool} {k0 k1 k2 k3 k5 : Option Value}
    (h1 : PySem.W.findIn K (.ref C) "__init__" = some (some (.ref fI))) (h2 : PySem.W.typeIn K (.ref fI) = some (.type "function"))
    (h3 : K.lookup fI = some ⟨oc, od, .func (PySem.W.fnX "__init__" qual (defArgs st) (defBody st) (defScope st) [("__class__", cc)] .none kV doc pm an (.ref cd) ct), osl⟩) (h4 : PySem.W.codeIn K (.ref cd) qual = true)
    (h5 : K.lookup cc = some ⟨cl, cld, .cell (some (.ref C)), csl⟩) (h6 : K.lookup cd = some ⟨ccl, cdd, .fields vs, ccs⟩) (h7 : vs[2]? = some (.str file tf)) (h8 : ((P.main.file : Str) == file) = true) (h9 : (P.main.scope.names.lookup ("super" : Str)).isSome = false)
    (h10 : PySem.W.ks_superIn K C C "__init__" = some (some (.builtin "ValueError.__init__"))) (h11 : K.lookup C = some (excClassObj nm qn C N bs bm true sn sub ab col dd k0 k1 k2 k3 k5 "ValueError.__new__")) (h12 : PySem.HandSPX.refsVE bm = true) (o : OexD K C) : OwnInit P K C qual st :=
  ⟨⟨⟨nm, qn, N, bs, bm, sn, sub, ab, col, dd, k0, k1, k2, k3, k5, h11, h12⟩, o.sa, o.exC, o.tyC, o.kC⟩, ⟨fI, cc, cd, kV, doc, pm, ct, oc, an, od, osl, h1, h2, h3, h4, ⟨cl, cld, csl, h5⟩, ccl, cdd, vs, ccs, file, tf, h6, h7, h8⟩, h9, o.any, h10, o.sub, o.slf, o.no⟩
def clsBody : Stmt → List Stmt
  | .ClassDef _ _ _ b _ _ _ _ _ _ _ => b
  | _ => []
end Dt
set_option Elab.async false
set_option linter.all false
set_option maxRecDepth 100000
set_option maxHeartbeats 1000000
namespace Dt
open PySem PySem.Spec PyProof.Rows L2
end Dt
set_option Elab.async false
set_option linter.all false
set_option maxRecDepth 100000
set_option maxHeartbeats 4000000
namespace Dt
open PySem PySem.Spec PyProof.Rows L2 HotX L2H
variable [HW]
/-- X("m"): an error made, not raised -/
def sXv (n : String) : SE := fun ρ => .ok (.xv (Str.ofString n)) ρ
@[simp] theorem ev_xv (n : String) (ρ : Env) : sXv n ρ = .ok (.xv (Str.ofString n)) ρ := rfl
section
variable {X : Cx} {W : WX}
theorem d_xv {ex : Exx} {n : String} {m : Str} {j : Nat} {p p2 pos : Pos} (c : ExcK X.K X.mg n) (hg : Gl X (Str.ofString n)) (hd : (Str.ofString n == ("__debug__" : Str)) = false := by decide) :
    DE (GK X ex) X W (.Call (.Name (Str.ofString n) p) [.Constant (.str m) j p2] [] pos) (sXv n) :=
  wkE (pe_exc1 PySem.F.excBase_ValueError c.e c.m c.k hg pe_str (by rfl) hd) fun σ H Q ⟨ρ, F, Rv, io, rel, q⟩ => fun a hn =>
    q (.ref a) _ _ (FLe.upd _ (rel.fH.noneOf hn)) (rel.new hn _) (.xv _ upd_same)
end
end Dt
set_option Elab.async false
set_option linter.all false
set_option maxRecDepth 100000
set_option maxHeartbeats 4000000
namespace Dt
open PySem PySem.Spec PyProof.Rows L2 NdefX HotX L2H
variable [HW]
/-- X(es), an own exception class with __init__, as a value -/
def tMkOV (C : Addr) (sp : Sp) (dvs : List V) (ta : TA) : TE := fun σ H Q => ta σ H fun vs H1 => vs.length ≤ 1000 ∧ ∀ a, H1 a = none → sp (.ref a :: (vs ++ dvs)) (upd H1 a (exo a C none)) (fun v H2 => v = .non ∧ Q (.ref a) H2) (fun _ _ _ => False)
section
variable {X : Cx} {e : Expr} {es : List Expr} {ta : TA} {p pos : Pos}
theorem pe_oexV {CX : CXT} {x : Str} {C fI : Addr} {k : Nat} {fd : FuncData} {ps : List Str} {sp : Sp} {ds : List Value} {dvs : List V} (T : OexC X.K C) (iC : PySem.W.findIn X.K (.ref C) "__init__" = some (some (.ref fI))) (tI : PySem.W.typeIn X.K (.ref fI) = some (.type "function"))
    (F1 : FnOk X.prog X.w X.K X.mg X.base CX k fI fd ps sp) (hr : Room (k + 1) X.A) (hb : Binds X.K fd ps ds) (hd : Vals dvs ds) (hx : Passes CX X (fun _ _ _ => False)) (hg : Gl X x) (hm : X.mg x = some (.ref C)) (ha : PA X (e :: es) ta)
    (hdb : (x == ("__debug__" : Str)) = false := by decide) (he : starEach (e :: es) X.env = (false, eval e X.env) :: starEach es X.env := by rfl) (hpl : (backTo pos (starEach es X.env)).any (·.1) = false := by rfl) :
    PE X (.Call (.Name x p) (e :: es) [] pos) (tMkOV C sp dvs ta) := by
  refine ⟨fun pins s σ H Q I h => ?_⟩
  obtain ⟨nm, q, N, bs, bm, sn, sub, ab, col, dd, k0, k1, k2, k3, k5, hC, hbm⟩ := T.cls
  refine wpAny_Call_Name_kw (ld_glob I hg hm ?_ hdb)
  refine PySem.W.callWith_K (h₀ := X.base) I.ok.mod.kin T.kC (thn (ha.run pos pins s σ H _ I h) fun us s1 ⟨vs, H1, I1, r1, hz, q1⟩ => ⟨I1.kIn, ?_⟩) he hpl
  show wpAny _ _ (call (.ref C) us) _ _ _
  obtain ⟨hp, g, dr, tk, os⟩ := s1
  have hsz : hp.objs.size ≤ hp.objs.size + 1 := Nat.le_succ _
  have hn : H1 (hp.objs.size + 1) = none := I1.hok.fresh hsz
  have hq := q1 (hp.objs.size + 1) hn
  have kk : ∀ b o, hp.get? b = some o → ((hp.push (PySem.W.kdv_tup us)).push (PySem.HandSPX.excO C hp.objs.size)).get? b = some o := fun b o e => Heap.get?_push_of_some _ (Heap.get?_push_of_some _ e)
  have hget : ((hp.push (PySem.W.kdv_tup us)).push (PySem.HandSPX.excO C hp.objs.size)).get? (hp.objs.size + 1) = some (PySem.HandSPX.excO C hp.objs.size) := by heap_get
  have I2 : Inv X pins σ (L2.upd H1 (hp.objs.size + 1) (exo (hp.objs.size + 1) C none)) ⟨(hp.push (PySem.W.kdv_tup us)).push (PySem.HandSPX.excO C hp.objs.size), g, dr, tk, os⟩ :=
    I1.laid (t' := tk) (a := hp.objs.size + 1) (o := exo (hp.objs.size + 1) C none) (h' := (hp.push (PySem.W.kdv_tup us)).push (PySem.HandSPX.excO C hp.objs.size)) kk hsz (exo_ok hget)
  have r2 : Vals (V.ref (hp.objs.size + 1) :: (vs ++ dvs)) (Value.ref (hp.objs.size + 1) :: (us ++ ds)) := .cons rfl (r1.append hd)
  have hl : (Value.ref (hp.objs.size + 1) :: us ++ ds).length = ps.length := by
    have e := r2.length
    rw [F1.len _ _ _ _ hq] at e
    exact e.symm
  have hus : us.length ≤ sizeLine := by
    rw [← Paired.length r1, sizeLine_eq]
    omega
  refine wpAny_call (PySem.HandSPX.call_own F.excBase_ValueError (fun Y => PySem.HandSPX.refsVE_contains Y bm hbm) (I1.kIn _ _ hC) (PySem.W.looks_findIn I1.kIn iC) (fun self => PySem.W.bind_fn I1.kIn self tI) hus
    (codeAny_mono (F1.run _ X.stack _ _ ⟨Value.ref (hp.objs.size + 1) :: us, []⟩ (Value.ref (hp.objs.size + 1) :: (us ++ ds)) _ _ (fun _ _ _ => False) (hr.make C us []) (I2.env0.make C us []) (hb _ (Value.ref (hp.objs.size + 1) :: us) I2.kIn hl) r2 hq) fun r s' hq' => ?_))
  cases r with
  | error er => exact hx pins σ _ _ er s' I2 hq'
  | ok fl =>
    cases fl with
    | ret u =>
      obtain ⟨v, H', I3, rv, ev, q3⟩ := I2.after hq'
      subst ev
      exact ⟨rv, ⟨V.ref (hp.objs.size + 1), H', I3, rfl, q3⟩⟩
    | next => exact False.elim hq'
    | brk => exact False.elim hq'
    | cont => exact False.elim hq'
end
/-- X(e), e comes to n: an error made, not raised -/
def sXm (x : String) (n : Int) (se : SE) : SE := fun ρ => (se ρ).bind fun d ρ' => match d with
  | .int i => if i = n then .ok (.xm (Str.ofString x) n) ρ' else .stuck
  | _ => .stuck
@[simp] theorem ev_xm (x : String) (n : Int) (se : SE) (ρ : Env) : sXm x n se ρ = (se ρ).bind fun d ρ' => match d with
  | .int i => if i = n then .ok (.xm (Str.ofString x) n) ρ' else .stuck
  | _ => .stuck := rfl
theorem d_xm {ex : Exx} {X : Cx} {W : WX} {x : String} {k : Nat} {qual m : Str} {st : Stmt} {n : Int} {e : Expr} {se : SE} {p pos : Pos} (hu : At X W) (OI : OwnInit X.prog X.K (exA X.K x) qual st) (S : InitSt st m) (ms : X.mg "super" = none) (mt : X.mg "str" = none)
    (hm : X.mg (Str.ofString x) = some (.ref (exA X.K x))) (hr : Room (k + 2) X.A) (hg : Gl X (Str.ofString x)) (ha : DE (GK X ex) X W e se)
    (h1 : n.natAbs.log2 < 1920 := by decide) (h2 : m.length + (Str.ofString (toString n)).length ≤ sizeLine := by decide +kernel) (hd : (Str.ofString x == ("__debug__" : Str)) = false := by decide)
    (he : starEach (e :: []) X.env = (false, eval e X.env) :: starEach [] X.env := by rfl) (hpl : (backTo pos (starEach [] X.env)).any (·.1) = false := by rfl) :
    DE (GK X ex) X W (.Call (.Name (Str.ofString x) p) [e] [] pos) (sXm x n se) :=
  let ⟨fI, fd, h3, h4, F1, hb⟩ := init_ok (P := X.prog) (w := X.w) (K := X.K) (mg := X.mg) (base := X.base) (k := k) (n := n) OI S ms mt h1 h2
  wkE (pe_oexV (dvs := []) OI.cls h3 h4 F1 hr hb .nil (L2N.passes_call hu.tk fun _ _ _ _ z => z.elim) hg hm (pa_cons ha pa_nil he) hd he hpl) fun σ H Q ⟨ρ, F, Rv, io, rel, q⟩ => by
    refine ⟨ρ, F, Rv, io, rel, ?_⟩
    unfold sXm at q
    cases e1 : se ρ with
    | stuck => rw [e1] at q; exact q.elim
    | exc y ρ' => rw [e1] at q; exact q
    | ok d ρ' =>
      rw [e1, R.bind_ok] at q
      intro v H1 Fz le rel1 rp
      cases d with
      | int i =>
        simp only at q
        by_cases hi : i = n
        · rw [if_pos hi] at q
          subst hi
          cases rp
          refine ⟨(by decide : 1 ≤ 1000), fun a na => ⟨a, rfl, upd_same, fun d hd1 hda => ?_⟩⟩
          rw [upd_ne hda] at hd1
          refine ⟨rfl, ?_⟩
          have eH : L2.upd (L2.upd (L2.upd H1 a (exo a (exA X.K x) none)) d (exd d [("most", V.int i)])) a (exo a (exA X.K x) (some d)) = L2.upd (L2.upd H1 d (exd d [("most", V.int i)])) a (exo a (exA X.K x) (some d)) := by
            funext b
            by_cases hc : b = a
            · rw [hc, upd_same, upd_same]
            · rw [upd_ne hc, upd_ne hc]
              by_cases hb : b = d
              · rw [hb, upd_same, upd_same]
              · rw [upd_ne hb, upd_ne hb, upd_ne hc]
          rw [eH]
          have r2 := rel1.new hd1 (exd d [("most", V.int i)])
          have na2 : L2.upd H1 d (exd d [("most", V.int i)]) a = none := by rw [upd_ne (Ne.symm hda)]; exact na
          have r3 := r2.new na2 (exo a (exA X.K x) (some d))
          have f1 : Fz d = none := rel1.fH.noneOf hd1
          have f2 : L2.upd Fz d (exd d [("most", V.int i)]) a = none := r2.fH.noneOf na2
          exact q _ _ _ (le.trans ((FLe.upd _ f1).trans (FLe.upd _ f2))) r3 (.xm _ _ upd_same (by rw [upd_ne hda]; exact upd_same))
        · rw [if_neg hi] at q; exact q.elim
      | _ => exact q.elim
end Dt
set_option Elab.async false
set_option linter.all false
set_option maxRecDepth 100000
set_option maxHeartbeats 4000000
namespace Dt
open PySem PySem.Spec PyProof.Rows L2 NdefX HotX L2H
variable [HW]
/-- at a: an error object of class C -/
def AtX (H : Hp) (a C : Addr) : Prop := H a = some (ExO (.ref C) a) ∨ ∃ d, H a = some (exo a C d)
theorem AtX.inst {P : Program} {w : World} {H : Hp} {h : Heap} {a C : Addr} (hok : HOk P w H h) (e : AtX H a C) : ∃ o, InstX h a o C := by
  rcases e with e | ⟨d, e⟩
  · obtain ⟨⟨oe, vs, ho, hz, _⟩, _, _⟩ := hok a _ e
    exact ⟨oe, ho, hz.1⟩
  · obtain ⟨t1, h1⟩ := exo_at hok e
    exact ⟨_, h1, rfl⟩
def rIsX (K : PySem.W.Frag) : List V → Hp → VK → Prop := fun xs H Q => ∃ (a C : Addr) (c : V) (cv : Value) (b : Bool), xs = [.ref a, c] ∧ AtX H a C ∧ ExcC K C ∧ (∀ u, RelV c u → u = cv) ∧ PySem.W.kitOne K (.ref C) cv = some b ∧ Q (.bl b) H
theorem call_isX {X : Cx} : CallR X (.builtin "isinstance") (rIsX X.K) := fun pins s σ H xs us Q I r ⟨a, C, d, cv, b, ex, hx, c, hcv, e, q⟩ => by
  subst ex
  match us, r with
  | [_, ut], .cons rx (.cons rt .nil) =>
    obtain rfl : _ = Value.ref a := rx
    obtain rfl : ut = cv := hcv _ rt
    obtain ⟨oe, J⟩ := hx.inst I.hok
    exact PySem.W.kia_one (kitx_excX c.hg c.hk c.hs c.hd c.ha c.hn c.ht c.hm) I.kIn J e (fun z => nomatch z) fun tk => ⟨V.bl b, H, I.kept (fun _ _ z => z), rfl, q⟩
/-- the class of an error -/
def D.xcls : D → Option Str
  | .xv c => some c
  | .xm c _ => some c
  | _ => none
theorem Rp.atX {K : PySem.W.Frag} {F H : Hp} {v : V} {d : D} {c : Str} (r : Rp K F v d) (fh : FLe F H) (e : d.xcls = some c) : ∃ a, v = .ref a ∧ AtX H a (fnA K c) := by
  cases r with
  | xv cls t => cases e; exact ⟨_, rfl, .inl (fh _ _ t)⟩
  | xm cls n t u => cases e; exact ⟨_, rfl, .inr ⟨_, fh _ _ t⟩⟩
  | _ => cases e
/-- isinstance(e, T): the table tells it of each class -/
def sIsX (tb : Str → Option Bool) (se : SE) : SE := fun ρ => (se ρ).bind fun d ρ' => match d.xcls with
  | some c => match tb c with
    | some b => .ok (.bl b) ρ'
    | none => .stuck
  | none => .stuck
@[simp] theorem ev_isX (tb : Str → Option Bool) (se : SE) (ρ : Env) : sIsX tb se ρ = (se ρ).bind fun d ρ' => match d.xcls with
  | some c => (match tb c with
    | some b => .ok (.bl b) ρ'
    | none => .stuck)
  | none => .stuck := rfl
section
variable {ex : Exx} {X : Cx} {W : WX} {e : Expr} {p pos : Pos} {se : SE}
theorem d_isX {tb : Str → Option Bool} {te : Expr} {tv : V} {cv : Value} (hg : Gl X "isinstance") (hm : X.mg "isinstance" = none) (ht : PE X te (tC tv)) (hcv : ∀ u, RelV tv u → u = cv)
    (hT : ∀ c b, tb c = some b → ExcC X.K (fnA X.K c) ∧ PySem.W.kitOne X.K (.ref (fnA X.K c)) cv = some b) (ha : DE (GK X ex) X W e se)
    (he : starEach (e :: te :: []) X.env = (false, eval e X.env) :: starEach (te :: []) X.env := by rfl) (hpl : (backTo pos (starEach (te :: []) X.env)).any (·.1) = false := by rfl) (hs2 : starEach (te :: []) X.env = (false, eval te X.env) :: starEach [] X.env := by rfl) :
    DE (GK X ex) X W (.Call (.Name "isinstance" p) (e :: te :: []) [] pos) (sIsX tb se) :=
  wkE (isi_gl hg hm call_isX (pa_cons ha (pa_cons ht pa_nil hs2) he) he hpl) fun σ H Q ⟨ρ, F, Rv, io, rel, z⟩ => by
    refine ⟨ρ, F, Rv, io, rel, ?_⟩
    unfold sIsX at z
    cases e1 : se ρ with
    | stuck => rw [e1] at z; exact z.elim
    | exc y ρ' => rw [e1] at z; exact z
    | ok d ρ' =>
      rw [e1, R.bind_ok] at z
      intro v H1 Fz le rel1 rp
      cases e2 : d.xcls with
      | none => rw [e2] at z; exact z.elim
      | some c =>
        rw [e2] at z
        simp only at z
        cases e3 : tb c with
        | none => rw [e3] at z; exact z.elim
        | some b =>
          rw [e3] at z
          obtain ⟨a, rfl, hx⟩ := rp.atX rel1.fH e2
          obtain ⟨h1, h2⟩ := hT c b e3
          exact ⟨a, _, tv, cv, b, rfl, hx, h1, hcv, h2, z (.bl b) H1 Fz le rel1 (.bl b)⟩
end
end Dt
set_option Elab.async false
set_option linter.all false
set_option maxRecDepth 100000
set_option maxHeartbeats 4000000
namespace Dt
open PySem PySem.Spec PyProof.Rows L2 NdefX HotX L2H
variable [HW]
/-- e.f of an error that is a value; K: what is written of its class -/
def tXv (K : PySem.W.Frag) (f : Str) (te : TE) : TE := fun σ H Q => te σ H fun x H1 => ∃ (a C dd : Addr) (fs : List (Str × V)) (v : V), x = .ref a ∧ XfC K C ∧ PySem.W.findIn K (.ref C) f = some none ∧ H1 a = some (exo a C (some dd)) ∧ H1 dd = some (exd dd fs) ∧ fs.lookup f = some v ∧ Q v H1
theorem pe_xv {X : Cx} {e : Expr} {te : TE} {pos : Pos} {n : Str} (he : PE X e te) (hb : attributeBase e n X.env (eval e X.env) = eval e X.env := by rfl) :
    PE X (.Attribute e n pos) (tXv X.K n te) := by
  refine ⟨fun pins s σ H Q I h => ?_⟩
  refine attr_of hb (thn (he.run pins s σ H _ I h) fun u s1 hh => ?_)
  obtain ⟨x, H1, I1, rx, a, C, dd, fs, v, ex, T, hno, ea, ed, l, q⟩ := hh
  subst ex
  obtain rfl : u = Value.ref a := rx
  obtain ⟨t1, ha⟩ := exo_at I1.hok ea
  obtain ⟨mA, hns, hr⟩ := exd_at I1.hok ed
  obtain ⟨od, ho, hl⟩ := lookIn_ns hns
  obtain ⟨u, hu, ru⟩ := RelO.some_of (v := v) (o := mA n) (by rw [← l]; exact hr n)
  have J : PySem.W.InstAt s1.heap a _ C (some od) := ⟨ha, rfl, by unfold PySem.W.notCls; rfl, ho⟩
  exact HandSPX.exc_get I1.kIn J T.ga T.gg T.exC (PySem.W.findObj_own T.hdC hno rfl (by rw [hl, hu])) (handed_of ru) ⟨v, H1, I1.tok _, ru, q⟩
/-- e.most: the classes cs have been looked at -/
def sXMost (cs : List Str) (se : SE) : SE := fun ρ => (se ρ).bind fun d ρ' => match d with
  | .xm c n => if c ∈ cs then .ok (.int n) ρ' else .stuck
  | _ => .stuck
@[simp] theorem ev_xmost (cs : List Str) (se : SE) (ρ : Env) : sXMost cs se ρ = (se ρ).bind fun d ρ' => match d with
  | .xm c n => if c ∈ cs then .ok (.int n) ρ' else .stuck
  | _ => .stuck := rfl
theorem d_xmost {ex : Exx} {X : Cx} {W : WX} {e : Expr} {se : SE} {cs : List Str} {pos : Pos} (hT : ∀ c ∈ cs, XfC X.K (fnA X.K c) ∧ PySem.W.findIn X.K (.ref (fnA X.K c)) "most" = some none) (ha : DE (GK X ex) X W e se)
    (hb : attributeBase e "most" X.env (eval e X.env) = eval e X.env := by rfl) : DE (GK X ex) X W (.Attribute e "most" pos) (sXMost cs se) :=
  wkE (pe_xv ha hb) fun σ H Q ⟨ρ, F, Rv, io, rel, z⟩ => by
    refine ⟨ρ, F, Rv, io, rel, ?_⟩
    unfold sXMost at z
    cases e1 : se ρ with
    | stuck => rw [e1] at z; exact z.elim
    | exc y ρ' => rw [e1] at z; exact z
    | ok d ρ' =>
      rw [e1, R.bind_ok] at z
      intro v H1 Fz le rel1 rp
      cases d with
      | xm c n =>
        simp only at z
        by_cases hc : c ∈ cs
        · rw [if_pos hc] at z
          obtain ⟨h1, h2⟩ := hT c hc
          cases rp with
          | xm _ _ t u => exact ⟨_, _, _, _, .int n, rfl, h1, h2, rel1.fH _ _ t, rel1.fH _ _ u, rfl, z (.int n) H1 Fz le rel1 (.int n)⟩
        · rw [if_neg hc] at z; exact z.elim
      | _ => exact z.elim
end Dt
set_option Elab.async false
set_option linter.all false
set_option maxRecDepth 100000
set_option maxHeartbeats 4000000
namespace Dt
open PySem PySem.Spec PyProof.Rows L2 NdefX HotX L2H
variable [HW]
def numOk (l : Nat) (i : Int) : Bool := decide (i.natAbs.log2 < 1920 ∧ l + (Str.ofString (toString i)).length ≤ sizeLine)
/-- X(e): an error made, not raised; l: how long its message's first part is -/
def sXmA (x : String) (l : Nat) (se : SE) : SE := fun ρ => (se ρ).bind fun d ρ' => match d with
  | .int i => if numOk l i = true then .ok (.xm (Str.ofString x) i) ρ' else .stuck
  | _ => .stuck
@[simp] theorem ev_xmA (x : String) (l : Nat) (se : SE) (ρ : Env) : sXmA x l se ρ = (se ρ).bind fun d ρ' => match d with
  | .int i => if numOk l i = true then .ok (.xm (Str.ofString x) i) ρ' else .stuck
  | _ => .stuck := rfl
theorem d_xmA {ex : Exx} {X : Cx} {W : WX} {x : String} {k : Nat} {qual m : Str} {st : Stmt} {e : Expr} {se : SE} {p pos : Pos} (hu : At X W) (OI : OwnInit X.prog X.K (exA X.K x) qual st) (S : InitSt st m) (ms : X.mg "super" = none) (mt : X.mg "str" = none)
    (hm : X.mg (Str.ofString x) = some (.ref (exA X.K x))) (hr : Room (k + 2) X.A) (hg : Gl X (Str.ofString x)) (ha : DE (GK X ex) X W e se)
    (h2 : m.length + (Str.ofString (toString (0 : Int))).length ≤ sizeLine := by decide +kernel) (hd : (Str.ofString x == ("__debug__" : Str)) = false := by decide)
    (he : starEach (e :: []) X.env = (false, eval e X.env) :: starEach [] X.env := by rfl) (hpl : (backTo pos (starEach [] X.env)).any (·.1) = false := by rfl) :
    DE (GK X ex) X W (.Call (.Name (Str.ofString x) p) [e] [] pos) (sXmA x m.length se) := ⟨fun pins s σ H Q I ⟨ρ, F, Rv, io, rel, q⟩ => by
  have D : ∀ n : Int, n.natAbs.log2 < 1920 → m.length + (Str.ofString (toString n)).length ≤ sizeLine → DE (GK X ex) X W (.Call (.Name (Str.ofString x) p) [e] [] pos) (sXm x n se) := fun n a b => d_xm hu OI S ms mt hm hr hg ha a b hd he hpl
  unfold sXmA at q
  cases e1 : se ρ with
  | stuck => rw [e1] at q; exact q.elim
  | exc y ρ' =>
    rw [e1] at q
    refine (D 0 (by decide) h2).run pins s σ H Q I ⟨ρ, F, Rv, io, rel, ?_⟩
    unfold sXm
    rw [e1]
    exact q
  | ok d ρ' =>
    rw [e1, R.bind_ok] at q
    cases d with
    | int i =>
      simp only at q
      by_cases hi : numOk m.length i = true
      · rw [if_pos hi] at q
        obtain ⟨a, b⟩ := of_decide_eq_true hi
        refine (D i a b).run pins s σ H Q I ⟨ρ, F, Rv, io, rel, ?_⟩
        unfold sXm
        rw [e1, R.bind_ok]
        simp only [if_true]
        exact q
      · rw [if_neg hi] at q; exact q.elim
    | _ => exact q.elim⟩
end Dt
set_option Elab.async false
set_option linter.all false
set_option maxRecDepth 100000
set_option maxHeartbeats 4000000
namespace Dt
open PySem PySem.Spec PyProof.Rows L2
variable [HW]
/-- where the class lies -/
abbrev TC (K : PySem.W.Frag) : Addr := fnA K "Tally"
/-- what is written of it -/
structure TalC (K : PySem.W.Frag) : Prop where
  cl : Cls K (TC K)
  nr : NoAttr K (TC K) "row"
/-- its place among the types -/
structure TalI (K : PySem.W.Frag) : Prop where
  ca : PySem.W.findIn K (.ref (TC K)) "__class__" = some (some (.builtin "object.__class__"))
  cn : PySem.W.specialIn K (.builtin "object.__class__") "__get__" = some (some (.builtin "getset_descriptor.__get__"))
  ct : PySem.W.takesIn K (.builtin "object.__class__") = some true
  cm : PySem.W.mroIn K (TC K) (.type "object") = some true
  yes : PySem.W.kitOne K (.ref (TC K)) (.ref (TC K)) = some true
  n1 : PySem.W.kitOne K (.type "NoneType") (.ref (TC K)) = some false
  n2 : PySem.W.kitOne K (.type "bool") (.ref (TC K)) = some false
  n3 : PySem.W.kitOne K (.type "int") (.ref (TC K)) = some false
  n4 : PySem.W.kitOne K (.type "str") (.ref (TC K)) = some false
  n5 : PySem.W.kitOne K (.type "tuple") (.ref (TC K)) = some false
  n6 : PySem.W.kitOne K (.type "list") (.ref (TC K)) = some false
  n7 : PySem.W.kitOne K (.type "dict") (.ref (TC K)) = some false
theorem TalI.no {K : PySem.W.Frag} (T : TalI K) {d : D} (h : d.isFn = false) : PySem.W.kitOne K (.type (tyN d)) (.ref (TC K)) = some false := by
  cases d with
  | non => exact T.n1
  | bl _ => exact T.n2
  | int _ => exact T.n3
  | str _ => exact T.n4
  | tup _ => exact T.n5
  | arg _ => exact T.n5
  | etup => exact T.n5
  | lst _ => exact T.n6
  | scr _ => exact T.n6
  | dct _ _ => exact T.n7
  | _ => cases h
section
variable {K : PySem.W.Frag} {F H : Hp} {v : V} {d : D}
theorem Vw.tal (fh : FLe F H) (h : Vw K F H v (.tal d)) : ∃ a dx x, v = .ref a ∧ H a = some (.ins (TC K) dx [("row", x)]) ∧ Rp K F x d := by
  rcases h with h | ⟨p, o, e, h1, h2⟩
  · cases h with
    | tal t r => exact ⟨_, _, _, rfl, fh _ _ t, r⟩
  · obtain ⟨_, dx, x, rfl, r⟩ := h2
    exact ⟨p, dx, x, e, h1, r⟩
end
section
variable {ex : Exx} {X : Cx} {W : WX} {a e o : Expr} {es : List Expr} {p pos apos : Pos} {so sa : SO} {se : SE} {sA : SA}
def sRow (so : SO) : SE := fun ρ => (so ρ).bind fun o ρ' => match o.get ρ' with
  | some (.tal d) => .ok d ρ'
  | _ => .stuck
theorem d_row (T : TalC X.K) (ho : DO (GK X ex) X W e so) (hb : attributeBase e "row" X.env (eval e X.env) = eval e X.env := by rfl) : DE (GK X ex) X W (.Attribute e "row" pos) (sRow so) :=
  wkE (pe_fld ho hb) fun σ H Q ⟨ρ, F, Rv, io, rel, q⟩ => by
    refine ⟨ρ, F, Rv, io, rel, ?_⟩
    unfold sRow at q
    cases e1 : so ρ with
    | stuck => rw [e1] at q; exact q.elim
    | exc x ρ' => rw [e1] at q; exact q
    | ok o ρ' =>
      rw [e1, R.bind_ok] at q
      intro v H' F' le rel' ok
      cases e2 : o.get ρ' with
      | none => rw [e2] at q; exact q.elim
      | some d0 =>
        rw [e2] at q
        cases d0 with
        | tal d =>
          obtain ⟨a, dx, x, rfl, ha, rx⟩ := (rel'.view (G := GK X ex) ok e2).tal rel'.fH
          exact ⟨a, _, dx, _, x, rfl, ha, T.cl, T.nr, by rfl, q x H' F' le rel' rx⟩
        | _ => exact q.elim
def sRowSet (i : Nat) (s : SE) : SS := fun ρ => (s ρ).bind fun d ρ' => match held ρ' i with
  | some (.tal _) => .ok .nx (put ρ' i (.tal d))
  | _ => .stuck
theorem d_rowSet {i : Nat} (T : TalC X.K) (ho : PE X o (tVar i)) (hv : DE (GK X ex) X W e se) (hs : swapsWith e (some (.Attribute o "row" apos)) pos.line X.env = pure false := by rfl) :
    DS (GK X ex) X W (.Assign [.Attribute o "row" apos] e pos) (sRowSet i se) :=
  wkS (ps_fld ho hv hs) fun D σ H ⟨ρ, F, Rv, io, rel, q⟩ => by
    refine ⟨ρ, F, Rv, io, rel, ?_⟩
    unfold sRowSet at q
    cases e1 : se ρ with
    | stuck => rw [e1] at q; exact q.elim
    | exc x ρ' => rw [e1] at q; exact q
    | ok d ρ' =>
      rw [e1, R.bind_ok] at q
      intro v H' F' le rel' rv
      cases e2 : held ρ' i with
      | none => rw [e2] at q; exact q.elim
      | some d0 =>
        rw [e2] at q
        cases d0 with
        | tal d1 =>
          obtain ⟨p, ob, h1, h2, ⟨l, dx, x, rfl, rx⟩, h3⟩ := put_own (G := GK X ex) (d' := .tal d) rel' e2
          refine ⟨.ref p, h1, p, _, dx, _, rfl, h2, T.cl, T.nr, by simp, ?_⟩
          exact q σ _ F' le (h3 _ ⟨l, dx, v, by simp [putF], rv⟩)
        | _ => exact q.elim
def isTal : D → Option Bool
  | .tal _ => some true
  | d => if d.isFn = true then none else some false
def sIsT (s : SO) : SE := fun ρ => (s ρ).bind fun o ρ' => ofO (((o.get ρ').bind isTal).map D.bl) ρ'
theorem d_isT {q : Pos} (T : TalC X.K) (J : TalI X.K) (mT : X.mg "Tally" = some (.ref (TC X.K))) (hg : Gl X "isinstance") (hm : X.mg "isinstance" = none) (gt : Gl X "Tally") (ha : DO (GK X ex) X W a sa)
    (he : starEach (a :: (.Name "Tally" q) :: []) X.env = (false, eval a X.env) :: starEach ((.Name "Tally" q) :: []) X.env := by rfl) (hpl : (backTo pos (starEach ((.Name "Tally" q) :: []) X.env)).any (·.1) = false := by rfl) (hs2 : starEach ((.Name "Tally" q) :: []) X.env = (false, eval (.Name "Tally" q) X.env) :: starEach [] X.env := by rfl) :
    DE (GK X ex) X W (.Call (.Name "isinstance" p) (a :: (.Name "Tally" q) :: []) [] pos) (sIsT sa) :=
  wkE (isi_gl hg hm call_isi (pa_cons ha (pa_cons (pe_glob (v := .ref (TC X.K)) gt mT rfl (by decide)) pa_nil hs2) he) he hpl) fun σ H Q ⟨ρ, F, Rv, io, rel, q⟩ => by
    refine ⟨ρ, F, Rv, io, rel, ?_⟩
    unfold sIsT at q
    cases e1 : sa ρ with
    | stuck => rw [e1] at q; exact q.elim
    | exc x ρ' => rw [e1] at q; exact q
    | ok o ρ' =>
      rw [e1, R.bind_ok] at q
      intro v H' F' le rel' ok
      cases e2 : o.get ρ' with
      | none => rw [e2] at q; exact q.elim
      | some d =>
        rw [e2] at q
        have vw := rel'.view (G := GK X ex) ok e2
        cases d with
        | tal d =>
          obtain ⟨a, dx, x, rfl, ha, rx⟩ := vw.tal rel'.fH
          exact ⟨.ref a, .ref (TC X.K), .ref (TC X.K), .ref (TC X.K), true, rfl, .own _, .base (.ins ha T.cl J.ca J.cn J.ct J.cm), J.yes, q _ H' F' le rel' (.bl _)⟩
        | fn _ => exact q.elim
        | exn _ => exact q.elim
        | xv _ => exact q.elim
        | xm _ _ => exact q.elim
        | nd _ _ => exact q.elim
        | _ => exact ⟨v, .ref (TC X.K), _, .ref (TC X.K), false, rfl, .own _, ty_vw rel'.fH vw rfl, J.no rfl, q _ H' F' le rel' (.bl _)⟩
/-- a method that may be called -/
structure CalM (P : Program) (w : World) (K : PySem.W.Frag) (mg : Str → Option Value) (base : Heap) (m : Str) (k : Nat) (sp : Sp) : Prop where
  there : ∃ f fd ps, FnOk P w K mg base (L2N.CX P w) k f fd ps sp ∧ Meth K (TC K) m f ∧ Binds K fd ps []
theorem CalM.mono {P : Program} {w : World} {K : PySem.W.Frag} {mg : Str → Option Value} {base : Heap} {m : Str} {j k : Nat} {sp : Sp} (C : CalM P w K mg base m j sp) (h : j ≤ k) : CalM P w K mg base m k sp := by
  obtain ⟨f, fd, ps, F, r⟩ := C.there
  exact ⟨f, fd, ps, F.mono h, r⟩
/-- o.m(..), o frozen -/
def sMethP (n : Nat) (g : List D → FR) (so : SE) (sA : SA) : SE := fun ρ => (so ρ).bind fun x ρ1 => match x with
  | .tal d => (sA ρ1).bind fun ds ρ2 => if ds.length + 1 = n then endP (g (.tal d :: ds)) ρ2 else .stuck
  | _ => .stuck
variable {m : Str} {k n : Nat} {g : List D → FR}
theorem methP_core {σ : L2.St} {H : Hp} {Q : VK} {m : Str} (hm0 : (m == ("row" : Str)) = false) (h : tE (GK X ex) W (sMethP n g se sA) σ H Q) :
    tE (GK X ex) W se σ H fun x H1 => ∃ a dx fs, x = .ref a ∧ H1 a = some (.ins (TC X.K) dx fs) ∧ fs.lookup m = none ∧ tA (GK X ex) W sA σ H1 fun vs H2 => spP (GK X ex) n g (.ref a :: vs) H2 Q (WE W σ) := by
  obtain ⟨ρ, F, Rv, io, rel, q⟩ := h
  refine ⟨ρ, F, Rv, io, rel, ?_⟩
  unfold sMethP at q
  cases e1 : se ρ with
  | stuck => rw [e1] at q; exact q.elim
  | exc x ρ' => rw [e1] at q; exact q
  | ok x ρ1 =>
    rw [e1, R.bind_ok] at q
    intro v H1 F1 le rel1 rp
    cases x with
    | tal d =>
      simp only at q
      have rp' := rp
      cases rp with
      | tal t r =>
        refine ⟨_, _, _, rfl, rel1.fH _ _ t, by simp [List.lookup, hm0], ρ1, F1, Rv, io, rel1, ?_⟩
        cases e2 : sA ρ1 with
        | stuck => rw [e2] at q; exact q.elim
        | exc x ρ' => rw [e2] at q; exact XPost.le q le
        | ok ds ρ2 =>
          rw [e2, R.bind_ok] at q
          intro vs H2 F2 le2 rel2 rvs
          by_cases hn : ds.length + 1 = n
          · rw [if_pos hn] at q
            refine ⟨.tal d :: ds, F2, restOf F2 H2 none, by rw [List.length_cons, rvs.length]; exact hn, restOf_apart rel2 none, .cons (rp'.mono le2) rvs, ?_⟩
            cases e3 : g (.tal d :: ds) with
            | stuck => rw [e3] at q; exact q.elim
            | ok z o => rw [e3] at q; exact fun v H' F' le3 ap rp => q v H' F' ((le.trans le2).trans le3) (rel2.behind le3 ap) rp
            | exc x => rw [e3] at q; exact fun cls dd H' F' le3 ap xr => q cls dd σ H' F' ((le.trans le2).trans le3) (rel2.behind le3 ap) xr
          · rw [if_neg hn] at q; exact q.elim
    | _ => exact q.elim
theorem d_methP {pl : Sem Bool} (hu : At X W) (T : TalC X.K) (C : CalM X.prog X.w X.K X.mg X.base m k (spP (GK X ex) n g)) (hr : Room k X.A) (ho : DE (GK X ex) X W o se) (ha : DA (GK X ex) X W (e :: es) sA) (hm0 : (m == ("row" : Str)) = false := by decide)
    (hst : starEach (e :: es) X.env = (false, eval e X.env) :: starEach es X.env := by rfl) (hpl : (backTo pos (starEach es X.env)).any (·.1) = false := by rfl)
    (ht : eval (.Call (.Attribute o m apos) (e :: es) [] pos) X.env = (do
      let ov ← eval o X.env
      standAt apos.atName
      let (f, first) ← holding [ov] (getMethod ov m pl)
      callWith pos f first (backTo pos (starEach (e :: es) X.env)) (backToKw pos (keywordEach [] X.env))) := by rfl) :
    DE (GK X ex) X W (.Call (.Attribute o m apos) (e :: es) [] pos) (sMethP n g se sA) := ⟨fun pins s σ H Q I h => by
  obtain ⟨f, fd, ps, F, hm, hb⟩ := C.there
  refine PySem.W.methodCall_KW (pl := pl) (thn (ho.run pins s σ H _ I (methP_core hm0 h)) fun u s1 ⟨x, H1, I1, rx, a, dx, fs, ex, ea, l, q⟩ => ?_) ht
  subst ex
  obtain rfl : u = Value.ref a := rx
  refine getmeth_ok I1 ea T.cl hm l ?_
  refine PySem.W.callWith_K (first := [.ref a]) (h₀ := X.base) I.ok.mod.kin hm.kp (thn (ha.run pos pins s1 σ H1 _ I1 q) fun us s2 ⟨vs, H2, I2, r, q2⟩ => ⟨I2.kIn, ?_⟩) hst hpl
  exact run_fnS (us := .ref a :: us) (vs := .ref a :: vs) F hr hb (L2N.passAt hu.tk σ) I2 (.cons rfl r) q2⟩
end
section
variable {P : Program} {w : World} {K : PySem.W.Frag} {mg : Str → Option Value} {base : Heap}
/-- a method of the text as it stands -/
structure FnM (K : PySem.W.Frag) (m qual : Str) (st : Stmt) (ps : List Str) : Prop where
  there : ∃ f fd, Fun K m qual st f fd ∧ Meth K (TC K) m f ∧ Binds K fd ps []
theorem calM_P {m q : Str} {st : Stmt} {N ps : List Str} {k : Nat} {body : SS} (ea : String → Addr) (F : FnM K m q st ps) (S : FnScope N ps (defScope st))
    (h : ∀ (f : Addr) (cdv : Value) (A : Around) (outer : List PySem.Env) (s : Shared) (H : Hp) (E : XK), Room k (A.deeper (envOfC q (defScope st) s.heap.objs.size f cdv)) →
      DSs ⟨K, ⟨ea, []⟩⟩ (cxOf (L2N.CX P w) P w K mg base N q (defScope st) f cdv A outer s H E) (wE E) (defBody st) body) : CalM P w K mg base m (k + 1) (spP ⟨K, ⟨ea, []⟩⟩ ps.length (runP N.length ps.length body)) := by
  obtain ⟨f, fd, F, hm, hb⟩ := F.there
  exact ⟨f, fd, ps, d_defP ea F S (h f), hm, hb⟩
end
end Dt
set_option Elab.async false
set_option linter.all false
set_option maxRecDepth 100000
set_option maxHeartbeats 4000000
namespace Dt
open PySem PySem.Spec PyProof.Rows L2
variable [HW]
/-- what __init__ promises of a new instance -/
def spInit (G : Gx) (chk : D → FR) : Sp := fun vs H Q E => ∃ a dx v d F Rv, vs = [.ref a, v] ∧ Apart F Rv H ∧ F a = none ∧ Rv a = none ∧ H a = some (.ins (TC G.K) dx []) ∧ Rp G.K F v d ∧ match chk d with
  | .ok d' _ => ∀ x H' F', FLe F F' → Apart F' Rv H' → F' a = none → H' a = some (.ins (TC G.K) dx [("row", x)]) → Rp G.K F' x d' → Q .non H'
  | .exc y => ∀ cls dd H' F', FLe F F' → Apart F' Rv H' → XR G F' y cls dd H' → E cls dd H'
  | .stuck => False
section
variable {P : Program} {w : World} {K : PySem.W.Frag} {mg : Str → Option Value} {base : Heap}
theorem init_T {qual : Str} {params : Arguments} {bd : List Stmt} {scope : Scope} {dvs : List V} {f : Addr} {fd : FuncData} {s1 : Stmt} {p1 p2 p3 p4 : Pos} {k : Nat} {body : SS} {chk : D → FR} (ea : String → Addr) (T : TalC K)
    (F : FunD K "__init__" qual params bd scope dvs [] f fd) (S : FnScope ["self", "counter"] ["self", "counter"] scope) (hb : bd = [s1, .Assign [.Attribute (.Name "self" p1) "row" p2] (.Name "counter" p3) p4])
    (hc : ∀ a d, match chk d with | .ok d' _ => body [.fro (.exn a), .fro d] = .ok .nx [.fro (.exn a), .fro d'] | .exc x => ∃ ρ', body [.fro (.exn a), .fro d] = .exc x ρ' | .stuck => True)
    (h : ∀ (cdv : Value) (A : Around) (outer : List PySem.Env) (s : Shared) (H : Hp) (E : XK), Room k (A.deeper (envOfC qual scope s.heap.objs.size f cdv)) → DS ⟨K, ⟨ea, []⟩⟩ (cxOf (L2N.CX P w) P w K mg base ["self", "counter"] qual scope f cdv A outer s H E) (wE E) s1 body) :
    FnOk P w K mg base (L2N.CX P w) (k + 1) f fd ["self", "counter"] (spInit ⟨K, ⟨ea, []⟩⟩ chk) := by
  refine F.ok S (fun vs H Q E ⟨_, _, _, _, _, _, e, _⟩ => by rw [e]; rfl) fun cdv A outer s H vs Q E hr ⟨a, dx, v, d, F0, Rv, ev, ap, nF, nR, ha, rv, q⟩ => ?_
  subst ev
  subst hb
  have vis : ∀ x ∈ (["self", "counter"] : List Str), Vis (cxOf (L2N.CX P w) P w K mg base ["self", "counter"] qual scope f cdv A outer s H E).env.scope x := fun x hx => (S.par x hx).elim (fun z => .inl z) fun z => .inr (.inl z)
  refine ⟨_, pss_cons (h cdv A outer s H E hr) (pss_one (ps_fld (pe_var (i := 0) rfl (vis _ (.head _))) (pe_var (i := 1) rfl (vis _ (.tail _ (.head _)))) (by rfl))), ?_⟩
  have ap1 : Apart F0 (upd Rv a (.ins (TC K) dx [])) H := ⟨ap.f, fun b o e => by
    by_cases z : b = a
    · subst z; rw [upd_same] at e; cases e; exact ha
    · rw [upd_ne z] at e; exact ap.r b o e, fun b o e => by
    have z : b ≠ a := fun z => by subst z; rw [nF] at e; cases e
    rw [upd_ne z]; exact ap.d b o e, ap.nt⟩
  have rel := rel_start (m := 0) ap1 (Rps.cons (.exn a) (.cons rv .nil))
  have hc := hc a d
  refine ⟨_, F0, _, {}, rel, ?_⟩
  have back : ∀ {ρ' : Env} {σ' : L2.St} {H' F' : Hp}, Rel K ({} : Io []) (upd Rv a (.ins (TC K) dx [])) ρ' F' σ' H' → F' a = none ∧ H' a = some (.ins (TC K) dx []) ∧ Apart F' Rv H' := fun {ρ' σ' H' F'} r => by
    have n : F' a = none := by
      cases e : F' a with
      | none => rfl
      | some o => have z := r.dj a o e; rw [upd_same] at z; cases z
    refine ⟨n, r.rH a _ upd_same, r.fH, fun b o e => ?_, fun b o e => ?_, r.nt⟩
    · have z : b ≠ a := fun z => by subst z; rw [nR] at e; cases e
      exact r.rH b o (by rw [upd_ne z]; exact e)
    · have z : b ≠ a := fun z => by subst z; rw [n] at e; cases e
      have y := r.dj b o e
      rw [upd_ne z] at y
      exact y
  cases e1 : chk d with
  | stuck => rw [e1] at q; exact q.elim
  | exc x =>
    rw [e1] at q hc
    obtain ⟨ρ', e2⟩ := hc
    show SPost _ _ _ _ _ (body [.fro (.exn a), .fro d]) _
    rw [e2]
    exact fun cls dd σ' H' F' le r xr => q cls dd H' F' le (back r).2.2 xr
  | ok d' o =>
    rw [e1] at q hc
    show SPost _ _ _ _ _ (body [.fro (.exn a), .fro d]) _
    have hc : body [.fro (.exn a), .fro d] = .ok .nx [.fro (.exn a), .fro d'] := hc
    rw [hc]
    intro σ' H' F' le r
    obtain ⟨n1, n2, n3⟩ := back r
    obtain ⟨v0, s0, c0⟩ := r.slot (i := 0) rfl
    obtain ⟨v1, s1', c1⟩ := r.slot (i := 1) rfl
    obtain ⟨x0, rfl, r0⟩ := c0
    obtain ⟨x1, rfl, r1⟩ := c1
    cases r0
    refine ⟨x1, s1', .ref a, s0, a, _, dx, [], rfl, n2, T.cl, T.nr, by simp, ?_⟩
    refine q x1 _ F' le ⟨fun b o e => ?_, fun b o e => ?_, n3.d, n3.nt⟩ n1 upd_same r1
    · have z : b ≠ a := fun z => by subst z; rw [n1] at e; cases e
      rw [upd_ne z]; exact n3.f b o e
    · have z : b ≠ a := fun z => by subst z; rw [nR] at e; cases e
      rw [upd_ne z]; exact n3.r b o e
end
/-- the class can be made -/
structure TalMk (P : Program) (w : World) (K : PySem.W.Frag) (mg : Str → Option Value) (base : Heap) (k : Nat) (chk : D → FR) : Prop where
  there : ∃ fI fd, Mk K (TC K) fI ∧ FnOk P w K mg base (L2N.CX P w) k fI fd ["self", "counter"] (spInit ⟨K, ⟨exA K, []⟩⟩ chk) ∧ Binds K fd ["self", "counter"] [] ∧ ∃ ta ds, Vals [.ref ta] ds ∧ Binds K fd ["self", "counter"] ds ∧ EtC K ta
section
variable {X : Cx} {W : WX} {e : Expr} {p pos : Pos} {se : SE} {k : Nat} {chk : D → FR} {T : List (Addr × Str)}
theorem run_makeS {CX : CXT} {E : L2.St → XK} {C f : Addr} {fd : FuncData} {ps : List Str} {sp : Sp} {ds : List Value} {dvs : List V} {pins : List (Addr × Obj)} {σ : L2.St} {H : Hp} {s : Shared} {Q : VK} {us : List Value} {vs : List V} (M : Mk X.K C f) (F : FnOk X.prog X.w X.K X.mg X.base CX k f fd ps sp) (hr : Room (k + 1) X.A)
    (hb : Binds X.K fd ps ds) (hd : Vals dvs ds) (hx : PassesAt CX X σ (E σ)) (I : Inv X pins σ H s) (r : Vals vs us)
    (h : ∀ x dx, H x = none → H dx = none → dx ≠ x → sp (.ref x :: (vs ++ dvs)) (upd (upd H dx (.own x)) x (.ins C dx [])) (fun v H2 => v = .non ∧ Q (.ref x) H2) (E σ)) :
    wpAny (model X.prog X.w) X.A (call (.ref C) us) (EP X pins σ Q) X.xe s := by
  have hq := h (s.heap.objs.size + 1) s.heap.objs.size (I.hok.fresh (Nat.le_succ _)) (I.hok.fresh (Nat.le_refl _)) (Nat.ne_of_lt (Nat.lt_succ_self _))
  have I2 := Inv.made (C := C) I
  have r2 : Vals (V.ref (s.heap.objs.size + 1) :: (vs ++ dvs)) (Value.ref (s.heap.objs.size + 1) :: (us ++ ds)) := .cons rfl (r.append hd)
  have hl : (Value.ref (s.heap.objs.size + 1) :: us ++ ds).length = ps.length := by
    have e := r2.length
    rw [F.len _ _ _ _ hq] at e
    exact e.symm
  refine wpAny_call (make_map (f := f) I.kIn M.makes M.init (beq_iff_eq.mp M.fn) (codeAny_mono (F.run _ X.stack _ _ ⟨Value.ref (s.heap.objs.size + 1) :: us, []⟩ (Value.ref (s.heap.objs.size + 1) :: (us ++ ds)) _ _ (E σ) (hr.make C us [])
    (I2.env0.make C us []) (hb _ (Value.ref (s.heap.objs.size + 1) :: us) I2.kIn hl) r2 hq) fun r s' hq' => ?_))
  cases r with
  | error e => exact hx pins _ _ e s' I2 hq'
  | ok fl =>
    cases fl with
    | ret u =>
      obtain ⟨v, H', I3, rv, ev, q3⟩ := I2.after hq'
      subst ev
      exact ⟨rv, ⟨V.ref (s.heap.objs.size + 1), H', I3, rfl, q3⟩⟩
    | next => exact False.elim hq'
    | brk => exact False.elim hq'
    | cont => exact False.elim hq'
def sMkT (chk : D → FR) (s : SE) : SE := fun ρ => (s ρ).bind fun d ρ' => match chk d with
  | .ok d' _ => .ok (.tal d') ρ'
  | .exc x => .exc x ρ'
  | .stuck => .stuck
theorem Apart.lessR {F R R' H : Hp} (h : Apart F R' H) (le : FLe R R') : Apart F R H := ⟨h.f, fun a o e => h.r a o (le a o e), (fun a o e => le.noneOf (h.d a o e)), h.nt⟩
theorem mkT_core {ea : String → Addr} {σ : L2.St} {H : Hp} {Q : VK} (h : tF ⟨X.K, ⟨ea, T⟩⟩ W (sMkT chk se) σ H Q) :
    tE ⟨X.K, ⟨ea, T⟩⟩ W se σ H fun v H1 => ∀ x dx, H1 x = none → H1 dx = none → dx ≠ x → spInit ⟨X.K, ⟨ea, []⟩⟩ chk [.ref x, v] (upd (upd H1 dx (.own x)) x (.ins (TC X.K) dx [])) (fun z H2 => z = .non ∧ Q (.ref x) H2) (WE W σ) := by
  obtain ⟨ρ, F, Rv, io, rel, q⟩ := h
  refine ⟨ρ, F, Rv, io, rel, ?_⟩
  unfold sMkT at q
  cases e1 : se ρ with
  | stuck => rw [e1] at q; exact q.elim
  | exc x ρ' => rw [e1] at q; exact q
  | ok d ρ' =>
    rw [e1, R.bind_ok] at q
    intro v H1 F1 le rel1 rv x dx nx ndx nex
    have nx1 : upd H1 dx (.own x) x = none := by rw [upd_ne (fun z => nex z.symm)]; exact nx
    have rel2 := (rel1.newH ndx (.own x)).newH nx1 (.ins (TC X.K) dx [])
    have sub : FLe (restOf F1 H1 none) (restOf F1 (upd (upd H1 dx (.own x)) x (.ins (TC X.K) dx [])) (some x)) := fun b o e => by
      unfold restOf at e ⊢
      split at e
      · rename_i c
        have n1 : b ≠ x := fun z => by subst z; rw [nx] at e; cases e
        have n2 : b ≠ dx := fun z => by subst z; rw [ndx] at e; cases e
        rw [if_pos ⟨c.1, fun z => n1 (Option.some.inj z).symm⟩, upd_ne n1, upd_ne n2]
        exact e
      · cases e
    have nRx : restOf F1 (upd (upd H1 dx (.own x)) x (.ins (TC X.K) dx [])) (some x) x = none := by unfold restOf; rw [if_neg (fun z => z.2 rfl)]
    refine ⟨x, dx, v, d, F1, restOf F1 _ (some x), rfl, restOf_apart rel2 _, rel1.fH.noneOf nx, nRx, upd_same, rv, ?_⟩
    cases e2 : chk d with
    | stuck => rw [e2] at q; exact q.elim
    | exc y =>
      rw [e2] at q
      exact fun cls dd H' F' le2 ap xr => q cls dd σ H' F' (le.trans le2) (rel1.behind le2 (ap.lessR sub)) xr
    | ok d' o =>
      rw [e2] at q
      refine fun w H' F' le2 ap nF' ha' rp' => ⟨rfl, q x H' F' (le.trans le2) (rel1.behind le2 (ap.lessR sub)) ⟨nF', rel1.rH.noneOf nx, _, ha', ?_⟩ (rel1.loose nx)⟩
      exact ⟨rfl, dx, w, rfl, rp'⟩
theorem d_mkT (hu : At X W) (C : TalMk X.prog X.w X.K X.mg X.base k chk) (mT : X.mg "Tally" = some (.ref (TC X.K))) (hr : Room (k + 1) X.A) (hg : Gl X "Tally") (ha : DE (GK X ⟨exA X.K, T⟩) X W e se)
    (he : starEach (e :: []) X.env = (false, eval e X.env) :: starEach [] X.env := by rfl) (hpl : (backTo pos (starEach [] X.env)).any (·.1) = false := by rfl) : DF (GK X ⟨exA X.K, T⟩) X W (.Call (.Name "Tally" p) [e] [] pos) (sMkT chk se) := ⟨fun pins s σ H Q I h => by
  obtain ⟨fI, fd, M, F, hb, _⟩ := C.there
  refine wpAny_Call_Name_kw (ld_glob I hg mT ?_ (by decide))
  refine PySem.W.callWith_K (h₀ := X.base) I.ok.mod.kin M.kp (thn ((pa_cons ha pa_nil he).run pos pins s σ H (fun vs H1 => ∀ x dx, H1 x = none → H1 dx = none → dx ≠ x → spInit ⟨X.K, ⟨exA X.K, []⟩⟩ chk (.ref x :: vs) (upd (upd H1 dx (.own x)) x (.ins (TC X.K) dx [])) (fun z H2 => z = .non ∧ Q (.ref x) H2) (WE W σ)) I (mkT_core h)) fun us s1 ⟨vs, H1, I1, r, q⟩ => ⟨I1.kIn, ?_⟩) he hpl
  exact run_makeS (dvs := []) (ds := []) M F hr hb .nil (L2N.passAt hu.tk σ) I1 r (by simpa using q)⟩
theorem d_mkT0 (hu : At X W) (C : TalMk X.prog X.w X.K X.mg X.base k chk) (mT : X.mg "Tally" = some (.ref (TC X.K))) (hr : Room (k + 1) X.A) (hg : Gl X "Tally") : DF (GK X ⟨exA X.K, T⟩) X W (.Call (.Name "Tally" p) [] [] pos) (sMkT chk (sCst .etup)) := ⟨fun pins s σ H Q I h => by
  obtain ⟨fI, fd, M, F, _, ta, ds, hv, hb, hta⟩ := C.there
  refine wpAny_Call_Name_kw (ld_glob I hg mT ?_ (by decide))
  obtain ⟨ρ, F1, Rv, io, rel, q⟩ := mkT_core h
  have q := q (.ref ta) H F1 (FLe.refl _) rel (.etup hta)
  exact PySem.W.callWith_K0 I.kIn M.kp (run_makeS (us := []) (vs := []) M F hr hb hv (L2N.passAt hu.tk σ) I .nil q)⟩
/-- cls(e), cls a variable -/
def sMkV (i : Nat) (chk : D → FR) (s : SE) : SE := fun ρ => match ρ[i]? with
  | some (.fro (.fn nm)) => if nm = "Tally" then sMkT chk s ρ else .stuck
  | _ => .stuck
theorem d_mkV {x : Str} {i : Nat} (hu : At X W) (hN : X.N[i]? = some x) (hv : Vis X.env.scope x) (C : TalMk X.prog X.w X.K X.mg X.base k chk) (hr : Room (k + 1) X.A) (ha : DE (GK X ⟨exA X.K, T⟩) X W e se)
    (hdb : (x == ("__debug__" : Str)) = false := by decide) (hcd : (x == ("__classdict__" : Str)) = false := by decide)
    (he : starEach (e :: []) X.env = (false, eval e X.env) :: starEach [] X.env := by rfl) (hpl : (backTo pos (starEach [] X.env)).any (·.1) = false := by rfl) : DF (GK X ⟨exA X.K, T⟩) X W (.Call (.Name x p) [e] [] pos) (sMkV i chk se) := ⟨fun pins s σ H Q I h => by
  obtain ⟨fI, fd, M, F, hb, _⟩ := C.there
  obtain ⟨ρ, F1, Rv, io, rel, q⟩ := h
  unfold sMkV at q
  cases e1 : ρ[i]? with
  | none => rw [e1] at q; exact q.elim
  | some c =>
    rw [e1] at q
    cases c with
    | fro d => cases d with
      | fn nm =>
        simp only at q
        by_cases hn : nm = "Tally"
        · rw [if_pos hn] at q
          subst hn
          obtain ⟨v, es1, y, rfl, rp⟩ := rel.slot e1
          cases rp
          refine wpAny_Call_Name_kw (thn ((pe_var (pos := p) hN hv hdb hcd).run pins s σ H (fun v H1 => v = .ref (TC X.K) ∧ H1 = H) I ⟨_, es1, rfl, rfl⟩) fun u s1 ⟨v, H1, I1, r1, q1⟩ => ?_)
          obtain ⟨rfl, rfl⟩ := q1
          cases r1
          refine PySem.W.callWith_K (h₀ := X.base) I.ok.mod.kin M.kp (thn ((pa_cons ha pa_nil he).run pos pins s1 σ _ (fun vs H1 => ∀ x dx, H1 x = none → H1 dx = none → dx ≠ x → spInit ⟨X.K, ⟨exA X.K, []⟩⟩ chk (.ref x :: vs) (upd (upd H1 dx (.own x)) x (.ins (TC X.K) dx [])) (fun z H2 => z = .non ∧ Q (.ref x) H2) (WE W σ)) I1 (mkT_core ⟨ρ, F1, Rv, io, rel, q⟩)) fun us s2 ⟨vs, H2, I2, r, q⟩ => ⟨I2.kIn, ?_⟩) he hpl
          exact run_makeS (dvs := []) (ds := []) M F hr hb .nil (L2N.passAt hu.tk σ) I2 r (by simpa using q)
        · rw [if_neg hn] at q; exact q.elim
      | _ => exact q.elim
    | _ => exact q.elim⟩
end
end Dt
set_option Elab.async false
set_option linter.all false
set_option maxRecDepth 100000
set_option maxHeartbeats 4000000
namespace Dt
open PySem PySem.Spec PyProof.Rows L2
variable [HW]
/-- a classmethod that may be called -/
structure CalC (P : Program) (w : World) (K : PySem.W.Frag) (mg : Str → Option Value) (base : Heap) (m : Str) (k : Nat) (sp : Sp) : Prop where
  there : ∃ (mc : Value) (p g : Addr), ClX.CRead K (TC K) mc ∧ ClX.CMet K (TC K) mc m p g ∧ FnR P w K mg base (L2N.CX P w) k g sp
section
variable {ex : Exx} {X : Cx} {W : WX} {e : Expr} {es : List Expr} {p pos apos : Pos} {sA : SA} {m : Str} {k n : Nat} {g : List D → FR}
theorem run_cmS {E : L2.St → XK} {pins : List (Addr × Obj)} {σ : L2.St} {H : Hp} {s : Shared} {f C q : Addr} {sp : Sp} {Q : VK} {us : List Value} {vs : List V} (F : FnR X.prog X.w X.K X.mg X.base (L2N.CX X.prog X.w) k f sp) (hr : Room k X.A) (hx : PassesAt (L2N.CX X.prog X.w) X σ (E σ))
    (I : Inv X ((q, PySem.W.methodObj (.ref f) (.ref C)) :: pins) σ H s) (r : Vals vs us) (h : sp (.ref C :: vs) H Q (E σ)) : wpAny (model X.prog X.w) X.A (call (.ref q) us) (EP X pins σ Q) X.xe s := by
  have z : wpAny (model X.prog X.w) X.A (call (.ref q) us) (EP X ((q, PySem.W.methodObj (.ref f) (.ref C)) :: pins) σ Q) X.xe s := by
    refine wpAny_call (PySem.W.method_call (ClX.pin_at I) (codeAny_mono (F X.A X.stack s H (.ref C :: us) (.ref C :: vs) Q (E σ) hr I.env0 (.cons rfl r) h) fun r s' hq => ?_))
    cases r with
    | error e => exact hx _ H s e s' I hq
    | ok fl =>
      cases fl with
      | ret u => exact I.after hq
      | next => exact False.elim hq
      | brk => exact False.elim hq
      | cont => exact False.elim hq
  exact thn z fun _ _ y => ClX.unpinE y
def sCmT (n : Nat) (g : List D → FR) (s : SA) : SE := fun ρ => (s ρ).bind fun ds ρ' => if ds.length + 1 = n then endP (g (.fn "Tally" :: ds)) ρ' else .stuck
theorem cmT_core {σ : L2.St} {H : Hp} {Q : VK} (h : tE (GK X ex) W (sCmT n g sA) σ H Q) : tA (GK X ex) W sA σ H fun vs H2 => spP (GK X ex) n g (.ref (TC X.K) :: vs) H2 Q (WE W σ) := by
  obtain ⟨ρ, F, Rv, io, rel, q⟩ := h
  refine ⟨ρ, F, Rv, io, rel, ?_⟩
  unfold sCmT at q
  cases e2 : sA ρ with
  | stuck => rw [e2] at q; exact q.elim
  | exc x ρ' => rw [e2] at q; exact q
  | ok ds ρ2 =>
    rw [e2, R.bind_ok] at q
    intro vs H2 F2 le2 rel2 rvs
    by_cases hn : ds.length + 1 = n
    · rw [if_pos hn] at q
      refine ⟨.fn "Tally" :: ds, F2, restOf F2 H2 none, by rw [List.length_cons, rvs.length]; exact hn, restOf_apart rel2 none, .cons (.fn _) rvs, ?_⟩
      cases e3 : g (.fn "Tally" :: ds) with
      | stuck => rw [e3] at q; exact q.elim
      | ok z o => rw [e3] at q; exact fun v H' F' le3 ap rp => q v H' F' (le2.trans le3) (rel2.behind le3 ap) rp
      | exc x => rw [e3] at q; exact fun cls dd H' F' le3 ap xr => q cls dd σ H' F' (le2.trans le3) (rel2.behind le3 ap) xr
    · rw [if_neg hn] at q; exact q.elim
theorem d_cmeth {pl : Sem Bool} (hu : At X W) (C : CalC X.prog X.w X.K X.mg X.base m k (spP (GK X ex) n g)) (mT : X.mg "Tally" = some (.ref (TC X.K))) (hr : Room k X.A) (hg : Gl X "Tally") (ha : DA (GK X ex) X W (e :: es) sA)
    (hst : starEach (e :: es) X.env = (false, eval e X.env) :: starEach es X.env := by rfl) (hpl : (backTo pos (starEach es X.env)).any (·.1) = false := by rfl)
    (ht : eval (.Call (.Attribute (.Name "Tally" p) m apos) (e :: es) [] pos) X.env = (do
      let ov ← eval (.Name "Tally" p) X.env
      standAt apos.atName
      let (f, first) ← holding [ov] (getMethod ov m pl)
      callWith pos f first (backTo pos (starEach (e :: es) X.env)) (backToKw pos (keywordEach [] X.env))) := by rfl) :
    DE (GK X ex) X W (.Call (.Attribute (.Name "Tally" p) m apos) (e :: es) [] pos) (sCmT n g sA) := ⟨fun pins s σ H Q I h => by
  obtain ⟨mc, q0, f, r, c, F⟩ := C.there
  refine PySem.W.methodCall_KW (pl := pl) (thn ((pe_glob (pos := p) (v := .ref (TC X.K)) hg mT rfl (by decide)).run pins s σ H (fun v H1 => v = .ref (TC X.K) ∧ H1 = H) I ⟨rfl, rfl⟩) fun u s1 ⟨x, H1, I1, rx, ex, eH⟩ => ?_) ht
  subst ex
  subst eH
  obtain rfl : u = Value.ref (TC X.K) := rx
  refine ClX.getmethcm_ok I1 r c fun s2 I2 => ?_
  refine ClX.callwith_cm I2 (ClX.base_none I1 (Nat.le_refl _)) c.fi (thn (ha.run pos _ s2 σ _ _ I2 (cmT_core h)) fun us s3 ⟨vs, H2, I3, rv, q2⟩ => ⟨⟨ClX.pin_at I3, I3.kIn⟩, ?_⟩) hst hpl
  exact run_cmS (E := WE W) F hr (L2N.passAt hu.tk σ) I3 rv q2⟩
end
section
variable {P : Program} {w : World} {K : PySem.W.Frag} {mg : Str → Option Value} {base : Heap}
/-- a classmethod of the text as it stands -/
structure FnC (K : PySem.W.Frag) (m qual : Str) (st : Stmt) (ps : List Str) : Prop where
  there : ∃ (mc : Value) (p g : Addr) (fd : FuncData), ClX.CRead K (TC K) mc ∧ ClX.CMet K (TC K) mc m p g ∧ Fun K m qual st g fd ∧ Binds K fd ps []
theorem calC_P {m q : Str} {st : Stmt} {N ps : List Str} {k : Nat} {body : SS} (ea : String → Addr) (F : FnC K m q st ps) (S : FnScope N ps (defScope st))
    (h : ∀ (f : Addr) (cdv : Value) (A : Around) (outer : List PySem.Env) (s : Shared) (H : Hp) (E : XK), Room k (A.deeper (envOfC q (defScope st) s.heap.objs.size f cdv)) →
      DSs ⟨K, ⟨ea, []⟩⟩ (cxOf (L2N.CX P w) P w K mg base N q (defScope st) f cdv A outer s H E) (wE E) (defBody st) body) : CalC P w K mg base m (k + 1) (spP ⟨K, ⟨ea, []⟩⟩ ps.length (runP N.length ps.length body)) := by
  obtain ⟨mc, p, f, fd, r, c, F, hb⟩ := F.there
  exact ⟨mc, p, f, r, c, ((d_defP ea F S (h f)).raw hb .nil).imp fun vs H Q E z => by rw [List.append_nil]; exact z⟩
end
end Dt
set_option Elab.async false
set_option linter.all false
set_option maxRecDepth 100000
set_option maxHeartbeats 4000000
namespace Dt
open PySem PySem.Spec PyProof.Rows L2
variable [HW]
section
variable {P : Program} {w : World} {K : PySem.W.Frag} {mg : Str → Option Value} {base : Heap}
theorem funD_init {x qual : Str} {st : Stmt} {f T0 ta : Addr} {oc kV doc pm cd ct c1 : Value} {od an d1 : Option Addr} {osl s1 : Array (Option Value)} {n1 : Nat}
    (lk : K.lookup f = some ⟨oc, od, .func (PySem.W.fnOf x qual (defArgs st) (defBody st) (defScope st) (.ref T0) kV doc pm an cd ct), osl⟩) (hcd : PySem.W.codeIn K cd qual = true) (hk : PySem.W.keepIn K (.ref f) = true)
    (lT : K.lookup T0 = some ⟨c1, d1, .seq #[.ref ta] n1, s1⟩) : FunD K x qual (defArgs st) (defBody st) (defScope st) [.ref ta] [] f (PySem.W.fnOf x qual (defArgs st) (defBody st) (defScope st) (.ref T0) kV doc pm an cd ct) :=
  ⟨⟨oc, od, .ref T0, kV, doc, pm, an, cd, ct, osl, rfl, lk, hcd, .inr ⟨by simp, T0, _, [.ref ta], n1, rfl, lT, rfl, .cons rfl .nil⟩, .inl rfl⟩, hk⟩
theorem talMk_of {st s1 : Stmt} {f ta : Addr} {fd : FuncData} {p1 p2 p3 p4 : Pos} {k : Nat} {body : SS} {chk : D → FR} (T : TalC K) (M : Mk K (TC K) f) (FD : FunD K "__init__" "Tally.__init__" (defArgs st) (defBody st) (defScope st) [.ref ta] [] f fd)
    (S : FnScope ["self", "counter"] ["self", "counter"] (defScope st)) (hta : EtC K ta)
    (b2 : ∀ (T : Addr) (kV doc pm : Value) (an : Option Addr) (cdv ct : Value) (us its : List Value), us.length = 2 → its.length = 1 →
      ∃ k, bindArgs (PySem.W.fnOf "__init__" "Tally.__init__" (defArgs st) (defBody st) (defScope st) (.ref T) kV doc pm an cdv ct) ⟨us, []⟩ = seqItems? (.ref T) >>= k ∧ k (some its.toArray) = pure ((["self", "counter"] : List Str).zip (us ++ its.drop 1)))
    (b1 : ∀ (T : Addr) (kV doc pm : Value) (an : Option Addr) (cdv ct : Value) (us its : List Value), us.length = 1 → its.length = 1 →
      ∃ k, bindArgs (PySem.W.fnOf "__init__" "Tally.__init__" (defArgs st) (defBody st) (defScope st) (.ref T) kV doc pm an cdv ct) ⟨us, []⟩ = seqItems? (.ref T) >>= k ∧ k (some its.toArray) = pure ((["self", "counter"] : List Str).zip (us ++ its.drop 0)))
    (hb : defBody st = [s1, .Assign [.Attribute (.Name "self" p1) "row" p2] (.Name "counter" p3) p4])
    (hc : ∀ a d, match chk d with | .ok d' _ => body [.fro (.exn a), .fro d] = .ok .nx [.fro (.exn a), .fro d'] | .exc x => ∃ ρ', body [.fro (.exn a), .fro d] = .exc x ρ' | .stuck => True)
    (h : ∀ (cdv : Value) (A : Around) (outer : List PySem.Env) (s : Shared) (H : Hp) (E : XK), Room k (A.deeper (envOfC "Tally.__init__" (defScope st) s.heap.objs.size f cdv)) → DS ⟨K, ⟨exA K, []⟩⟩ (cxOf (L2N.CX P w) P w K mg base ["self", "counter"] "Tally.__init__" (defScope st) f cdv A outer s H E) (wE E) s1 body) :
    TalMk P w K mg base (k + 1) chk := by
  obtain ⟨d2, r2, B2⟩ := FD.binds1 (ps := ["self", "counter"]) 2 1 (by simp) rfl b2
  obtain ⟨d1, r1, B1⟩ := FD.binds1 (ps := ["self", "counter"]) 1 0 (by simp) rfl b1
  cases r2
  exact ⟨f, fd, M, init_T (exA K) T FD S hb hc h, B2, ta, d1, r1, B1, hta⟩
end
/-- its place among the types, the class at C -/
structure TalIA (K : PySem.W.Frag) (C : Addr) : Prop where
  ca : PySem.W.findIn K (.ref C) "__class__" = some (some (.builtin "object.__class__"))
  cn : PySem.W.specialIn K (.builtin "object.__class__") "__get__" = some (some (.builtin "getset_descriptor.__get__"))
  ct : PySem.W.takesIn K (.builtin "object.__class__") = some true
  cm : PySem.W.mroIn K C (.type "object") = some true
  yes : PySem.W.kitOne K (.ref C) (.ref C) = some true
  n1 : PySem.W.kitOne K (.type "NoneType") (.ref C) = some false
  n2 : PySem.W.kitOne K (.type "bool") (.ref C) = some false
  n3 : PySem.W.kitOne K (.type "int") (.ref C) = some false
  n4 : PySem.W.kitOne K (.type "str") (.ref C) = some false
  n5 : PySem.W.kitOne K (.type "tuple") (.ref C) = some false
  n6 : PySem.W.kitOne K (.type "list") (.ref C) = some false
  n7 : PySem.W.kitOne K (.type "dict") (.ref C) = some false
theorem TalIA.to {K : PySem.W.Frag} {C : Addr} (h : TalIA K C) (e : TC K = C) : TalI K := by
  subst e
  exact ⟨h.ca, h.cn, h.ct, h.cm, h.yes, h.n1, h.n2, h.n3, h.n4, h.n5, h.n6, h.n7⟩
/-- reading and storing, the class at C -/
structure TalCA (K : PySem.W.Frag) (C : Addr) : Prop where
  pg : PySem.W.plainGet K C Str.empty = true
  hd : PySem.W.hasDictIn K C = true
  po : PySem.W.plainOver K C = true
  sa : PySem.W.findIn K (.ref C) "__setattr__" = some (some (.builtin "object.__setattr__"))
  nr : PySem.W.findIn K (.ref C) "row" = some none
theorem TalCA.to {K : PySem.W.Frag} {C : Addr} (h : TalCA K C) (e : TC K = C) : TalC K := by
  subst e
  exact ⟨⟨h.pg, h.hd, h.po, h.sa⟩, h.nr⟩
end Dt
set_option Elab.async false
set_option linter.all false
set_option maxRecDepth 100000
set_option maxHeartbeats 4000000
namespace Lw
open PySem PySem.Spec PyProof.Rows L2 Dt
noncomputable section
def top (i : Nat) : Stmt := PySem.Challenge.pw_countersums_k31_whole_names_of_refusals.main.body.getD i (.Pass ⟨0, 0, 0, 0⟩)
def wdX : Exn → Option D := fun x => if x.cls = "NoCounter" then some (.str "counter") else if x.cls = "NoNumber" then some (.str "number") else if x.cls = "NoName" then some (.str "name") else if x.cls = "NoText" then some (.str "text") else if x.cls = "NoSystem" then some (.str "system") else if x.cls = "NoScript" then some (.str "script") else if x.cls = "NoExpression" then some (.str "expression") else if x.cls = "NoCounters" then some (.str "counters") else if x.cls = "TooMany" then some (.str "many") else if x.cls = "NoWay" then some (.str "way") else none
def tbX (j : Nat) : Str → Option Bool := fun c => if c = "NoCounter" then some (decide (j = 0 ∨ 10 ≤ j)) else if c = "NoCounters" then some (decide (j = 1 ∨ 10 ≤ j)) else if c = "NoExpression" then some (decide (j = 2 ∨ 10 ≤ j)) else if c = "NoScript" then some (decide (j = 3 ∨ 10 ≤ j)) else if c = "NoSystem" then some (decide (j = 4 ∨ 10 ≤ j)) else if c = "NoName" then some (decide (j = 5 ∨ 10 ≤ j)) else if c = "NoNumber" then some (decide (j = 6 ∨ 10 ≤ j)) else if c = "NoWay" then some (decide (j = 7 ∨ 10 ≤ j)) else if c = "NoText" then some (decide (j = 8 ∨ 10 ≤ j)) else if c = "TooMany" then some (decide (j = 9 ∨ 10 ≤ j)) else none
abbrev st_is_name : Stmt := top 16
theorem sc_is_name : FnScope ["thing", "sign"] ["thing"] (defScope st_is_name) := ⟨rfl, rfl, rfl, by decide +kernel, rfl, by decide +kernel, by decide +kernel⟩
def c0_is_name : SE := sComp [1] (iAny (sVar 0)) (gSet 1) tT1 (sOps gIn (b2 (sLoc 1) (sVal (sCst (.str "abcdefghijklmnopqrstuvwxyz")))))
def b_is_name : SS := (sRet (sAnd (sIsi ["str"] (sLoc 0)) (sAnd (sChain gLe gLe (sVal (sCst (.int 1))) (sVal (sOps gLen (bCons (sLoc 0) bNil))) (sVal (sCst (.int 8)))) (sOps gAll (bCons (sVal c0_is_name) bNil)))))
def m_is_name : List D → FR := runP 2 1 b_is_name
abbrev st_is_integer : Stmt := top 15
theorem sc_is_integer : FnScope ["thing"] ["thing"] (defScope st_is_integer) := ⟨rfl, rfl, rfl, by decide +kernel, rfl, by decide +kernel, by decide +kernel⟩
def b_is_integer : SS := (sRet (sAnd (sIsi ["int"] (sLoc 0)) (sNot (sVal (sIsi ["bool"] (sLoc 0))))))
def m_is_integer : List D → FR := runP 1 1 b_is_integer
abbrev st_is_counter : Stmt := top 17
theorem sc_is_counter : FnScope ["thing", "part"] ["thing"] (defScope st_is_counter) := ⟨rfl, rfl, rfl, by decide +kernel, rfl, by decide +kernel, by decide +kernel⟩
def t0_is_counter : SS := (sIfS (tOrS (tNotS (sTru (sVal (sIsi ["tuple"] (sLoc 1))))) (tOrS (sTst (sOps gNe (b2 (sVal (sOps gLen (bCons (sLoc 1) bNil))) (sVal (sCst (.int 2)))))) (tOrS (tNotS (sTru (sVal (sCallP 1 (m_is_name) (sCons (sOps gIdx (b2 (sLoc 1) (sVal (sCst (.int 0))))) sNil))))) (tNotS (sTru (sVal (sCallP 1 (m_is_integer) (sCons (sOps gIdx (b2 (sLoc 1) (sVal (sCst (.int 1))))) sNil)))))))) (sRet (sCst (.bl false))) sNx)
def l0_is_counter : SS := sFor (iAny (sVar 0)) (gSet 1) t0_is_counter
def c0_is_counter : SE := sDComp [1] (iAny (sVar 0)) (gSet 1) tT1 (sOps gIdx (b2 (sLoc 1) (sVal (sCst (.int 0))))) (sCst (.bl true))
def b_is_counter : SS := (sSeq (sIfS (tNotS (sTru (sVal (sIsi ["tuple"] (sLoc 0))))) (sRet (sCst (.bl false))) sNx)
  (sSeq l0_is_counter
  (sRet (sOps gEq (b2 (sVal (sOps gLen (bCons (sVal c0_is_counter) bNil))) (sVal (sOps gLen (bCons (sLoc 0) bNil))))))))
def m_is_counter : List D → FR := runP 2 1 b_is_counter
abbrev st_T___init__ : Stmt := (clsBody (top 50)).getD 0 (.Pass ⟨0, 0, 0, 0⟩)
theorem sc_T___init__ : FnScope ["self", "counter"] ["self", "counter"] (defScope st_T___init__) := ⟨rfl, rfl, rfl, by decide +kernel, rfl, by decide +kernel, by decide +kernel⟩
def b_T___init__ : SS := (sIfS (tNotS (sTru (sVal (sCallP 1 (m_is_counter) (sCons (sVar 1) sNil))))) (sRaise "NoCounter") sNx)
def m_T___init__ : D → FR := fun d => match m_is_counter [d] with
  | .ok (.bl true) _ => .ok d []
  | .ok (.bl false) _ => .exc ⟨"NoCounter", .non⟩
  | _ => .stuck
abbrev st_L_draw : Stmt := top 55
theorem sc_L_draw : FnScope ["_law_tape", "_law_many", "_law_prime", "_law_found", "_law_cell"] ["_law_tape", "_law_many"] (defScope st_L_draw) := ⟨rfl, rfl, rfl, by decide +kernel, rfl, by decide +kernel, by decide +kernel⟩
def u0_L_draw : SS := (sSeq (sAsg (gSet 4) (sOps gMod (b2 (sVal (sOps gInt (bCons (sVal (sOps gAdd (b2 (sLoc 4) (sVal (sOps gMul (b2 (sVal (sCst (.int 1000003))) (sVal (sOps gIdx (b2 (sLoc 0) (sVal (sCst (.int 1)))))))))))) bNil))) (sLoc 2))))
  (sSeq (sAsg (gSet 4) (sOps gMod (b2 (sVal (sOps gInt (bCons (sVal (sOps gAdd (b2 (sVal (sOps gAdd (b2 (sVal (sOps gMul (b2 (sLoc 4) (sLoc 4)))) (sVal (sOps gMul (b2 (sVal (sCst (.int 1181783497276652981))) (sLoc 4))))))) (sVal (sCst (.int 2049848353892358983)))))) bNil))) (sLoc 2))))
  (sAsg (gSet 4) (sOps gMod (b2 (sVal (sOps gInt (bCons (sVal (sOps gAdd (b2 (sVal (sOps gMul (b2 (sLoc 4) (sLoc 4)))) (sVal (sCst (.int 1442695040888963407)))))) bNil))) (sLoc 2))))))
def u1_L_draw : SS := (sSeq (sAsg (gSet 4) (sCst (.int 0)))
  (sSeq (sIfS (sTst (sOps gGt (b2 (sVal (sOps gLen (bCons (sVal (sOps gIdx (b2 (sLoc 0) (sVal (sCst (.int 0)))))) bNil))) (sVal (sCst (.int 0)))))) (sAsg (gSet 4) (sOps gIdx (b2 (sVal (sOps gIdx (b2 (sLoc 0) (sVal (sCst (.int 0)))))) (sVal (sOps gMod (b2 (sVal (sOps gInt (bCons (sVal (sOps gIdx (b2 (sLoc 0) (sVal (sCst (.int 1)))))) bNil))) (sVal (sOps gLen (bCons (sVal (sOps gIdx (b2 (sLoc 0) (sVal (sCst (.int 0)))))) bNil))))))))) sNx)
  (sSeq (sIfS (tOrS (sTst (sOps gGe (b2 (sVal (sOps gIdx (b2 (sLoc 0) (sVal (sCst (.int 1)))))) (sVal (sOps gLen (bCons (sVal (sOps gIdx (b2 (sLoc 0) (sVal (sCst (.int 0)))))) bNil)))))) (sTst (sOps gLt (b2 (sLoc 4) (sVal (sOps gPow (b2 (sVal (sCst (.int 10))) (sVal (sCst (.int 18)))))))))) u0_L_draw sNx)
  (sSeq (sAsg (gPut 0 (sVal (sCst (.int 1)))) (sOps gAdd (b2 (sVal (sOps gIdx (b2 (sLoc 0) (sVal (sCst (.int 1)))))) (sVal (sCst (.int 1))))))
  (sAsg (gPut 0 (sVal (sCst (.int 2)))) (sVar 4))))))
def b_L_draw : SS := (sSeq (sAsg (gSet 2) (sCst (.int 2305843009213693951)))
  (sSeq (sIfS (sTst (sOps gLt (b2 (sVal (sOps gIdx (b2 (sLoc 0) (sVal (sCst (.int 2)))))) (sLoc 1)))) u1_L_draw sNx)
  (sSeq (sAsg (gSet 3) (sOps gMod (b2 (sVal (sOps gInt (bCons (sVal (sOps gIdx (b2 (sLoc 0) (sVal (sCst (.int 2)))))) bNil))) (sLoc 1))))
  (sSeq (sAsg (gPut 0 (sVal (sCst (.int 2)))) (sOps gDiv (b2 (sVal (sOps gIdx (b2 (sLoc 0) (sVal (sCst (.int 2)))))) (sLoc 1))))
  (sRet (sVar 3))))))
def m_L_draw : List D → FR := runI 5 2 b_L_draw
abbrev st_L_near : Stmt := top 56
theorem sc_L_near : FnScope ["_law_tape", "_law_wide"] ["_law_tape", "_law_wide"] (defScope st_L_near) := ⟨rfl, rfl, rfl, by decide +kernel, rfl, by decide +kernel, by decide +kernel⟩
def b_L_near : SS := (sRet (sOps gSub (b2 (sVal (sCallI 0 2 (m_L_draw) (sCons (sOps gAdd (b2 (sVal (sOps gMul (b2 (sVal (sCst (.int 2))) (sLoc 1)))) (sVal (sCst (.int 1))))) sNil))) (sLoc 1))))
def m_L_near : List D → FR := runI 2 2 b_L_near
abbrev st_L_wordv : Stmt := top 58
theorem sc_L_wordv : FnScope ["_law_e", "_law_some", "_law_named", "_law_word_here", "_law_there"] ["_law_e"] (defScope st_L_wordv) := ⟨rfl, rfl, rfl, by decide +kernel, rfl, by decide +kernel, by decide +kernel⟩
def c0_L_wordv : SE := sComp [3, 4] (iZipX (sCons (sVar 2) (sCons (sVar 1) sNil))) (gTup' 2 (gC (gSet 3) (gC (gSet 4) gN))) (sTru (sLoc 4)) (sVar 3)
def b_L_wordv : SS := (sSeq (sAsg (gOwn 1) (sLst (sCons (sIsX (tbX 0) (sVar 0)) (sCons (sIsX (tbX 1) (sVar 0)) (sCons (sIsX (tbX 2) (sVar 0)) (sCons (sIsX (tbX 3) (sVar 0)) sNil))))))
  (sSeq (sAsg (gSet 1) (sOps gAdd (b2 (sLoc 1) (sVal (sLst (sCons (sIsX (tbX 4) (sVar 0)) (sCons (sIsX (tbX 5) (sVar 0)) (sCons (sIsX (tbX 6) (sVar 0)) (sCons (sIsX (tbX 7) (sVar 0)) sNil)))))))))
  (sSeq (sAsg (gSet 1) (sOps gAdd (b2 (sLoc 1) (sVal (sLst (sCons (sIsX (tbX 8) (sVar 0)) (sCons (sIsX (tbX 9) (sVar 0)) sNil)))))))
  (sSeq (sAsg (gOwn 2) (sLst (sCons (sCst (.str "counter")) (sCons (sCst (.str "counters")) (sCons (sCst (.str "expression")) (sCons (sCst (.str "script")) (sCons (sCst (.str "system")) (sCons (sCst (.str "name")) (sCons (sCst (.str "number")) (sCons (sCst (.str "way")) (sCons (sCst (.str "text")) (sCons (sCst (.str "many")) sNil))))))))))))
  (sRet (sJoin (sCst (.str "")) c0_L_wordv))))))
def m_L_wordv : List D → FR := runP 5 1 b_L_wordv
abbrev st_one_count : Stmt := top 18
theorem sc_one_count : FnScope ["way", "count", "other", "sign", "first", "second", "found"] ["way", "count", "other"] (defScope st_one_count) := ⟨rfl, rfl, rfl, by decide +kernel, rfl, by decide +kernel, by decide +kernel⟩
def i0_one_count : SS := sIfS (sTst (sOps gEq (b2 (sLoc 0) (sVal (sCst (.str "add")))))) (sAsg (gSet 6) (sOps gAdd (b2 (sLoc 4) (sLoc 5)))) (sIfS (sTst (sOps gEq (b2 (sLoc 0) (sVal (sCst (.str "less")))))) (sAsg (gSet 6) (sOps gSub (b2 (sLoc 4) (sLoc 5)))) (sAsg (gSet 6) (sIf (sTst (sOps gEq (b2 (sLoc 0) (sVal (sCst (.str "most")))))) (sOps gMax2 (bCons (sLoc 4) (bCons (sLoc 5) bNil))) (sOps gMin2 (bCons (sLoc 4) (bCons (sLoc 5) bNil))))))
def b_one_count : SS := (sSeq (sIfS (tAndS (sTst (sOps gIs (b2 (sLoc 1) (sVal (sCst .non))))) (sTst (sOps gIs (b2 (sLoc 2) (sVal (sCst .non)))))) (sRet (sCst .non)) sNx)
  (sSeq (sIfS (tOrS (sTst (sOps gEq (b2 (sLoc 0) (sVal (sCst (.str "update")))))) (sTst (sOps gEq (b2 (sLoc 0) (sVal (sCst (.str "subtract"))))))) (sSeq (sAsg (gSet 3) (sIf (sTst (sOps gEq (b2 (sLoc 0) (sVal (sCst (.str "update")))))) (sCst (.int 1)) (sOps gNeg (b1 (sVal (sCst (.int 1)))))))
  (sRet (sOps gAdd (b2 (sVal (sIf (sTst (sOps gIs (b2 (sLoc 1) (sVal (sCst .non))))) (sCst (.int 0)) (sVar 1))) (sVal (sOps gMul (b2 (sLoc 3) (sVal (sIf (sTst (sOps gIs (b2 (sLoc 2) (sVal (sCst .non))))) (sCst (.int 0)) (sVar 2)))))))))) sNx)
  (sSeq (sIfS (tAndS (sTst (sOps gEq (b2 (sLoc 0) (sVal (sCst (.str "least")))))) (sTst (sOps gIs (b2 (sLoc 1) (sVal (sCst .non)))))) (sRet (sCst .non)) sNx)
  (sSeq (sPar 4 5 (sCons (sIf (sTst (sOps gIs (b2 (sLoc 1) (sVal (sCst .non))))) (sCst (.int 0)) (sVar 1)) (sCons (sIf (sTst (sOps gIs (b2 (sLoc 2) (sVal (sCst .non))))) (sCst (.int 0)) (sVar 2)) sNil)))
  (sSeq i0_one_count
  (sRet (sIf (sTst (sOps gGt (b2 (sLoc 6) (sVal (sCst (.int 0)))))) (sVar 6) (sCst .non))))))))
def m_one_count : List D → FR := runP 7 3 b_one_count
abbrev st_joined : Stmt := top 19
theorem sc_joined : FnScope ["way", "one", "other", "found", "key", "counts", "others", "count"] ["way", "one", "other"] (defScope st_joined) := ⟨rfl, rfl, rfl, by decide +kernel, rfl, by decide +kernel, by decide +kernel⟩
def c0_joined : SE := sComp [4] (iAny (sVar 6)) (gSet 4) (sTst (sOps gNotIn (b2 (sLoc 4) (sLoc 5)))) (sVar 4)
def t0_joined : SS := (sSeq (sAsg (gSet 7) (sCallP 3 (m_one_count) (sCons (sVar 0) (sCons (sGet1 (sLoc 5) (sVar 4)) (sCons (sGet1 (sLoc 6) (sVar 4)) sNil)))))
  (sIfS (sTst (sOps gIsNot (b2 (sLoc 7) (sVal (sCst .non))))) (sExpr (sMut 3 mAppend (sCons (sTup (sCons (sVar 4) (sCons (sVar 7) sNil))) sNil))) sNx))
def l0_joined : SS := sFor (iAny (sOps gAdd (b2 (sVal (sOps gList (bCons (sLoc 5) bNil))) (sVal c0_joined)))) (gSet 4) t0_joined
def b_joined : SS := (sSeq (sAsg (gTup' 2 (gC (gSet 5) (gC (gSet 6) gN))) (sTup (sCons (sOps gDict (bCons (sLoc 1) bNil)) (sCons (sOps gDict (bCons (sLoc 2) bNil)) sNil))))
  (sSeq (sAsg (gOwn 3) (sLst sNil))
  (sSeq l0_joined
  (sRet (sOps gTuple (bCons (sLoc 3) bNil))))))
def m_joined : List D → FR := runP 8 3 b_joined
abbrev st_looked : Stmt := top 53
theorem sc_looked : FnScope ["other"] ["other"] (defScope st_looked) := ⟨rfl, rfl, rfl, by decide +kernel, rfl, by decide +kernel, by decide +kernel⟩
def b_looked : SS := (sSeq (sIfS (tNotS (sTru (sVal (sIsT (sLoc 0))))) (sRaise "NoCounter") sNx)
  (sRet (sRow (sLoc 0))))
def m_looked : List D → FR := runP 1 1 b_looked
abbrev st_T_update : Stmt := (clsBody (top 50)).getD 4 (.Pass ⟨0, 0, 0, 0⟩)
theorem sc_T_update : FnScope ["self", "other"] ["self", "other"] (defScope st_T_update) := ⟨rfl, rfl, rfl, by decide +kernel, rfl, by decide +kernel, by decide +kernel⟩
def b_T_update : SS := (sRowSet 0 (sCallP 3 (m_joined) (sCons (sCst (.str "update")) (sCons (sRow (sLoc 0)) (sCons (sCallP 1 (m_looked) (sCons (sVar 1) sNil)) sNil)))))
def m_T_update : List D → FR := runP 2 2 b_T_update
abbrev st_T_most_common : Stmt := (clsBody (top 50)).getD 6 (.Pass ⟨0, 0, 0, 0⟩)
theorem sc_T_most_common : FnScope ["self", "many"] ["self", "many"] (defScope st_T_most_common) := ⟨rfl, rfl, rfl, by decide +kernel, rfl, by decide +kernel, by decide +kernel⟩
def b_T_most_common : SS := (sSeq (sIfS (tOrS (tNotS (sTru (sVal (sCallP 1 (m_is_integer) (sCons (sVar 1) sNil))))) (sTst (sOps gLt (b2 (sLoc 1) (sVal (sCst (.int 0))))))) (sRaise "NoNumber") sNx)
  sNever)
def m_T_most_common : List D → FR := runP 2 2 b_T_most_common
abbrev st_T_of : Stmt := (clsBody (top 50)).getD 1 (.Pass ⟨0, 0, 0, 0⟩)
theorem sc_T_of : FnScope ["cls", "names", "found", "name"] ["cls", "names"] (defScope st_T_of) := ⟨rfl, rfl, rfl, by decide +kernel, rfl, by decide +kernel, by decide +kernel⟩
def c0_T_of : SE := sComp [3] (iAny (sVar 1)) (gSet 3) tT1 (sCallP 1 (m_is_name) (sCons (sVar 3) sNil))
def t0_T_of : SS := (sAsg (gPut 2 (sLoc 3)) (sOps gAdd (b2 (sVal (sGet2 (sLoc 2) (sVar 3) (sCst (.int 0)))) (sVal (sCst (.int 1))))))
def l0_T_of : SS := sFor (iAny (sVar 1)) (gSet 3) t0_T_of
def b_T_of : SS := (sSeq (sIfS (tOrS (tNotS (sTru (sVal (sIsi ["list", "tuple"] (sLoc 1))))) (tNotS (sTru (sVal (sOps gAll (bCons (sVal c0_T_of) bNil)))))) (sRaise "NoName") sNx)
  (sSeq (sAsg (gOwn 2) (sCst (.dct [] [])))
  (sSeq l0_T_of
  (sRet (sMkV 0 m_T___init__ (sOps gTupItems (b1 (sLoc 2))))))))
def m_T_of : List D → FR := runP 4 2 b_T_of
abbrev st_read_script : Stmt := top 48
theorem sc_read_script : FnScope ["text", "found", "line", "step"] ["text"] (defScope st_read_script) := ⟨rfl, rfl, rfl, by decide +kernel, rfl, by decide +kernel, by decide +kernel⟩
def b_read_script : SS := (sSeq (sIfS (tNotS (sTru (sVal (sIsi ["str"] (sLoc 0))))) (sRaise "NoText") sNx)
  (sSeq sNever
  (sSeq sNever
  sNever)))
def m_read_script : List D → FR := runP 4 1 b_read_script
abbrev st_law : Stmt := top 59
theorem sc_law : FnScope ["_law_script", "_law_tape", "_law_number", "_law_rows", "_law_due", "_law_tally", "_law_told", "_law_e"] ["_law_script"] (defScope st_law) := ⟨rfl, rfl, rfl, by decide +kernel, rfl, by decide +kernel, by decide +kernel⟩
def c0_law : SE := sComp [7] (iAny (sVar 3)) (gSet 7) tT1 (sCallP 1 (m_L_wordv) (sCons (sVar 7) sNil))
def c1_law : SE := sComp [7] (iAny (sVar 3)) (gSet 7) (tOrS (tNotS (sTru (sVal (sIsX (tbX 10) (sVar 7))))) (tNotS (sTru (sVal (sIsX (tbX 11) (sVar 7)))))) (sVar 7)
def e0_law : SE := (sMkT m_T___init__ (sCst (.int 5)))
def e1_law : SE := (sMethP 2 m_T_update (sVar 5) (sCons (sCst .non) sNil))
def e2_law : SE := (sMethP 2 m_T_most_common (sVar 5) (sCons (sOps gNeg (b1 (sVal (sCst (.int 1))))) sNil))
def e3_law : SE := (sCmT 2 m_T_of (sCons (sLst (sCons (sCst (.int 1)) sNil)) sNil))
def e4_law : SE := (sCallP 1 (m_read_script) (sCons (sCst .non) sNil))
def b_law : SS := (sSeq (sAsg (gOwn 1) (sLst (sCons (sOps gList (bCons (sLoc 0) bNil)) (sCons (sCst (.int 0)) (sCons (sCst (.int 0)) sNil)))))
  (sSeq (sAsg (gSet 2) (sCallI 1 2 (m_L_near) (sCons (sOps gPow (b2 (sVal (sCst (.int 10))) (sVal (sCst (.int 30))))) sNil)))
  (sSeq (sAsg (gOwn 3) (sLst (sCons (sXv "NoCounter") (sCons (sXv "NoCounters") (sCons (sXv "NoExpression") (sCons (sXv "NoScript") (sCons (sXv "NoSystem") (sCons (sXv "NoName") sNil))))))))
  (sSeq (sAsg (gSet 3) (sOps gAdd (b2 (sLoc 3) (sVal (sLst (sCons (sXv "NoNumber") (sCons (sXv "NoWay") (sCons (sXv "NoText") (sCons (sXmA "TooMany" 10 (sVar 2)) sNil)))))))))
  (sSeq (sAsg (gOwn 4) (sLst (sCons (sCst (.str "counter")) (sCons (sCst (.str "counters")) (sCons (sCst (.str "expression")) (sCons (sCst (.str "script")) (sCons (sCst (.str "system")) (sCons (sCst (.str "name")) (sCons (sCst (.str "number")) (sCons (sCst (.str "way")) (sCons (sCst (.str "text")) (sCons (sCst (.str "many")) sNil))))))))))))
  (sSeq (sIfS (tOrS (sTst (sOps gNe (b2 (sVal c0_law) (sLoc 4)))) (sTst (sOps gNe (b2 (sVal (sXMost ["TooMany"] (sOps gIdx (b2 (sLoc 3) (sVal (sOps gNeg (b1 (sVal (sCst (.int 1)))))))))) (sLoc 2))))) (sRet (sCst (.bl false))) sNx)
  (sSeq (sIfS (sTst (sOps gNe (b2 (sVal c1_law) (sVal (sLst sNil))))) (sRet (sCst (.bl false))) sNx)
  (sSeq (sAsg (gSet 5) (sMkT m_T___init__ (sCst .etup)))
  (sSeq (sAsg (gOwn 6) (sLst (sCons (sTried wdX e0_law) sNil)))
  (sSeq (sExpr (sMut 6 mAppend (sCons (sTried wdX e1_law) sNil)))
  (sSeq (sExpr (sMut 6 mAppend (sCons (sTried wdX e2_law) sNil)))
  (sSeq (sExpr (sMut 6 mAppend (sCons (sTried wdX e3_law) sNil)))
  (sSeq (sExpr (sMut 6 mAppend (sCons (sTried wdX e4_law) sNil)))
  (sRet (sOps gEq (b2 (sLoc 6) (sVal (sLst (sCons (sCst (.str "counter")) (sCons (sCst (.str "counter")) (sCons (sCst (.str "number")) (sCons (sCst (.str "name")) (sCons (sCst (.str "text")) sNil)))))))))))))))))))))))
def m_law : List D → FR := runP 8 1 b_law
abbrev st_TooMany : Stmt := (clsBody (top 12)).getD 0 (.Pass ⟨0, 0, 0, 0⟩)
theorem is_TooMany : InitSt st_TooMany "more than " := ⟨NdefX.nscope_by (by decide +kernel), rfl, fun _ _ _ _ _ _ _ _ us hl => match us, hl with | [_, _], _ => rfl, ⟨_, _, _, _, _, _, _, _, _, _, _, _, _, _, _, rfl, _, fun _ => rfl⟩, rfl, rfl, by decide⟩
abbrev st_L_tried : Stmt := top 57
theorem sc_L_tried : FnScope ["_law_call", "_law_e"] ["_law_call"] (defScope st_L_tried) := ⟨rfl, rfl, rfl, by decide +kernel, rfl, by decide +kernel, by decide +kernel⟩
abbrev st_L_word : Stmt := top 58
theorem sc_L_word : FnScope ["_law_e", "_law_some", "_law_named", "_law_word_here", "_law_there"] ["_law_e"] (defScope st_L_word) := ⟨rfl, rfl, rfl, by decide +kernel, rfl, by decide +kernel, by decide +kernel⟩
def c0_L_word : SE := sComp [3, 4] (iZipL (sCons (sVar 2) (sCons (sVar 1) sNil))) (gTupA 2 (gC (gSet 3) (gC (gSet 4) gN))) (sTru (sLoc 4)) (sVar 3)
def b_L_word (a : Addr) (x0 x1 x2 x3 x4 x5 x6 x7 x8 x9 : Bool) : SS := (sSeq (sAsg (gOwn 1) (sLst (sCons (sIsE 0 a x0) (sCons (sIsE 0 a x1) (sCons (sIsE 0 a x2) (sCons (sIsE 0 a x3) sNil))))))
  (sSeq (sAsg (gSet 1) (sOps gAdd (b2 (sLoc 1) (sVal (sLst (sCons (sIsE 0 a x4) (sCons (sIsE 0 a x5) (sCons (sIsE 0 a x6) (sCons (sIsE 0 a x7) sNil)))))))))
  (sSeq (sAsg (gSet 1) (sOps gAdd (b2 (sLoc 1) (sVal (sLst (sCons (sIsE 0 a x8) (sCons (sIsE 0 a x9) sNil)))))))
  (sSeq (sAsg (gOwn 2) (sLst (sCons (sCst (.str "counter")) (sCons (sCst (.str "counters")) (sCons (sCst (.str "expression")) (sCons (sCst (.str "script")) (sCons (sCst (.str "system")) (sCons (sCst (.str "name")) (sCons (sCst (.str "number")) (sCons (sCst (.str "way")) (sCons (sCst (.str "text")) (sCons (sCst (.str "many")) sNil))))))))))))
  (sRet (sJoin (sCst (.str "")) c0_L_word))))))
/-- of which of the classes it is one -/
structure BsK (K : PySem.W.Frag) (C c0 c1 c2 c3 c4 c5 c6 c7 c8 c9 : Addr) (x0 x1 x2 x3 x4 x5 x6 x7 x8 x9 : Bool) : Prop where
  k0 : PySem.W.kitOne K (.ref C) (.ref c0) = some x0
  k1 : PySem.W.kitOne K (.ref C) (.ref c1) = some x1
  k2 : PySem.W.kitOne K (.ref C) (.ref c2) = some x2
  k3 : PySem.W.kitOne K (.ref C) (.ref c3) = some x3
  k4 : PySem.W.kitOne K (.ref C) (.ref c4) = some x4
  k5 : PySem.W.kitOne K (.ref C) (.ref c5) = some x5
  k6 : PySem.W.kitOne K (.ref C) (.ref c6) = some x6
  k7 : PySem.W.kitOne K (.ref C) (.ref c7) = some x7
  k8 : PySem.W.kitOne K (.ref C) (.ref c8) = some x8
  k9 : PySem.W.kitOne K (.ref C) (.ref c9) = some x9
def GoodW (K : PySem.W.Frag) : Addr → Str → Prop := fun C wd => ExcC K C ∧ ∃ x0 x1 x2 x3 x4 x5 x6 x7 x8 x9, BsK K C (exA K "NoCounter") (exA K "NoCounters") (exA K "NoExpression") (exA K "NoScript") (exA K "NoSystem") (exA K "NoName") (exA K "NoNumber") (exA K "NoWay") (exA K "NoText") (exA K "TooMany") x0 x1 x2 x3 x4 x5 x6 x7 x8 x9 ∧ ∀ a, ∃ ρ', b_L_word a x0 x1 x2 x3 x4 x5 x6 x7 x8 x9 (.fro (.exn a) :: List.replicate 4 .no) = .ok (.rt (.str wd)) ρ'
structure Tx (K : PySem.W.Frag) (mg : Str → Option Value) : Prop where
  n_ValueError : mg "ValueError" = none
  n_all : mg "all" = none
  n_bool : mg "bool" = none
  n_dict : mg "dict" = none
  n_int : mg "int" = none
  n_isinstance : mg "isinstance" = none
  n_len : mg "len" = none
  n_list : mg "list" = none
  n_max : mg "max" = none
  n_min : mg "min" = none
  n_str : mg "str" = none
  n_super : mg "super" = none
  n_tuple : mg "tuple" = none
  n_zip : mg "zip" = none
  c_LETTERS : ∃ u, mg "LETTERS" = some u ∧ RelV (.str "abcdefghijklmnopqrstuvwxyz") u
  m_NoCounter : mg "NoCounter" = some (.ref (exA K "NoCounter"))
  m_NoCounters : mg "NoCounters" = some (.ref (exA K "NoCounters"))
  m_NoExpression : mg "NoExpression" = some (.ref (exA K "NoExpression"))
  m_NoScript : mg "NoScript" = some (.ref (exA K "NoScript"))
  m_NoSystem : mg "NoSystem" = some (.ref (exA K "NoSystem"))
  m_NoName : mg "NoName" = some (.ref (exA K "NoName"))
  m_NoNumber : mg "NoNumber" = some (.ref (exA K "NoNumber"))
  m_NoWay : mg "NoWay" = some (.ref (exA K "NoWay"))
  m_NoText : mg "NoText" = some (.ref (exA K "NoText"))
  m_TooMany : mg "TooMany" = some (.ref (exA K "TooMany"))
  m_CountError : mg "CountError" = some (.ref (exA K "CountError"))
  d_NoCounter : ExcD K (exA K "NoCounter") (exA K "CountError")
  b_NoCounter : BsK K (exA K "NoCounter") (exA K "NoCounter") (exA K "NoCounters") (exA K "NoExpression") (exA K "NoScript") (exA K "NoSystem") (exA K "NoName") (exA K "NoNumber") (exA K "NoWay") (exA K "NoText") (exA K "TooMany") true false false false false false false false false false
  d_NoNumber : ExcD K (exA K "NoNumber") (exA K "CountError")
  b_NoNumber : BsK K (exA K "NoNumber") (exA K "NoCounter") (exA K "NoCounters") (exA K "NoExpression") (exA K "NoScript") (exA K "NoSystem") (exA K "NoName") (exA K "NoNumber") (exA K "NoWay") (exA K "NoText") (exA K "TooMany") false false false false false false true false false false
  d_NoName : ExcD K (exA K "NoName") (exA K "CountError")
  b_NoName : BsK K (exA K "NoName") (exA K "NoCounter") (exA K "NoCounters") (exA K "NoExpression") (exA K "NoScript") (exA K "NoSystem") (exA K "NoName") (exA K "NoNumber") (exA K "NoWay") (exA K "NoText") (exA K "TooMany") false false false false false true false false false false
  d_NoText : ExcD K (exA K "NoText") (exA K "CountError")
  b_NoText : BsK K (exA K "NoText") (exA K "NoCounter") (exA K "NoCounters") (exA K "NoExpression") (exA K "NoScript") (exA K "NoSystem") (exA K "NoName") (exA K "NoNumber") (exA K "NoWay") (exA K "NoText") (exA K "TooMany") false false false false false false false false true false
  d_NoSystem : ExcD K (exA K "NoSystem") (exA K "CountError")
  b_NoSystem : BsK K (exA K "NoSystem") (exA K "NoCounter") (exA K "NoCounters") (exA K "NoExpression") (exA K "NoScript") (exA K "NoSystem") (exA K "NoName") (exA K "NoNumber") (exA K "NoWay") (exA K "NoText") (exA K "TooMany") false false false false true false false false false false
  d_NoScript : ExcD K (exA K "NoScript") (exA K "CountError")
  b_NoScript : BsK K (exA K "NoScript") (exA K "NoCounter") (exA K "NoCounters") (exA K "NoExpression") (exA K "NoScript") (exA K "NoSystem") (exA K "NoName") (exA K "NoNumber") (exA K "NoWay") (exA K "NoText") (exA K "TooMany") false false false true false false false false false false
  d_NoExpression : ExcD K (exA K "NoExpression") (exA K "CountError")
  b_NoExpression : BsK K (exA K "NoExpression") (exA K "NoCounter") (exA K "NoCounters") (exA K "NoExpression") (exA K "NoScript") (exA K "NoSystem") (exA K "NoName") (exA K "NoNumber") (exA K "NoWay") (exA K "NoText") (exA K "TooMany") false false true false false false false false false false
  d_NoCounters : ExcD K (exA K "NoCounters") (exA K "CountError")
  b_NoCounters : BsK K (exA K "NoCounters") (exA K "NoCounter") (exA K "NoCounters") (exA K "NoExpression") (exA K "NoScript") (exA K "NoSystem") (exA K "NoName") (exA K "NoNumber") (exA K "NoWay") (exA K "NoText") (exA K "TooMany") false true false false false false false false false false
  d_TooMany : ExcM K (exA K "TooMany") (exA K "CountError")
  b_TooMany : BsK K (exA K "TooMany") (exA K "NoCounter") (exA K "NoCounters") (exA K "NoExpression") (exA K "NoScript") (exA K "NoSystem") (exA K "NoName") (exA K "NoNumber") (exA K "NoWay") (exA K "NoText") (exA K "TooMany") false false false false false false false false false true
  d_NoWay : ExcD K (exA K "NoWay") (exA K "CountError")
  b_NoWay : BsK K (exA K "NoWay") (exA K "NoCounter") (exA K "NoCounters") (exA K "NoExpression") (exA K "NoScript") (exA K "NoSystem") (exA K "NoName") (exA K "NoNumber") (exA K "NoWay") (exA K "NoText") (exA K "TooMany") false false false false false false false true false false
  tC : TalC K
  tI : TalI K
  m_Tally : mg "Tally" = some (.ref (TC K))
  kc_NoCounter : PySem.W.kitOne K (.ref (exA K "NoCounter")) (.ref (exA K "CountError")) = some true
  kc_NoNumber : PySem.W.kitOne K (.ref (exA K "NoNumber")) (.ref (exA K "CountError")) = some true
  kc_NoName : PySem.W.kitOne K (.ref (exA K "NoName")) (.ref (exA K "CountError")) = some true
  kc_NoText : PySem.W.kitOne K (.ref (exA K "NoText")) (.ref (exA K "CountError")) = some true
  kc_NoSystem : PySem.W.kitOne K (.ref (exA K "NoSystem")) (.ref (exA K "CountError")) = some true
  kc_NoScript : PySem.W.kitOne K (.ref (exA K "NoScript")) (.ref (exA K "CountError")) = some true
  kc_NoExpression : PySem.W.kitOne K (.ref (exA K "NoExpression")) (.ref (exA K "CountError")) = some true
  kc_NoCounters : PySem.W.kitOne K (.ref (exA K "NoCounters")) (.ref (exA K "CountError")) = some true
  kc_TooMany : PySem.W.kitOne K (.ref (exA K "TooMany")) (.ref (exA K "CountError")) = some true
  kc_NoWay : PySem.W.kitOne K (.ref (exA K "NoWay")) (.ref (exA K "CountError")) = some true
  kv_NoCounter : PySem.W.kitOne K (.ref (exA K "NoCounter")) (.type "ValueError") = some true
  kv_NoNumber : PySem.W.kitOne K (.ref (exA K "NoNumber")) (.type "ValueError") = some true
  kv_NoName : PySem.W.kitOne K (.ref (exA K "NoName")) (.type "ValueError") = some true
  kv_NoText : PySem.W.kitOne K (.ref (exA K "NoText")) (.type "ValueError") = some true
  kv_NoSystem : PySem.W.kitOne K (.ref (exA K "NoSystem")) (.type "ValueError") = some true
  kv_NoScript : PySem.W.kitOne K (.ref (exA K "NoScript")) (.type "ValueError") = some true
  kv_NoExpression : PySem.W.kitOne K (.ref (exA K "NoExpression")) (.type "ValueError") = some true
  kv_NoCounters : PySem.W.kitOne K (.ref (exA K "NoCounters")) (.type "ValueError") = some true
  kv_TooMany : PySem.W.kitOne K (.ref (exA K "TooMany")) (.type "ValueError") = some true
  kv_NoWay : PySem.W.kitOne K (.ref (exA K "NoWay")) (.type "ValueError") = some true
theorem Tx.k_NoCounter {K : PySem.W.Frag} {mg : Str → Option Value} (T : Tx K mg) : ExcK K mg "NoCounter" := T.d_NoCounter.kk T.m_NoCounter
theorem Tx.k_NoNumber {K : PySem.W.Frag} {mg : Str → Option Value} (T : Tx K mg) : ExcK K mg "NoNumber" := T.d_NoNumber.kk T.m_NoNumber
theorem Tx.k_NoName {K : PySem.W.Frag} {mg : Str → Option Value} (T : Tx K mg) : ExcK K mg "NoName" := T.d_NoName.kk T.m_NoName
theorem Tx.k_NoText {K : PySem.W.Frag} {mg : Str → Option Value} (T : Tx K mg) : ExcK K mg "NoText" := T.d_NoText.kk T.m_NoText
theorem Tx.k_NoSystem {K : PySem.W.Frag} {mg : Str → Option Value} (T : Tx K mg) : ExcK K mg "NoSystem" := T.d_NoSystem.kk T.m_NoSystem
theorem Tx.k_NoScript {K : PySem.W.Frag} {mg : Str → Option Value} (T : Tx K mg) : ExcK K mg "NoScript" := T.d_NoScript.kk T.m_NoScript
theorem Tx.k_NoExpression {K : PySem.W.Frag} {mg : Str → Option Value} (T : Tx K mg) : ExcK K mg "NoExpression" := T.d_NoExpression.kk T.m_NoExpression
theorem Tx.k_NoCounters {K : PySem.W.Frag} {mg : Str → Option Value} (T : Tx K mg) : ExcK K mg "NoCounters" := T.d_NoCounters.kk T.m_NoCounters
theorem Tx.k_NoWay {K : PySem.W.Frag} {mg : Str → Option Value} (T : Tx K mg) : ExcK K mg "NoWay" := T.d_NoWay.kk T.m_NoWay
section
variable {P : Program} {w : World} [HW] [TW w] {K : PySem.W.Frag} {mg : Str → Option Value} {base : Heap}
theorem hX_0 (T : Tx K mg) : ∀ c b, tbX 0 c = some b → ExcC K (fnA K c) ∧ PySem.W.kitOne K (.ref (fnA K c)) (.ref (exA K "NoCounter")) = some b := fun c b h => by
  unfold tbX at h
  by_cases h0 : c = "NoCounter"
  · subst h0; rw [if_pos rfl] at h; cases h; exact ⟨T.d_NoCounter.c, T.b_NoCounter.k0⟩
  rw [if_neg h0] at h
  by_cases h1 : c = "NoCounters"
  · subst h1; rw [if_pos rfl] at h; cases h; exact ⟨T.d_NoCounters.c, T.b_NoCounters.k0⟩
  rw [if_neg h1] at h
  by_cases h2 : c = "NoExpression"
  · subst h2; rw [if_pos rfl] at h; cases h; exact ⟨T.d_NoExpression.c, T.b_NoExpression.k0⟩
  rw [if_neg h2] at h
  by_cases h3 : c = "NoScript"
  · subst h3; rw [if_pos rfl] at h; cases h; exact ⟨T.d_NoScript.c, T.b_NoScript.k0⟩
  rw [if_neg h3] at h
  by_cases h4 : c = "NoSystem"
  · subst h4; rw [if_pos rfl] at h; cases h; exact ⟨T.d_NoSystem.c, T.b_NoSystem.k0⟩
  rw [if_neg h4] at h
  by_cases h5 : c = "NoName"
  · subst h5; rw [if_pos rfl] at h; cases h; exact ⟨T.d_NoName.c, T.b_NoName.k0⟩
  rw [if_neg h5] at h
  by_cases h6 : c = "NoNumber"
  · subst h6; rw [if_pos rfl] at h; cases h; exact ⟨T.d_NoNumber.c, T.b_NoNumber.k0⟩
  rw [if_neg h6] at h
  by_cases h7 : c = "NoWay"
  · subst h7; rw [if_pos rfl] at h; cases h; exact ⟨T.d_NoWay.c, T.b_NoWay.k0⟩
  rw [if_neg h7] at h
  by_cases h8 : c = "NoText"
  · subst h8; rw [if_pos rfl] at h; cases h; exact ⟨T.d_NoText.c, T.b_NoText.k0⟩
  rw [if_neg h8] at h
  by_cases h9 : c = "TooMany"
  · subst h9; rw [if_pos rfl] at h; cases h; exact ⟨T.d_TooMany.c, T.b_TooMany.k0⟩
  rw [if_neg h9] at h
  cases h
theorem hX_1 (T : Tx K mg) : ∀ c b, tbX 1 c = some b → ExcC K (fnA K c) ∧ PySem.W.kitOne K (.ref (fnA K c)) (.ref (exA K "NoCounters")) = some b := fun c b h => by
  unfold tbX at h
  by_cases h0 : c = "NoCounter"
  · subst h0; rw [if_pos rfl] at h; cases h; exact ⟨T.d_NoCounter.c, T.b_NoCounter.k1⟩
  rw [if_neg h0] at h
  by_cases h1 : c = "NoCounters"
  · subst h1; rw [if_pos rfl] at h; cases h; exact ⟨T.d_NoCounters.c, T.b_NoCounters.k1⟩
  rw [if_neg h1] at h
  by_cases h2 : c = "NoExpression"
  · subst h2; rw [if_pos rfl] at h; cases h; exact ⟨T.d_NoExpression.c, T.b_NoExpression.k1⟩
  rw [if_neg h2] at h
  by_cases h3 : c = "NoScript"
  · subst h3; rw [if_pos rfl] at h; cases h; exact ⟨T.d_NoScript.c, T.b_NoScript.k1⟩
  rw [if_neg h3] at h
  by_cases h4 : c = "NoSystem"
  · subst h4; rw [if_pos rfl] at h; cases h; exact ⟨T.d_NoSystem.c, T.b_NoSystem.k1⟩
  rw [if_neg h4] at h
  by_cases h5 : c = "NoName"
  · subst h5; rw [if_pos rfl] at h; cases h; exact ⟨T.d_NoName.c, T.b_NoName.k1⟩
  rw [if_neg h5] at h
  by_cases h6 : c = "NoNumber"
  · subst h6; rw [if_pos rfl] at h; cases h; exact ⟨T.d_NoNumber.c, T.b_NoNumber.k1⟩
  rw [if_neg h6] at h
  by_cases h7 : c = "NoWay"
  · subst h7; rw [if_pos rfl] at h; cases h; exact ⟨T.d_NoWay.c, T.b_NoWay.k1⟩
  rw [if_neg h7] at h
  by_cases h8 : c = "NoText"
  · subst h8; rw [if_pos rfl] at h; cases h; exact ⟨T.d_NoText.c, T.b_NoText.k1⟩
  rw [if_neg h8] at h
  by_cases h9 : c = "TooMany"
  · subst h9; rw [if_pos rfl] at h; cases h; exact ⟨T.d_TooMany.c, T.b_TooMany.k1⟩
  rw [if_neg h9] at h
  cases h
theorem hX_2 (T : Tx K mg) : ∀ c b, tbX 2 c = some b → ExcC K (fnA K c) ∧ PySem.W.kitOne K (.ref (fnA K c)) (.ref (exA K "NoExpression")) = some b := fun c b h => by
  unfold tbX at h
  by_cases h0 : c = "NoCounter"
  · subst h0; rw [if_pos rfl] at h; cases h; exact ⟨T.d_NoCounter.c, T.b_NoCounter.k2⟩
  rw [if_neg h0] at h
  by_cases h1 : c = "NoCounters"
  · subst h1; rw [if_pos rfl] at h; cases h; exact ⟨T.d_NoCounters.c, T.b_NoCounters.k2⟩
  rw [if_neg h1] at h
  by_cases h2 : c = "NoExpression"
  · subst h2; rw [if_pos rfl] at h; cases h; exact ⟨T.d_NoExpression.c, T.b_NoExpression.k2⟩
  rw [if_neg h2] at h
  by_cases h3 : c = "NoScript"
  · subst h3; rw [if_pos rfl] at h; cases h; exact ⟨T.d_NoScript.c, T.b_NoScript.k2⟩
  rw [if_neg h3] at h
  by_cases h4 : c = "NoSystem"
  · subst h4; rw [if_pos rfl] at h; cases h; exact ⟨T.d_NoSystem.c, T.b_NoSystem.k2⟩
  rw [if_neg h4] at h
  by_cases h5 : c = "NoName"
  · subst h5; rw [if_pos rfl] at h; cases h; exact ⟨T.d_NoName.c, T.b_NoName.k2⟩
  rw [if_neg h5] at h
  by_cases h6 : c = "NoNumber"
  · subst h6; rw [if_pos rfl] at h; cases h; exact ⟨T.d_NoNumber.c, T.b_NoNumber.k2⟩
  rw [if_neg h6] at h
  by_cases h7 : c = "NoWay"
  · subst h7; rw [if_pos rfl] at h; cases h; exact ⟨T.d_NoWay.c, T.b_NoWay.k2⟩
  rw [if_neg h7] at h
  by_cases h8 : c = "NoText"
  · subst h8; rw [if_pos rfl] at h; cases h; exact ⟨T.d_NoText.c, T.b_NoText.k2⟩
  rw [if_neg h8] at h
  by_cases h9 : c = "TooMany"
  · subst h9; rw [if_pos rfl] at h; cases h; exact ⟨T.d_TooMany.c, T.b_TooMany.k2⟩
  rw [if_neg h9] at h
  cases h
theorem hX_3 (T : Tx K mg) : ∀ c b, tbX 3 c = some b → ExcC K (fnA K c) ∧ PySem.W.kitOne K (.ref (fnA K c)) (.ref (exA K "NoScript")) = some b := fun c b h => by
  unfold tbX at h
  by_cases h0 : c = "NoCounter"
  · subst h0; rw [if_pos rfl] at h; cases h; exact ⟨T.d_NoCounter.c, T.b_NoCounter.k3⟩
  rw [if_neg h0] at h
  by_cases h1 : c = "NoCounters"
  · subst h1; rw [if_pos rfl] at h; cases h; exact ⟨T.d_NoCounters.c, T.b_NoCounters.k3⟩
  rw [if_neg h1] at h
  by_cases h2 : c = "NoExpression"
  · subst h2; rw [if_pos rfl] at h; cases h; exact ⟨T.d_NoExpression.c, T.b_NoExpression.k3⟩
  rw [if_neg h2] at h
  by_cases h3 : c = "NoScript"
  · subst h3; rw [if_pos rfl] at h; cases h; exact ⟨T.d_NoScript.c, T.b_NoScript.k3⟩
  rw [if_neg h3] at h
  by_cases h4 : c = "NoSystem"
  · subst h4; rw [if_pos rfl] at h; cases h; exact ⟨T.d_NoSystem.c, T.b_NoSystem.k3⟩
  rw [if_neg h4] at h
  by_cases h5 : c = "NoName"
  · subst h5; rw [if_pos rfl] at h; cases h; exact ⟨T.d_NoName.c, T.b_NoName.k3⟩
  rw [if_neg h5] at h
  by_cases h6 : c = "NoNumber"
  · subst h6; rw [if_pos rfl] at h; cases h; exact ⟨T.d_NoNumber.c, T.b_NoNumber.k3⟩
  rw [if_neg h6] at h
  by_cases h7 : c = "NoWay"
  · subst h7; rw [if_pos rfl] at h; cases h; exact ⟨T.d_NoWay.c, T.b_NoWay.k3⟩
  rw [if_neg h7] at h
  by_cases h8 : c = "NoText"
  · subst h8; rw [if_pos rfl] at h; cases h; exact ⟨T.d_NoText.c, T.b_NoText.k3⟩
  rw [if_neg h8] at h
  by_cases h9 : c = "TooMany"
  · subst h9; rw [if_pos rfl] at h; cases h; exact ⟨T.d_TooMany.c, T.b_TooMany.k3⟩
  rw [if_neg h9] at h
  cases h
theorem hX_4 (T : Tx K mg) : ∀ c b, tbX 4 c = some b → ExcC K (fnA K c) ∧ PySem.W.kitOne K (.ref (fnA K c)) (.ref (exA K "NoSystem")) = some b := fun c b h => by
  unfold tbX at h
  by_cases h0 : c = "NoCounter"
  · subst h0; rw [if_pos rfl] at h; cases h; exact ⟨T.d_NoCounter.c, T.b_NoCounter.k4⟩
  rw [if_neg h0] at h
  by_cases h1 : c = "NoCounters"
  · subst h1; rw [if_pos rfl] at h; cases h; exact ⟨T.d_NoCounters.c, T.b_NoCounters.k4⟩
  rw [if_neg h1] at h
  by_cases h2 : c = "NoExpression"
  · subst h2; rw [if_pos rfl] at h; cases h; exact ⟨T.d_NoExpression.c, T.b_NoExpression.k4⟩
  rw [if_neg h2] at h
  by_cases h3 : c = "NoScript"
  · subst h3; rw [if_pos rfl] at h; cases h; exact ⟨T.d_NoScript.c, T.b_NoScript.k4⟩
  rw [if_neg h3] at h
  by_cases h4 : c = "NoSystem"
  · subst h4; rw [if_pos rfl] at h; cases h; exact ⟨T.d_NoSystem.c, T.b_NoSystem.k4⟩
  rw [if_neg h4] at h
  by_cases h5 : c = "NoName"
  · subst h5; rw [if_pos rfl] at h; cases h; exact ⟨T.d_NoName.c, T.b_NoName.k4⟩
  rw [if_neg h5] at h
  by_cases h6 : c = "NoNumber"
  · subst h6; rw [if_pos rfl] at h; cases h; exact ⟨T.d_NoNumber.c, T.b_NoNumber.k4⟩
  rw [if_neg h6] at h
  by_cases h7 : c = "NoWay"
  · subst h7; rw [if_pos rfl] at h; cases h; exact ⟨T.d_NoWay.c, T.b_NoWay.k4⟩
  rw [if_neg h7] at h
  by_cases h8 : c = "NoText"
  · subst h8; rw [if_pos rfl] at h; cases h; exact ⟨T.d_NoText.c, T.b_NoText.k4⟩
  rw [if_neg h8] at h
  by_cases h9 : c = "TooMany"
  · subst h9; rw [if_pos rfl] at h; cases h; exact ⟨T.d_TooMany.c, T.b_TooMany.k4⟩
  rw [if_neg h9] at h
  cases h
theorem hX_5 (T : Tx K mg) : ∀ c b, tbX 5 c = some b → ExcC K (fnA K c) ∧ PySem.W.kitOne K (.ref (fnA K c)) (.ref (exA K "NoName")) = some b := fun c b h => by
  unfold tbX at h
  by_cases h0 : c = "NoCounter"
  · subst h0; rw [if_pos rfl] at h; cases h; exact ⟨T.d_NoCounter.c, T.b_NoCounter.k5⟩
  rw [if_neg h0] at h
  by_cases h1 : c = "NoCounters"
  · subst h1; rw [if_pos rfl] at h; cases h; exact ⟨T.d_NoCounters.c, T.b_NoCounters.k5⟩
  rw [if_neg h1] at h
  by_cases h2 : c = "NoExpression"
  · subst h2; rw [if_pos rfl] at h; cases h; exact ⟨T.d_NoExpression.c, T.b_NoExpression.k5⟩
  rw [if_neg h2] at h
  by_cases h3 : c = "NoScript"
  · subst h3; rw [if_pos rfl] at h; cases h; exact ⟨T.d_NoScript.c, T.b_NoScript.k5⟩
  rw [if_neg h3] at h
  by_cases h4 : c = "NoSystem"
  · subst h4; rw [if_pos rfl] at h; cases h; exact ⟨T.d_NoSystem.c, T.b_NoSystem.k5⟩
  rw [if_neg h4] at h
  by_cases h5 : c = "NoName"
  · subst h5; rw [if_pos rfl] at h; cases h; exact ⟨T.d_NoName.c, T.b_NoName.k5⟩
  rw [if_neg h5] at h
  by_cases h6 : c = "NoNumber"
  · subst h6; rw [if_pos rfl] at h; cases h; exact ⟨T.d_NoNumber.c, T.b_NoNumber.k5⟩
  rw [if_neg h6] at h
  by_cases h7 : c = "NoWay"
  · subst h7; rw [if_pos rfl] at h; cases h; exact ⟨T.d_NoWay.c, T.b_NoWay.k5⟩
  rw [if_neg h7] at h
  by_cases h8 : c = "NoText"
  · subst h8; rw [if_pos rfl] at h; cases h; exact ⟨T.d_NoText.c, T.b_NoText.k5⟩
  rw [if_neg h8] at h
  by_cases h9 : c = "TooMany"
  · subst h9; rw [if_pos rfl] at h; cases h; exact ⟨T.d_TooMany.c, T.b_TooMany.k5⟩
  rw [if_neg h9] at h
  cases h
theorem hX_6 (T : Tx K mg) : ∀ c b, tbX 6 c = some b → ExcC K (fnA K c) ∧ PySem.W.kitOne K (.ref (fnA K c)) (.ref (exA K "NoNumber")) = some b := fun c b h => by
  unfold tbX at h
  by_cases h0 : c = "NoCounter"
  · subst h0; rw [if_pos rfl] at h; cases h; exact ⟨T.d_NoCounter.c, T.b_NoCounter.k6⟩
  rw [if_neg h0] at h
  by_cases h1 : c = "NoCounters"
  · subst h1; rw [if_pos rfl] at h; cases h; exact ⟨T.d_NoCounters.c, T.b_NoCounters.k6⟩
  rw [if_neg h1] at h
  by_cases h2 : c = "NoExpression"
  · subst h2; rw [if_pos rfl] at h; cases h; exact ⟨T.d_NoExpression.c, T.b_NoExpression.k6⟩
  rw [if_neg h2] at h
  by_cases h3 : c = "NoScript"
  · subst h3; rw [if_pos rfl] at h; cases h; exact ⟨T.d_NoScript.c, T.b_NoScript.k6⟩
  rw [if_neg h3] at h
  by_cases h4 : c = "NoSystem"
  · subst h4; rw [if_pos rfl] at h; cases h; exact ⟨T.d_NoSystem.c, T.b_NoSystem.k6⟩
  rw [if_neg h4] at h
  by_cases h5 : c = "NoName"
  · subst h5; rw [if_pos rfl] at h; cases h; exact ⟨T.d_NoName.c, T.b_NoName.k6⟩
  rw [if_neg h5] at h
  by_cases h6 : c = "NoNumber"
  · subst h6; rw [if_pos rfl] at h; cases h; exact ⟨T.d_NoNumber.c, T.b_NoNumber.k6⟩
  rw [if_neg h6] at h
  by_cases h7 : c = "NoWay"
  · subst h7; rw [if_pos rfl] at h; cases h; exact ⟨T.d_NoWay.c, T.b_NoWay.k6⟩
  rw [if_neg h7] at h
  by_cases h8 : c = "NoText"
  · subst h8; rw [if_pos rfl] at h; cases h; exact ⟨T.d_NoText.c, T.b_NoText.k6⟩
  rw [if_neg h8] at h
  by_cases h9 : c = "TooMany"
  · subst h9; rw [if_pos rfl] at h; cases h; exact ⟨T.d_TooMany.c, T.b_TooMany.k6⟩
  rw [if_neg h9] at h
  cases h
theorem hX_7 (T : Tx K mg) : ∀ c b, tbX 7 c = some b → ExcC K (fnA K c) ∧ PySem.W.kitOne K (.ref (fnA K c)) (.ref (exA K "NoWay")) = some b := fun c b h => by
  unfold tbX at h
  by_cases h0 : c = "NoCounter"
  · subst h0; rw [if_pos rfl] at h; cases h; exact ⟨T.d_NoCounter.c, T.b_NoCounter.k7⟩
  rw [if_neg h0] at h
  by_cases h1 : c = "NoCounters"
  · subst h1; rw [if_pos rfl] at h; cases h; exact ⟨T.d_NoCounters.c, T.b_NoCounters.k7⟩
  rw [if_neg h1] at h
  by_cases h2 : c = "NoExpression"
  · subst h2; rw [if_pos rfl] at h; cases h; exact ⟨T.d_NoExpression.c, T.b_NoExpression.k7⟩
  rw [if_neg h2] at h
  by_cases h3 : c = "NoScript"
  · subst h3; rw [if_pos rfl] at h; cases h; exact ⟨T.d_NoScript.c, T.b_NoScript.k7⟩
  rw [if_neg h3] at h
  by_cases h4 : c = "NoSystem"
  · subst h4; rw [if_pos rfl] at h; cases h; exact ⟨T.d_NoSystem.c, T.b_NoSystem.k7⟩
  rw [if_neg h4] at h
  by_cases h5 : c = "NoName"
  · subst h5; rw [if_pos rfl] at h; cases h; exact ⟨T.d_NoName.c, T.b_NoName.k7⟩
  rw [if_neg h5] at h
  by_cases h6 : c = "NoNumber"
  · subst h6; rw [if_pos rfl] at h; cases h; exact ⟨T.d_NoNumber.c, T.b_NoNumber.k7⟩
  rw [if_neg h6] at h
  by_cases h7 : c = "NoWay"
  · subst h7; rw [if_pos rfl] at h; cases h; exact ⟨T.d_NoWay.c, T.b_NoWay.k7⟩
  rw [if_neg h7] at h
  by_cases h8 : c = "NoText"
  · subst h8; rw [if_pos rfl] at h; cases h; exact ⟨T.d_NoText.c, T.b_NoText.k7⟩
  rw [if_neg h8] at h
  by_cases h9 : c = "TooMany"
  · subst h9; rw [if_pos rfl] at h; cases h; exact ⟨T.d_TooMany.c, T.b_TooMany.k7⟩
  rw [if_neg h9] at h
  cases h
theorem hX_8 (T : Tx K mg) : ∀ c b, tbX 8 c = some b → ExcC K (fnA K c) ∧ PySem.W.kitOne K (.ref (fnA K c)) (.ref (exA K "NoText")) = some b := fun c b h => by
  unfold tbX at h
  by_cases h0 : c = "NoCounter"
  · subst h0; rw [if_pos rfl] at h; cases h; exact ⟨T.d_NoCounter.c, T.b_NoCounter.k8⟩
  rw [if_neg h0] at h
  by_cases h1 : c = "NoCounters"
  · subst h1; rw [if_pos rfl] at h; cases h; exact ⟨T.d_NoCounters.c, T.b_NoCounters.k8⟩
  rw [if_neg h1] at h
  by_cases h2 : c = "NoExpression"
  · subst h2; rw [if_pos rfl] at h; cases h; exact ⟨T.d_NoExpression.c, T.b_NoExpression.k8⟩
  rw [if_neg h2] at h
  by_cases h3 : c = "NoScript"
  · subst h3; rw [if_pos rfl] at h; cases h; exact ⟨T.d_NoScript.c, T.b_NoScript.k8⟩
  rw [if_neg h3] at h
  by_cases h4 : c = "NoSystem"
  · subst h4; rw [if_pos rfl] at h; cases h; exact ⟨T.d_NoSystem.c, T.b_NoSystem.k8⟩
  rw [if_neg h4] at h
  by_cases h5 : c = "NoName"
  · subst h5; rw [if_pos rfl] at h; cases h; exact ⟨T.d_NoName.c, T.b_NoName.k8⟩
  rw [if_neg h5] at h
  by_cases h6 : c = "NoNumber"
  · subst h6; rw [if_pos rfl] at h; cases h; exact ⟨T.d_NoNumber.c, T.b_NoNumber.k8⟩
  rw [if_neg h6] at h
  by_cases h7 : c = "NoWay"
  · subst h7; rw [if_pos rfl] at h; cases h; exact ⟨T.d_NoWay.c, T.b_NoWay.k8⟩
  rw [if_neg h7] at h
  by_cases h8 : c = "NoText"
  · subst h8; rw [if_pos rfl] at h; cases h; exact ⟨T.d_NoText.c, T.b_NoText.k8⟩
  rw [if_neg h8] at h
  by_cases h9 : c = "TooMany"
  · subst h9; rw [if_pos rfl] at h; cases h; exact ⟨T.d_TooMany.c, T.b_TooMany.k8⟩
  rw [if_neg h9] at h
  cases h
theorem hX_9 (T : Tx K mg) : ∀ c b, tbX 9 c = some b → ExcC K (fnA K c) ∧ PySem.W.kitOne K (.ref (fnA K c)) (.ref (exA K "TooMany")) = some b := fun c b h => by
  unfold tbX at h
  by_cases h0 : c = "NoCounter"
  · subst h0; rw [if_pos rfl] at h; cases h; exact ⟨T.d_NoCounter.c, T.b_NoCounter.k9⟩
  rw [if_neg h0] at h
  by_cases h1 : c = "NoCounters"
  · subst h1; rw [if_pos rfl] at h; cases h; exact ⟨T.d_NoCounters.c, T.b_NoCounters.k9⟩
  rw [if_neg h1] at h
  by_cases h2 : c = "NoExpression"
  · subst h2; rw [if_pos rfl] at h; cases h; exact ⟨T.d_NoExpression.c, T.b_NoExpression.k9⟩
  rw [if_neg h2] at h
  by_cases h3 : c = "NoScript"
  · subst h3; rw [if_pos rfl] at h; cases h; exact ⟨T.d_NoScript.c, T.b_NoScript.k9⟩
  rw [if_neg h3] at h
  by_cases h4 : c = "NoSystem"
  · subst h4; rw [if_pos rfl] at h; cases h; exact ⟨T.d_NoSystem.c, T.b_NoSystem.k9⟩
  rw [if_neg h4] at h
  by_cases h5 : c = "NoName"
  · subst h5; rw [if_pos rfl] at h; cases h; exact ⟨T.d_NoName.c, T.b_NoName.k9⟩
  rw [if_neg h5] at h
  by_cases h6 : c = "NoNumber"
  · subst h6; rw [if_pos rfl] at h; cases h; exact ⟨T.d_NoNumber.c, T.b_NoNumber.k9⟩
  rw [if_neg h6] at h
  by_cases h7 : c = "NoWay"
  · subst h7; rw [if_pos rfl] at h; cases h; exact ⟨T.d_NoWay.c, T.b_NoWay.k9⟩
  rw [if_neg h7] at h
  by_cases h8 : c = "NoText"
  · subst h8; rw [if_pos rfl] at h; cases h; exact ⟨T.d_NoText.c, T.b_NoText.k9⟩
  rw [if_neg h8] at h
  by_cases h9 : c = "TooMany"
  · subst h9; rw [if_pos rfl] at h; cases h; exact ⟨T.d_TooMany.c, T.b_TooMany.k9⟩
  rw [if_neg h9] at h
  cases h
theorem hX_10 (T : Tx K mg) : ∀ c b, tbX 10 c = some b → ExcC K (fnA K c) ∧ PySem.W.kitOne K (.ref (fnA K c)) (.ref (exA K "CountError")) = some b := fun c b h => by
  unfold tbX at h
  by_cases h0 : c = "NoCounter"
  · subst h0; rw [if_pos rfl] at h; cases h; exact ⟨T.d_NoCounter.c, T.kc_NoCounter⟩
  rw [if_neg h0] at h
  by_cases h1 : c = "NoCounters"
  · subst h1; rw [if_pos rfl] at h; cases h; exact ⟨T.d_NoCounters.c, T.kc_NoCounters⟩
  rw [if_neg h1] at h
  by_cases h2 : c = "NoExpression"
  · subst h2; rw [if_pos rfl] at h; cases h; exact ⟨T.d_NoExpression.c, T.kc_NoExpression⟩
  rw [if_neg h2] at h
  by_cases h3 : c = "NoScript"
  · subst h3; rw [if_pos rfl] at h; cases h; exact ⟨T.d_NoScript.c, T.kc_NoScript⟩
  rw [if_neg h3] at h
  by_cases h4 : c = "NoSystem"
  · subst h4; rw [if_pos rfl] at h; cases h; exact ⟨T.d_NoSystem.c, T.kc_NoSystem⟩
  rw [if_neg h4] at h
  by_cases h5 : c = "NoName"
  · subst h5; rw [if_pos rfl] at h; cases h; exact ⟨T.d_NoName.c, T.kc_NoName⟩
  rw [if_neg h5] at h
  by_cases h6 : c = "NoNumber"
  · subst h6; rw [if_pos rfl] at h; cases h; exact ⟨T.d_NoNumber.c, T.kc_NoNumber⟩
  rw [if_neg h6] at h
  by_cases h7 : c = "NoWay"
  · subst h7; rw [if_pos rfl] at h; cases h; exact ⟨T.d_NoWay.c, T.kc_NoWay⟩
  rw [if_neg h7] at h
  by_cases h8 : c = "NoText"
  · subst h8; rw [if_pos rfl] at h; cases h; exact ⟨T.d_NoText.c, T.kc_NoText⟩
  rw [if_neg h8] at h
  by_cases h9 : c = "TooMany"
  · subst h9; rw [if_pos rfl] at h; cases h; exact ⟨T.d_TooMany.c, T.kc_TooMany⟩
  rw [if_neg h9] at h
  cases h
theorem hX_11 (T : Tx K mg) : ∀ c b, tbX 11 c = some b → ExcC K (fnA K c) ∧ PySem.W.kitOne K (.ref (fnA K c)) (.type "ValueError") = some b := fun c b h => by
  unfold tbX at h
  by_cases h0 : c = "NoCounter"
  · subst h0; rw [if_pos rfl] at h; cases h; exact ⟨T.d_NoCounter.c, T.kv_NoCounter⟩
  rw [if_neg h0] at h
  by_cases h1 : c = "NoCounters"
  · subst h1; rw [if_pos rfl] at h; cases h; exact ⟨T.d_NoCounters.c, T.kv_NoCounters⟩
  rw [if_neg h1] at h
  by_cases h2 : c = "NoExpression"
  · subst h2; rw [if_pos rfl] at h; cases h; exact ⟨T.d_NoExpression.c, T.kv_NoExpression⟩
  rw [if_neg h2] at h
  by_cases h3 : c = "NoScript"
  · subst h3; rw [if_pos rfl] at h; cases h; exact ⟨T.d_NoScript.c, T.kv_NoScript⟩
  rw [if_neg h3] at h
  by_cases h4 : c = "NoSystem"
  · subst h4; rw [if_pos rfl] at h; cases h; exact ⟨T.d_NoSystem.c, T.kv_NoSystem⟩
  rw [if_neg h4] at h
  by_cases h5 : c = "NoName"
  · subst h5; rw [if_pos rfl] at h; cases h; exact ⟨T.d_NoName.c, T.kv_NoName⟩
  rw [if_neg h5] at h
  by_cases h6 : c = "NoNumber"
  · subst h6; rw [if_pos rfl] at h; cases h; exact ⟨T.d_NoNumber.c, T.kv_NoNumber⟩
  rw [if_neg h6] at h
  by_cases h7 : c = "NoWay"
  · subst h7; rw [if_pos rfl] at h; cases h; exact ⟨T.d_NoWay.c, T.kv_NoWay⟩
  rw [if_neg h7] at h
  by_cases h8 : c = "NoText"
  · subst h8; rw [if_pos rfl] at h; cases h; exact ⟨T.d_NoText.c, T.kv_NoText⟩
  rw [if_neg h8] at h
  by_cases h9 : c = "TooMany"
  · subst h9; rw [if_pos rfl] at h; cases h; exact ⟨T.d_TooMany.c, T.kv_TooMany⟩
  rw [if_neg h9] at h
  cases h
set_option maxRecDepth 100000 in
theorem w_L_word (T : Tx K mg) (F : Fn K mg "_law_word" st_L_word ["_law_e"]) : WordAt P w K mg base 1 "_law_word" (GoodW K) :=
  word_at (k := 0) (m := 4) (ea := exA K) (W := fun _ _ _ _ => False) F sc_L_word rfl fun f cd A outer s H p C wd hot0 hr => fun {dx} hz ⟨cc, x0, x1, x2, x3, x4, x5, x6, x7, x8, x9, B, ev⟩ => by
    have hf : ∃ vs, p.2.data = .fields vs := let ⟨vs, e, _⟩ := hot0.2; ⟨vs, e⟩
    have hot : L2H.Hot1 (L2H.cxH CXf P w K mg base ["_law_e", "_law_some", "_law_named", "_law_word_here", "_law_there"] "_law_word" (defScope st_L_word) f cd A outer s H (fun _ _ _ => False) p).A p := hot0
    have hp : p ∈ (L2H.cxH CXf P w K mg base ["_law_e", "_law_some", "_law_named", "_law_word_here", "_law_there"] "_law_word" (defScope st_L_word) f cd A outer s H (fun _ _ _ => False) p).pn := List.mem_singleton.mpr rfl
    have hpp : (p.1, p.2) ∈ (L2H.cxH CXf P w K mg base ["_law_e", "_law_some", "_law_named", "_law_word_here", "_law_there"] "_law_word" (defScope st_L_word) f cd A outer s H (fun _ _ _ => False) p).pn := hp
    exact ⟨b_L_word p.1 x0 x1 x2 x3 x4 x5 x6 x7 x8 x9, (d_scons (d_setFN sc_L_word.nd rfl (by first | exact Or.inl rfl | exact Or.inr rfl) (d_lstF (d_cons (d_isE hpp cc hz hf rfl T.n_isinstance rfl T.m_NoCounter B.k0 (pv 0)) (d_cons (d_isE hpp cc hz hf rfl T.n_isinstance rfl T.m_NoCounters B.k1 (pv 0)) (d_cons (d_isE hpp cc hz hf rfl T.n_isinstance rfl T.m_NoExpression B.k2 (pv 0)) (d_cons (d_isE hpp cc hz hf rfl T.n_isinstance rfl T.m_NoScript B.k3 (pv 0)) d_nil))))))
      (d_scons (d_setN sc_L_word.nd rfl (by first | exact Or.inl rfl | exact Or.inr rfl) (d_add (d_loc (pv 1)) (d_val (d_fz (d_lstF (d_cons (d_isE hpp cc hz hf rfl T.n_isinstance rfl T.m_NoSystem B.k4 (pv 0)) (d_cons (d_isE hpp cc hz hf rfl T.n_isinstance rfl T.m_NoName B.k5 (pv 0)) (d_cons (d_isE hpp cc hz hf rfl T.n_isinstance rfl T.m_NoNumber B.k6 (pv 0)) (d_cons (d_isE hpp cc hz hf rfl T.n_isinstance rfl T.m_NoWay B.k7 (pv 0)) d_nil)))))))))
      (d_scons (d_setN sc_L_word.nd rfl (by first | exact Or.inl rfl | exact Or.inr rfl) (d_add (d_loc (pv 1)) (d_val (d_fz (d_lstF (d_cons (d_isE hpp cc hz hf rfl T.n_isinstance rfl T.m_NoText B.k8 (pv 0)) (d_cons (d_isE hpp cc hz hf rfl T.n_isinstance rfl T.m_TooMany B.k9 (pv 0)) d_nil)))))))
      (d_scons (d_setFN sc_L_word.nd rfl (by first | exact Or.inl rfl | exact Or.inr rfl) (d_lstF (d_cons d_str (d_cons d_str (d_cons d_str (d_cons d_str (d_cons d_str (d_cons d_str (d_cons d_str (d_cons d_str (d_cons d_str (d_cons d_str d_nil))))))))))))
      (d_sone (d_ret (d_join d_str (d_fz (d_compFB (own := [("_law_word_here", 3), ("_law_there", 4)]) hot hp sc_L_word.nd (d_iZipB (HotB.of hot hp) rfl T.n_zip (d_cons (d_var (pv 2)) (d_cons (d_var (pv 1)) d_nil))) (blkOk_by (N := ["_law_e", "_law_some", "_law_named", "_law_word_here", "_law_there"]) (sc := defScope st_L_word) (own := [("_law_word_here", 3), ("_law_there", 4)]) (by decide +kernel)) (fun _ _ _ _ _ hot => (d_gTupB hot (d_gC (d_gName sc_L_word.nd rfl (by first | exact Or.inl rfl | exact Or.inr rfl) (by first | exact Or.inl rfl | exact Or.inr rfl)) (d_gC (d_gName sc_L_word.nd rfl (by first | exact Or.inl rfl | exact Or.inr rfl) (by first | exact Or.inl rfl | exact Or.inr rfl)) d_gN)))) (fun _ _ _ _ _ => (pts_one (d_tru (d_loc (pv 4))))) (fun _ _ _ _ _ => (d_var (pv 3))) (by decide)))))))))), ev p.1⟩
theorem ev_NoCounter (a : Addr) : ∃ ρ', b_L_word a true false false false false false false false false false (.fro (.exn a) :: List.replicate 4 .no) = .ok (.rt (.str "counter")) ρ' := by
  refine ⟨?w, ?h⟩
  case h =>
    simp [b_L_word, sIsE, c0_L_word, List.replicate, sizeLine_eq, gAdd, ofO, zipL, pairUp, joinG, txtsD, gSet, gOwn, sComp, compGo, plainAt, wipeE, backE, noX, gC, gN, sTru, sLoc, Opd.get, Cell.data, D.truth, iZipL, gTupA, sCons, sVar, sNil]
    rw [if_pos (by decide)]
    rfl
theorem ev_NoNumber (a : Addr) : ∃ ρ', b_L_word a false false false false false false true false false false (.fro (.exn a) :: List.replicate 4 .no) = .ok (.rt (.str "number")) ρ' := by
  refine ⟨?w, ?h⟩
  case h =>
    simp [b_L_word, sIsE, c0_L_word, List.replicate, sizeLine_eq, gAdd, ofO, zipL, pairUp, joinG, txtsD, gSet, gOwn, sComp, compGo, plainAt, wipeE, backE, noX, gC, gN, sTru, sLoc, Opd.get, Cell.data, D.truth, iZipL, gTupA, sCons, sVar, sNil]
    rw [if_pos (by decide)]
    rfl
theorem ev_NoName (a : Addr) : ∃ ρ', b_L_word a false false false false false true false false false false (.fro (.exn a) :: List.replicate 4 .no) = .ok (.rt (.str "name")) ρ' := by
  refine ⟨?w, ?h⟩
  case h =>
    simp [b_L_word, sIsE, c0_L_word, List.replicate, sizeLine_eq, gAdd, ofO, zipL, pairUp, joinG, txtsD, gSet, gOwn, sComp, compGo, plainAt, wipeE, backE, noX, gC, gN, sTru, sLoc, Opd.get, Cell.data, D.truth, iZipL, gTupA, sCons, sVar, sNil]
    rw [if_pos (by decide)]
    rfl
theorem ev_NoText (a : Addr) : ∃ ρ', b_L_word a false false false false false false false false true false (.fro (.exn a) :: List.replicate 4 .no) = .ok (.rt (.str "text")) ρ' := by
  refine ⟨?w, ?h⟩
  case h =>
    simp [b_L_word, sIsE, c0_L_word, List.replicate, sizeLine_eq, gAdd, ofO, zipL, pairUp, joinG, txtsD, gSet, gOwn, sComp, compGo, plainAt, wipeE, backE, noX, gC, gN, sTru, sLoc, Opd.get, Cell.data, D.truth, iZipL, gTupA, sCons, sVar, sNil]
    rw [if_pos (by decide)]
    rfl
theorem ev_NoSystem (a : Addr) : ∃ ρ', b_L_word a false false false false true false false false false false (.fro (.exn a) :: List.replicate 4 .no) = .ok (.rt (.str "system")) ρ' := by
  refine ⟨?w, ?h⟩
  case h =>
    simp [b_L_word, sIsE, c0_L_word, List.replicate, sizeLine_eq, gAdd, ofO, zipL, pairUp, joinG, txtsD, gSet, gOwn, sComp, compGo, plainAt, wipeE, backE, noX, gC, gN, sTru, sLoc, Opd.get, Cell.data, D.truth, iZipL, gTupA, sCons, sVar, sNil]
    rw [if_pos (by decide)]
    rfl
theorem ev_NoScript (a : Addr) : ∃ ρ', b_L_word a false false false true false false false false false false (.fro (.exn a) :: List.replicate 4 .no) = .ok (.rt (.str "script")) ρ' := by
  refine ⟨?w, ?h⟩
  case h =>
    simp [b_L_word, sIsE, c0_L_word, List.replicate, sizeLine_eq, gAdd, ofO, zipL, pairUp, joinG, txtsD, gSet, gOwn, sComp, compGo, plainAt, wipeE, backE, noX, gC, gN, sTru, sLoc, Opd.get, Cell.data, D.truth, iZipL, gTupA, sCons, sVar, sNil]
    rw [if_pos (by decide)]
    rfl
theorem ev_NoExpression (a : Addr) : ∃ ρ', b_L_word a false false true false false false false false false false (.fro (.exn a) :: List.replicate 4 .no) = .ok (.rt (.str "expression")) ρ' := by
  refine ⟨?w, ?h⟩
  case h =>
    simp [b_L_word, sIsE, c0_L_word, List.replicate, sizeLine_eq, gAdd, ofO, zipL, pairUp, joinG, txtsD, gSet, gOwn, sComp, compGo, plainAt, wipeE, backE, noX, gC, gN, sTru, sLoc, Opd.get, Cell.data, D.truth, iZipL, gTupA, sCons, sVar, sNil]
    rw [if_pos (by decide)]
    rfl
theorem ev_NoCounters (a : Addr) : ∃ ρ', b_L_word a false true false false false false false false false false (.fro (.exn a) :: List.replicate 4 .no) = .ok (.rt (.str "counters")) ρ' := by
  refine ⟨?w, ?h⟩
  case h =>
    simp [b_L_word, sIsE, c0_L_word, List.replicate, sizeLine_eq, gAdd, ofO, zipL, pairUp, joinG, txtsD, gSet, gOwn, sComp, compGo, plainAt, wipeE, backE, noX, gC, gN, sTru, sLoc, Opd.get, Cell.data, D.truth, iZipL, gTupA, sCons, sVar, sNil]
    rw [if_pos (by decide)]
    rfl
theorem ev_TooMany (a : Addr) : ∃ ρ', b_L_word a false false false false false false false false false true (.fro (.exn a) :: List.replicate 4 .no) = .ok (.rt (.str "many")) ρ' := by
  refine ⟨?w, ?h⟩
  case h =>
    simp [b_L_word, sIsE, c0_L_word, List.replicate, sizeLine_eq, gAdd, ofO, zipL, pairUp, joinG, txtsD, gSet, gOwn, sComp, compGo, plainAt, wipeE, backE, noX, gC, gN, sTru, sLoc, Opd.get, Cell.data, D.truth, iZipL, gTupA, sCons, sVar, sNil]
    rw [if_pos (by decide)]
    rfl
theorem ev_NoWay (a : Addr) : ∃ ρ', b_L_word a false false false false false false false true false false (.fro (.exn a) :: List.replicate 4 .no) = .ok (.rt (.str "way")) ρ' := by
  refine ⟨?w, ?h⟩
  case h =>
    simp [b_L_word, sIsE, c0_L_word, List.replicate, sizeLine_eq, gAdd, ofO, zipL, pairUp, joinG, txtsD, gSet, gOwn, sComp, compGo, plainAt, wipeE, backE, noX, gC, gN, sTru, sLoc, Opd.get, Cell.data, D.truth, iZipL, gTupA, sCons, sVar, sNil]
    rw [if_pos (by decide)]
    rfl
theorem hwd_ok (T : Tx K mg) : ∀ x d, wdX x = some d → PySem.W.exmOne K (.ref (exA K x.cls)) (.ref (exA K "CountError")) = some true ∧ ∃ w, d = .str w ∧ GoodW K (exA K x.cls) w := fun ⟨c, a⟩ d h => by
  unfold wdX at h
  simp only at h
  by_cases h0 : c = "NoCounter"
  · subst h0; simp at h; subst h; exact ⟨T.d_NoCounter.exm, _, rfl, T.d_NoCounter.c, _, _, _, _, _, _, _, _, _, _, T.b_NoCounter, ev_NoCounter⟩
  rw [if_neg h0] at h
  by_cases h1 : c = "NoNumber"
  · subst h1; simp at h; subst h; exact ⟨T.d_NoNumber.exm, _, rfl, T.d_NoNumber.c, _, _, _, _, _, _, _, _, _, _, T.b_NoNumber, ev_NoNumber⟩
  rw [if_neg h1] at h
  by_cases h2 : c = "NoName"
  · subst h2; simp at h; subst h; exact ⟨T.d_NoName.exm, _, rfl, T.d_NoName.c, _, _, _, _, _, _, _, _, _, _, T.b_NoName, ev_NoName⟩
  rw [if_neg h2] at h
  by_cases h3 : c = "NoText"
  · subst h3; simp at h; subst h; exact ⟨T.d_NoText.exm, _, rfl, T.d_NoText.c, _, _, _, _, _, _, _, _, _, _, T.b_NoText, ev_NoText⟩
  rw [if_neg h3] at h
  by_cases h4 : c = "NoSystem"
  · subst h4; simp at h; subst h; exact ⟨T.d_NoSystem.exm, _, rfl, T.d_NoSystem.c, _, _, _, _, _, _, _, _, _, _, T.b_NoSystem, ev_NoSystem⟩
  rw [if_neg h4] at h
  by_cases h5 : c = "NoScript"
  · subst h5; simp at h; subst h; exact ⟨T.d_NoScript.exm, _, rfl, T.d_NoScript.c, _, _, _, _, _, _, _, _, _, _, T.b_NoScript, ev_NoScript⟩
  rw [if_neg h5] at h
  by_cases h6 : c = "NoExpression"
  · subst h6; simp at h; subst h; exact ⟨T.d_NoExpression.exm, _, rfl, T.d_NoExpression.c, _, _, _, _, _, _, _, _, _, _, T.b_NoExpression, ev_NoExpression⟩
  rw [if_neg h6] at h
  by_cases h7 : c = "NoCounters"
  · subst h7; simp at h; subst h; exact ⟨T.d_NoCounters.exm, _, rfl, T.d_NoCounters.c, _, _, _, _, _, _, _, _, _, _, T.b_NoCounters, ev_NoCounters⟩
  rw [if_neg h7] at h
  by_cases h8 : c = "TooMany"
  · subst h8; simp at h; subst h; exact ⟨T.d_TooMany.exm, _, rfl, T.d_TooMany.c, _, _, _, _, _, _, _, _, _, _, T.b_TooMany, ev_TooMany⟩
  rw [if_neg h8] at h
  by_cases h9 : c = "NoWay"
  · subst h9; simp at h; subst h; exact ⟨T.d_NoWay.exm, _, rfl, T.d_NoWay.c, _, _, _, _, _, _, _, _, _, _, T.b_NoWay, ev_NoWay⟩
  rw [if_neg h9] at h
  cases h
theorem w_is_name (T : Tx K mg) (F : Fn K mg "is_name" st_is_name ["thing"]) : Cal P w K mg base "is_name" 1 (spP ⟨K, ⟨exA K, []⟩⟩ 1 m_is_name) :=
  cal_P (exA K) F sc_is_name fun f cdv A outer s H E hr => by
    have hu := at_def (P := P) (w := w) (K := K) (mg := mg) (base := base) (f := f) (cdv := cdv) (A := A) (outer := outer) (s := s) (H := H) (E := E) sc_is_name hr
    exact (d_sone (d_ret (d_and (d_isi1 rfl T.n_isinstance (by decide) rfl T.n_str (d_loc (pv 0))) (d_and (d_chain op_leA op_leA psem_ord psem_ord (d_val d_int) (d_val (d_callB call_lenA psem_len rfl T.n_len (d_bcons (d_loc (pv 0)) d_bnil))) (d_val d_int)) (d_one (d_callB (cr_all hu.calm) psem_all rfl T.n_all (d_bcons (d_val (d_fz (d_compF (own := [("sign", 1)]) hu (d_iAny (d_var (pv 0))) (blkOk_by (N := ["thing", "sign"]) (sc := defScope st_is_name) (own := [("sign", 1)]) (by decide +kernel)) (fun _ _ _ _ _ => (d_gName (at_blk hu).nd rfl (by first | exact Or.inl rfl | exact Or.inr rfl) (by first | exact Or.inl rfl | exact Or.inr rfl))) (fun _ _ _ _ _ => pts_nilT) (fun _ _ _ _ _ => (d_cmp (op_inA (at_blk hu).un) psem_in (d_loc (pv 1)) (d_val (d_glob rfl T.c_LETTERS fun _ => .str _)) (by rfl))) (by decide)))) d_bnil)))))))
theorem w_is_integer (T : Tx K mg) (F : Fn K mg "is_integer" st_is_integer ["thing"]) : Cal P w K mg base "is_integer" 1 (spP ⟨K, ⟨exA K, []⟩⟩ 1 m_is_integer) :=
  cal_P (exA K) F sc_is_integer fun f cdv A outer s H E hr => by
    have hu := at_def (P := P) (w := w) (K := K) (mg := mg) (base := base) (f := f) (cdv := cdv) (A := A) (outer := outer) (s := s) (H := H) (E := E) sc_is_integer hr
    exact (d_sone (d_ret (d_and (d_isi1 rfl T.n_isinstance (by decide) rfl T.n_int (d_loc (pv 0))) (d_one (d_not (d_val (d_isi1 rfl T.n_isinstance (by decide) rfl T.n_bool (d_loc (pv 0)))))))))
theorem w_is_counter (T : Tx K mg) (F : Fn K mg "is_counter" st_is_counter ["thing"]) (C_is_name : Cal P w K mg base "is_name" 1 (spP ⟨K, ⟨exA K, []⟩⟩ 1 (m_is_name))) (C_is_integer : Cal P w K mg base "is_integer" 1 (spP ⟨K, ⟨exA K, []⟩⟩ 1 (m_is_integer))) : Cal P w K mg base "is_counter" 2 (spP ⟨K, ⟨exA K, []⟩⟩ 1 m_is_counter) :=
  cal_P (exA K) F sc_is_counter fun f cdv A outer s H E hr => by
    have hu := at_def (P := P) (w := w) (K := K) (mg := mg) (base := base) (f := f) (cdv := cdv) (A := A) (outer := outer) (s := s) (H := H) (E := E) sc_is_counter hr
    exact (d_scons (d_ifS (d_tnot (d_tru (d_val (d_isi1 rfl T.n_isinstance (by decide) rfl T.n_tuple (d_loc (pv 0)))))) (d_sone (d_ret d_bl)) d_snil)
      (d_scons (d_for hu (passes_of rfl) (d_iAny (d_var (pv 0))) (d_gName hu.nd rfl (by first | exact Or.inl rfl | exact Or.inr rfl) (by first | exact Or.inl rfl | exact Or.inr rfl)) (d_sone (d_ifS (PW.pt (d_wor (d_tnot (d_tru (d_val (d_isi1 rfl T.n_isinstance (by decide) rfl T.n_tuple (d_loc (pv 1)))))) (d_wor (d_tcmp (op_neD hu.un) psem_ne (d_val (d_callB call_lenA psem_len rfl T.n_len (d_bcons (d_loc (pv 1)) d_bnil))) (d_val d_int) (nomark _)) (d_wor (d_tnot (d_tru (d_val (d_callP hu C_is_name (hr.mono (by omega)) rfl (d_cons (d_idx hu (d_loc (pv 1)) (d_val d_int)) d_nil))))) (d_wor1 (d_tnot (d_tru (d_val (d_callP hu C_is_integer (hr.mono (by omega)) rfl (d_cons (d_idx hu (d_loc (pv 1)) (d_val d_int)) d_nil)))))))))) (d_sone (d_ret d_bl)) d_snil)))
      (d_sone (d_ret (d_cmp (op_eqD hu.un) psem_eq (d_val (d_callB call_lenA psem_len rfl T.n_len (d_bcons (d_val (d_fz (d_dcompF (own := [("part", 1)]) hu (d_iAny (d_var (pv 0))) (blkOk_by (N := ["thing", "part"]) (sc := defScope st_is_counter) (own := [("part", 1)]) (by decide +kernel)) (fun _ _ _ _ _ => (d_gName (at_blk hu).nd rfl (by first | exact Or.inl rfl | exact Or.inr rfl) (by first | exact Or.inl rfl | exact Or.inr rfl))) (fun _ _ _ _ _ => pts_nilT) (fun _ _ _ _ _ => (d_idx (at_blk hu) (d_loc (pv 1)) (d_val d_int))) (fun _ _ _ _ _ => d_bl) (by decide)))) d_bnil))) (d_val (d_callB call_lenA psem_len rfl T.n_len (d_bcons (d_loc (pv 0)) d_bnil))) (nomark _))))))
theorem hc_T___init__ : ∀ a d, match m_T___init__ d with | .ok d' _ => b_T___init__ [.fro (.exn a), .fro d] = .ok .nx [.fro (.exn a), .fro d'] | .exc x => ∃ ρ', b_T___init__ [.fro (.exn a), .fro d] = .exc x ρ' | .stuck => True := fun a d => by
  unfold m_T___init__ b_T___init__
  cases e : m_is_counter [d] with
  | stuck => trivial
  | exc x => trivial
  | ok z o =>
    cases z with
    | bl b => cases b <;> simp [e, sIfS, sNot, sTst, sTru, sVal, sCallP, sCons, sNil, sVar, endP, tNotS, sRaise, sNx, Opd.get, D.truth]
    | _ => trivial
theorem w_T___init__ {f : Addr} {fd : FuncData} {ta : Addr} (T : Tx K mg) (M : Mk K (TC K) f) (FD : FunD K "__init__" "Tally.__init__" (defArgs st_T___init__) (defBody st_T___init__) (defScope st_T___init__) [.ref ta] [] f fd) (hta : EtC K ta) (C_is_counter : Cal P w K mg base "is_counter" 2 (spP ⟨K, ⟨exA K, []⟩⟩ 1 (m_is_counter))) : TalMk P w K mg base 3 m_T___init__ :=
  talMk_of (s1 := (defBody st_T___init__).getD 0 (.Pass ⟨0, 0, 0, 0⟩)) (body := b_T___init__) (chk := m_T___init__) T.tC M FD sc_T___init__ hta (fun T kV doc pm an cdv ct us its h1 h2 => match us, its, h1, h2 with | [_, _], [_], _, _ => ⟨_, rfl, rfl⟩) (fun T kV doc pm an cdv ct us its h1 h2 => match us, its, h1, h2 with | [_], [_], _, _ => ⟨_, rfl, rfl⟩) rfl hc_T___init__ fun cdv A outer s H E hr => by
    have hu := at_def (P := P) (w := w) (K := K) (mg := mg) (base := base) (f := f) (cdv := cdv) (A := A) (outer := outer) (s := s) (H := H) (E := E) sc_T___init__ hr
    exact (d_ifS (d_tnot (d_tru (d_val (d_callP hu C_is_counter (hr.mono (by omega)) rfl (d_cons (d_var (pv 1)) d_nil))))) (d_sone (d_raise hu T.k_NoCounter rfl)) d_snil)
theorem w_L_draw (T : Tx K mg) (F : Fn K mg "_law_draw" st_L_draw ["_law_tape", "_law_many"]) : Cal P w K mg base "_law_draw" 1 (spI ⟨K, ⟨exA K, []⟩⟩ 2 m_L_draw) :=
  cal_I (exA K) F sc_L_draw (by decide) fun f cdv A outer s H E hr => by
    have hu := at_def (P := P) (w := w) (K := K) (mg := mg) (base := base) (f := f) (cdv := cdv) (A := A) (outer := outer) (s := s) (H := H) (E := E) sc_L_draw hr
    exact (d_scons (d_set hu rfl (by first | exact Or.inl rfl | exact Or.inr rfl) d_int)
      (d_scons (d_ifS (d_tcmp op_ltA psem_ord (d_val (d_idx hu (d_loc (pv 0)) (d_val d_int))) (d_loc (pv 1)) (nomark _)) (d_scons (d_set hu rfl (by first | exact Or.inl rfl | exact Or.inr rfl) d_int)
      (d_scons (d_ifS (d_tcmp op_gtA psem_ord (d_val (d_callB call_lenA psem_len rfl T.n_len (d_bcons (d_val (d_idx hu (d_loc (pv 0)) (d_val d_int))) d_bnil))) (d_val d_int) (nomark _)) (d_sone (d_set hu rfl (by first | exact Or.inl rfl | exact Or.inr rfl) (d_idx hu (d_val (d_idx hu (d_loc (pv 0)) (d_val d_int))) (d_val (d_mod (d_val (d_callTy call_int1 psem_int rfl T.n_int (d_bcons (d_val (d_idx hu (d_loc (pv 0)) (d_val d_int))) d_bnil))) (d_val (d_callB call_lenA psem_len rfl T.n_len (d_bcons (d_val (d_idx hu (d_loc (pv 0)) (d_val d_int))) d_bnil)))))))) d_snil)
      (d_scons (d_ifS (PW.pt (d_wor (d_tcmp op_geA psem_ord (d_val (d_idx hu (d_loc (pv 0)) (d_val d_int))) (d_val (d_callB call_lenA psem_len rfl T.n_len (d_bcons (d_val (d_idx hu (d_loc (pv 0)) (d_val d_int))) d_bnil))) (nomark _)) (d_wor1 (d_tcmp op_ltA psem_ord (d_loc (pv 4)) (d_val (d_pow (d_val d_int) (d_val d_int))) (nomark _))))) (d_scons (d_set hu rfl (by first | exact Or.inl rfl | exact Or.inr rfl) (d_mod (d_val (d_callTy call_int1 psem_int rfl T.n_int (d_bcons (d_val (d_add (d_loc (pv 4)) (d_val (d_mul (d_val d_int) (d_val (d_idx hu (d_loc (pv 0)) (d_val d_int))))))) d_bnil))) (d_loc (pv 2))))
      (d_scons (d_set hu rfl (by first | exact Or.inl rfl | exact Or.inr rfl) (d_mod (d_val (d_callTy call_int1 psem_int rfl T.n_int (d_bcons (d_val (d_add (d_val (d_add (d_val (d_mul (d_loc (pv 4)) (d_loc (pv 4)))) (d_val (d_mul (d_val d_int) (d_loc (pv 4)))))) (d_val d_int))) d_bnil))) (d_loc (pv 2))))
      (d_sone (d_set hu rfl (by first | exact Or.inl rfl | exact Or.inr rfl) (d_mod (d_val (d_callTy call_int1 psem_int rfl T.n_int (d_bcons (d_val (d_add (d_val (d_mul (d_loc (pv 4)) (d_loc (pv 4)))) (d_val d_int))) d_bnil))) (d_loc (pv 2))))))) d_snil)
      (d_scons (d_asg (d_add (d_val (d_idx hu (d_loc (pv 0)) (d_val d_int))) (d_val d_int)) (d_gPut hu (pv 0) (d_val d_int)))
      (d_sone (d_asg (d_var (pv 4)) (d_gPut hu (pv 0) (d_val d_int)))))))) d_snil)
      (d_scons (d_set hu rfl (by first | exact Or.inl rfl | exact Or.inr rfl) (d_mod (d_val (d_callTy call_int1 psem_int rfl T.n_int (d_bcons (d_val (d_idx hu (d_loc (pv 0)) (d_val d_int))) d_bnil))) (d_loc (pv 1))))
      (d_scons (d_asg (d_div (d_val (d_idx hu (d_loc (pv 0)) (d_val d_int))) (d_loc (pv 1))) (d_gPut hu (pv 0) (d_val d_int)))
      (d_sone (d_ret (d_var (pv 3))))))))
theorem w_L_near (T : Tx K mg) (F : Fn K mg "_law_near" st_L_near ["_law_tape", "_law_wide"]) (C_L_draw : Cal P w K mg base "_law_draw" 1 (spI ⟨K, ⟨exA K, []⟩⟩ 2 (m_L_draw))) : Cal P w K mg base "_law_near" 2 (spI ⟨K, ⟨exA K, []⟩⟩ 2 m_L_near) :=
  cal_I (exA K) F sc_L_near (by decide) fun f cdv A outer s H E hr => by
    have hu := at_def (P := P) (w := w) (K := K) (mg := mg) (base := base) (f := f) (cdv := cdv) (A := A) (outer := outer) (s := s) (H := H) (E := E) sc_L_near hr
    exact (d_sone (d_ret (d_sub (d_val (d_callI hu C_L_draw (hr.mono (by omega)) rfl (pv 0) (d_cons (d_add (d_val (d_mul (d_val d_int) (d_loc (pv 1)))) (d_val d_int)) d_nil))) (d_loc (pv 1)))))
theorem w_L_wordv (T : Tx K mg) (F : Fn K mg "_law_word" st_L_wordv ["_law_e"]) : Cal P w K mg base "_law_word" 1 (spP ⟨K, ⟨exA K, []⟩⟩ 1 m_L_wordv) :=
  cal_P (exA K) F sc_L_wordv fun f cdv A outer s H E hr => by
    have hu := at_def (P := P) (w := w) (K := K) (mg := mg) (base := base) (f := f) (cdv := cdv) (A := A) (outer := outer) (s := s) (H := H) (E := E) sc_L_wordv hr
    exact (d_scons (d_setF hu rfl (by first | exact Or.inl rfl | exact Or.inr rfl) (d_lstF (d_cons (d_isX (tb := tbX 0) rfl T.n_isinstance (pe_glob (v := .ref (exA K "NoCounter")) rfl T.m_NoCounter rfl (by decide)) (fun _ h => h) (hX_0 T) (d_var (pv 0))) (d_cons (d_isX (tb := tbX 1) rfl T.n_isinstance (pe_glob (v := .ref (exA K "NoCounters")) rfl T.m_NoCounters rfl (by decide)) (fun _ h => h) (hX_1 T) (d_var (pv 0))) (d_cons (d_isX (tb := tbX 2) rfl T.n_isinstance (pe_glob (v := .ref (exA K "NoExpression")) rfl T.m_NoExpression rfl (by decide)) (fun _ h => h) (hX_2 T) (d_var (pv 0))) (d_cons (d_isX (tb := tbX 3) rfl T.n_isinstance (pe_glob (v := .ref (exA K "NoScript")) rfl T.m_NoScript rfl (by decide)) (fun _ h => h) (hX_3 T) (d_var (pv 0))) d_nil))))))
      (d_scons (d_set hu rfl (by first | exact Or.inl rfl | exact Or.inr rfl) (d_add (d_loc (pv 1)) (d_val (d_fz (d_lstF (d_cons (d_isX (tb := tbX 4) rfl T.n_isinstance (pe_glob (v := .ref (exA K "NoSystem")) rfl T.m_NoSystem rfl (by decide)) (fun _ h => h) (hX_4 T) (d_var (pv 0))) (d_cons (d_isX (tb := tbX 5) rfl T.n_isinstance (pe_glob (v := .ref (exA K "NoName")) rfl T.m_NoName rfl (by decide)) (fun _ h => h) (hX_5 T) (d_var (pv 0))) (d_cons (d_isX (tb := tbX 6) rfl T.n_isinstance (pe_glob (v := .ref (exA K "NoNumber")) rfl T.m_NoNumber rfl (by decide)) (fun _ h => h) (hX_6 T) (d_var (pv 0))) (d_cons (d_isX (tb := tbX 7) rfl T.n_isinstance (pe_glob (v := .ref (exA K "NoWay")) rfl T.m_NoWay rfl (by decide)) (fun _ h => h) (hX_7 T) (d_var (pv 0))) d_nil)))))))))
      (d_scons (d_set hu rfl (by first | exact Or.inl rfl | exact Or.inr rfl) (d_add (d_loc (pv 1)) (d_val (d_fz (d_lstF (d_cons (d_isX (tb := tbX 8) rfl T.n_isinstance (pe_glob (v := .ref (exA K "NoText")) rfl T.m_NoText rfl (by decide)) (fun _ h => h) (hX_8 T) (d_var (pv 0))) (d_cons (d_isX (tb := tbX 9) rfl T.n_isinstance (pe_glob (v := .ref (exA K "TooMany")) rfl T.m_TooMany rfl (by decide)) (fun _ h => h) (hX_9 T) (d_var (pv 0))) d_nil)))))))
      (d_scons (d_setF hu rfl (by first | exact Or.inl rfl | exact Or.inr rfl) (d_lstF (d_cons d_str (d_cons d_str (d_cons d_str (d_cons d_str (d_cons d_str (d_cons d_str (d_cons d_str (d_cons d_str (d_cons d_str (d_cons d_str d_nil))))))))))))
      (d_sone (d_ret (d_join d_str (d_fz (d_compF (own := [("_law_word_here", 3), ("_law_there", 4)]) hu (d_iZipX rfl T.n_zip (d_cons (d_var (pv 2)) (d_cons (d_var (pv 1)) d_nil))) (blkOk_by (N := ["_law_e", "_law_some", "_law_named", "_law_word_here", "_law_there"]) (sc := defScope st_L_wordv) (own := [("_law_word_here", 3), ("_law_there", 4)]) (by decide +kernel)) (fun _ _ _ _ _ => (d_gTup (at_blk hu).calm (d_gC (d_gName (at_blk hu).nd rfl (by first | exact Or.inl rfl | exact Or.inr rfl) (by first | exact Or.inl rfl | exact Or.inr rfl)) (d_gC (d_gName (at_blk hu).nd rfl (by first | exact Or.inl rfl | exact Or.inr rfl) (by first | exact Or.inl rfl | exact Or.inr rfl)) d_gN)))) (fun _ _ _ _ _ => (pts_one (d_tru (d_loc (pv 4))))) (fun _ _ _ _ _ => (d_var (pv 3))) (by decide))))))))))
theorem w_one_count (T : Tx K mg) (F : Fn K mg "one_count" st_one_count ["way", "count", "other"]) : Cal P w K mg base "one_count" 1 (spP ⟨K, ⟨exA K, []⟩⟩ 3 m_one_count) :=
  cal_P (exA K) F sc_one_count fun f cdv A outer s H E hr => by
    have hu := at_def (P := P) (w := w) (K := K) (mg := mg) (base := base) (f := f) (cdv := cdv) (A := A) (outer := outer) (s := s) (H := H) (E := E) sc_one_count hr
    exact (d_scons (d_ifS (PW.pt (d_wand (d_tcmp op_isA psem_is (d_loc (pv 1)) (d_val d_non) (nomark _)) (d_wand1 (d_tcmp op_isA psem_is (d_loc (pv 2)) (d_val d_non) (nomark _))))) (d_sone (d_ret d_non)) d_snil)
      (d_scons (d_ifS (PW.pt (d_wor (d_tcmp (op_eqD hu.un) psem_eq (d_loc (pv 0)) (d_val d_str) (nomark _)) (d_wor1 (d_tcmp (op_eqD hu.un) psem_eq (d_loc (pv 0)) (d_val d_str) (nomark _))))) (d_scons (d_set hu rfl (by first | exact Or.inl rfl | exact Or.inr rfl) (d_if (d_tcmp (op_eqD hu.un) psem_eq (d_loc (pv 0)) (d_val d_str) (nomark _)) d_int (d_neg (d_val d_int))))
      (d_sone (d_ret (d_add (d_val (d_if (d_tcmp op_isA psem_is (d_loc (pv 1)) (d_val d_non) (nomark _)) d_int (d_var (pv 1)))) (d_val (d_mul (d_loc (pv 3)) (d_val (d_if (d_tcmp op_isA psem_is (d_loc (pv 2)) (d_val d_non) (nomark _)) d_int (d_var (pv 2)))))))))) d_snil)
      (d_scons (d_ifS (PW.pt (d_wand (d_tcmp (op_eqD hu.un) psem_eq (d_loc (pv 0)) (d_val d_str) (nomark _)) (d_wand1 (d_tcmp op_isA psem_is (d_loc (pv 1)) (d_val d_non) (nomark _))))) (d_sone (d_ret d_non)) d_snil)
      (d_scons (d_par hu rfl rfl (by decide) rfl rfl (d_cons (d_if (d_tcmp op_isA psem_is (d_loc (pv 1)) (d_val d_non) (nomark _)) d_int (d_var (pv 1))) (d_cons (d_if (d_tcmp op_isA psem_is (d_loc (pv 2)) (d_val d_non) (nomark _)) d_int (d_var (pv 2))) d_nil)) rfl)
      (d_scons (d_ifS (d_tcmp (op_eqD hu.un) psem_eq (d_loc (pv 0)) (d_val d_str) (nomark _)) (d_sone (d_set hu rfl (by first | exact Or.inl rfl | exact Or.inr rfl) (d_add (d_loc (pv 4)) (d_loc (pv 5))))) (d_sone (d_ifS (d_tcmp (op_eqD hu.un) psem_eq (d_loc (pv 0)) (d_val d_str) (nomark _)) (d_sone (d_set hu rfl (by first | exact Or.inl rfl | exact Or.inr rfl) (d_sub (d_loc (pv 4)) (d_loc (pv 5))))) (d_sone (d_set hu rfl (by first | exact Or.inl rfl | exact Or.inr rfl) (d_if (d_tcmp (op_eqD hu.un) psem_eq (d_loc (pv 0)) (d_val d_str) (nomark _)) (d_callB (call_max2 hu.calm) psem_max2 rfl T.n_max (d_bcons (d_loc (pv 4)) (d_bcons (d_loc (pv 5)) d_bnil))) (d_callB (call_min2 hu.calm) psem_min2 rfl T.n_min (d_bcons (d_loc (pv 4)) (d_bcons (d_loc (pv 5)) d_bnil)))))))))
      (d_sone (d_ret (d_if (d_tcmp op_gtA psem_ord (d_loc (pv 6)) (d_val d_int) (nomark _)) (d_var (pv 6)) d_non))))))))
theorem w_joined (T : Tx K mg) (F : Fn K mg "joined" st_joined ["way", "one", "other"]) (C_one_count : Cal P w K mg base "one_count" 1 (spP ⟨K, ⟨exA K, []⟩⟩ 3 (m_one_count))) : Cal P w K mg base "joined" 2 (spP ⟨K, ⟨exA K, []⟩⟩ 3 m_joined) :=
  cal_P (exA K) F sc_joined fun f cdv A outer s H E hr => by
    have hu := at_def (P := P) (w := w) (K := K) (mg := mg) (base := base) (f := f) (cdv := cdv) (A := A) (outer := outer) (s := s) (H := H) (E := E) sc_joined hr
    exact (d_scons (d_asg (d_tup (d_cons (d_fz (d_callTyF (call_dictT hu.calm) fsem_dict rfl T.n_dict (d_bcons (d_loc (pv 1)) d_bnil))) (d_cons (d_fz (d_callTyF (call_dictT hu.calm) fsem_dict rfl T.n_dict (d_bcons (d_loc (pv 2)) d_bnil))) d_nil))) (d_gTup hu.calm (d_gC (d_gName hu.nd rfl (by first | exact Or.inl rfl | exact Or.inr rfl) (by first | exact Or.inl rfl | exact Or.inr rfl)) (d_gC (d_gName hu.nd rfl (by first | exact Or.inl rfl | exact Or.inr rfl) (by first | exact Or.inl rfl | exact Or.inr rfl)) d_gN))))
      (d_scons (d_setF hu rfl (by first | exact Or.inl rfl | exact Or.inr rfl) (d_lstF d_nil))
      (d_scons (d_for hu (passes_of rfl) (d_iAny (d_add (d_val (d_fz (d_callTyF (call_listA hu.calm) fsem_list rfl T.n_list (d_bcons (d_loc (pv 5)) d_bnil)))) (d_val (d_fz (d_compF (own := [("key", 4)]) hu (d_iAny (d_var (pv 6))) (blkOk_by (N := ["way", "one", "other", "found", "key", "counts", "others", "count"]) (sc := defScope st_joined) (own := [("key", 4)]) (by decide +kernel)) (fun _ _ _ _ _ => (d_gName (at_blk hu).nd rfl (by first | exact Or.inl rfl | exact Or.inr rfl) (by first | exact Or.inl rfl | exact Or.inr rfl))) (fun _ _ _ _ _ => (pts_one (d_tcmp (op_notInA (at_blk hu).un) psem_notIn (d_loc (pv 4)) (d_loc (pv 5)) (by rfl)))) (fun _ _ _ _ _ => (d_var (pv 4))) (by decide)))))) (d_gName hu.nd rfl (by first | exact Or.inl rfl | exact Or.inr rfl) (by first | exact Or.inl rfl | exact Or.inr rfl)) (d_scons (d_set hu rfl (by first | exact Or.inl rfl | exact Or.inr rfl) (d_callP hu C_one_count (hr.mono (by omega)) rfl (d_cons (d_var (pv 0)) (d_cons (d_get1 hu (d_loc (pv 5)) (d_var (pv 4))) (d_cons (d_get1 hu (d_loc (pv 6)) (d_var (pv 4))) d_nil)))))
      (d_sone (d_ifS (d_tcmp op_isNotA psem_isNot (d_loc (pv 7)) (d_val d_non) (nomark _)) (d_sone (d_expr (d_mut PySem.F.slot_list_append PySem.F.type_list_append mt_append lmut_append (pv 3) (d_cons (d_tup (d_cons (d_var (pv 4)) (d_cons (d_var (pv 7)) d_nil))) d_nil)))) d_snil))))
      (d_sone (d_ret (d_callTy call_tupleZ psem_tuple rfl T.n_tuple (d_bcons (d_loc (pv 3)) d_bnil)))))))
theorem w_looked (T : Tx K mg) (F : Fn K mg "looked" st_looked ["other"]) : Cal P w K mg base "looked" 1 (spP ⟨K, ⟨exA K, []⟩⟩ 1 m_looked) :=
  cal_P (exA K) F sc_looked fun f cdv A outer s H E hr => by
    have hu := at_def (P := P) (w := w) (K := K) (mg := mg) (base := base) (f := f) (cdv := cdv) (A := A) (outer := outer) (s := s) (H := H) (E := E) sc_looked hr
    exact (d_scons (d_ifS (d_tnot (d_tru (d_val (d_isT T.tC T.tI T.m_Tally rfl T.n_isinstance rfl (d_loc (pv 0)))))) (d_sone (d_raise hu T.k_NoCounter rfl)) d_snil)
      (d_sone (d_ret (d_row T.tC (d_loc (pv 0))))))
theorem w_T_update (T : Tx K mg) (F : FnM K "update" "Tally.update" st_T_update ["self", "other"]) (C_joined : Cal P w K mg base "joined" 2 (spP ⟨K, ⟨exA K, []⟩⟩ 3 (m_joined))) (C_looked : Cal P w K mg base "looked" 1 (spP ⟨K, ⟨exA K, []⟩⟩ 1 (m_looked))) : CalM P w K mg base "update" 3 (spP ⟨K, ⟨exA K, []⟩⟩ 2 m_T_update) :=
  calM_P (exA K) F sc_T_update fun f cdv A outer s H E hr => by
    have hu := at_def (P := P) (w := w) (K := K) (mg := mg) (base := base) (f := f) (cdv := cdv) (A := A) (outer := outer) (s := s) (H := H) (E := E) sc_T_update hr
    exact (d_sone (d_rowSet (i := 0) T.tC (pv 0) (d_callP hu C_joined (hr.mono (by omega)) rfl (d_cons d_str (d_cons (d_row T.tC (d_loc (pv 0))) (d_cons (d_callP hu C_looked (hr.mono (by omega)) rfl (d_cons (d_var (pv 1)) d_nil)) d_nil))))))
theorem w_T_most_common (T : Tx K mg) (F : FnM K "most_common" "Tally.most_common" st_T_most_common ["self", "many"]) (C_is_integer : Cal P w K mg base "is_integer" 1 (spP ⟨K, ⟨exA K, []⟩⟩ 1 (m_is_integer))) : CalM P w K mg base "most_common" 2 (spP ⟨K, ⟨exA K, []⟩⟩ 2 m_T_most_common) :=
  calM_P (exA K) F sc_T_most_common fun f cdv A outer s H E hr => by
    have hu := at_def (P := P) (w := w) (K := K) (mg := mg) (base := base) (f := f) (cdv := cdv) (A := A) (outer := outer) (s := s) (H := H) (E := E) sc_T_most_common hr
    exact (d_scons (d_ifS (PW.pt (d_wor (d_tnot (d_tru (d_val (d_callP hu C_is_integer (hr.mono (by omega)) rfl (d_cons (d_var (pv 1)) d_nil))))) (d_wor1 (d_tcmp op_ltA psem_ord (d_loc (pv 1)) (d_val d_int) (nomark _))))) (d_sone (d_raise hu T.k_NoNumber rfl)) d_snil)
      (d_sone d_never))
theorem w_T_of (T : Tx K mg) (F : FnC K "of" "Tally.of" st_T_of ["cls", "names"]) (C_T___init__ : TalMk P w K mg base 3 m_T___init__) (C_is_name : Cal P w K mg base "is_name" 1 (spP ⟨K, ⟨exA K, []⟩⟩ 1 (m_is_name))) : CalC P w K mg base "of" 5 (spP ⟨K, ⟨exA K, []⟩⟩ 2 m_T_of) :=
  calC_P (exA K) F sc_T_of fun f cdv A outer s H E hr => by
    have hu := at_def (P := P) (w := w) (K := K) (mg := mg) (base := base) (f := f) (cdv := cdv) (A := A) (outer := outer) (s := s) (H := H) (E := E) sc_T_of hr
    exact (d_scons (d_ifS (PW.pt (d_wor (d_tnot (d_tru (d_val (d_isi2 rfl T.n_isinstance (by decide) (by decide) rfl T.n_list rfl T.n_tuple (d_loc (pv 1)))))) (d_wor1 (d_tnot (d_tru (d_val (d_callB (cr_all hu.calm) psem_all rfl T.n_all (d_bcons (d_val (d_fz (d_compF (own := [("name", 3)]) hu (d_iAny (d_var (pv 1))) (blkOk_by (N := ["cls", "names", "found", "name"]) (sc := defScope st_T_of) (own := [("name", 3)]) (by decide +kernel)) (fun _ _ _ _ _ => (d_gName (at_blk hu).nd rfl (by first | exact Or.inl rfl | exact Or.inr rfl) (by first | exact Or.inl rfl | exact Or.inr rfl))) (fun _ _ _ _ _ => pts_nilT) (fun _ _ _ _ _ => (d_callP (at_blk hu) C_is_name (hr.mono (by omega)) rfl (d_cons (d_var (pv 3)) d_nil))) (by decide)))) d_bnil)))))))) (d_sone (d_raise hu T.k_NoName rfl)) d_snil)
      (d_scons (d_setF hu rfl (by first | exact Or.inl rfl | exact Or.inr rfl) d_dctF)
      (d_scons (d_for hu (passes_of rfl) (d_iAny (d_var (pv 1))) (d_gName hu.nd rfl (by first | exact Or.inl rfl | exact Or.inr rfl) (by first | exact Or.inl rfl | exact Or.inr rfl)) (d_sone (d_asg (d_add (d_val (d_get2 hu (d_loc (pv 2)) (d_var (pv 3)) d_int)) (d_val d_int)) (d_gPut hu (pv 2) (d_loc (pv 3))))))
      (d_sone (d_ret (d_fz (d_mkV (i := 0) hu rfl (by first | exact Or.inl rfl | exact Or.inr (Or.inl rfl) | exact Or.inr (Or.inr rfl)) C_T___init__ (hr.mono (by omega)) (d_tupItems hu.calm rfl T.n_tuple (d_loc (pv 2))))))))))
theorem w_read_script (T : Tx K mg) (F : Fn K mg "read_script" st_read_script ["text"]) : Cal P w K mg base "read_script" 1 (spP ⟨K, ⟨exA K, []⟩⟩ 1 m_read_script) :=
  cal_P (exA K) F sc_read_script fun f cdv A outer s H E hr => by
    have hu := at_def (P := P) (w := w) (K := K) (mg := mg) (base := base) (f := f) (cdv := cdv) (A := A) (outer := outer) (s := s) (H := H) (E := E) sc_read_script hr
    exact (d_scons (d_ifS (d_tnot (d_tru (d_val (d_isi1 rfl T.n_isinstance (by decide) rfl T.n_str (d_loc (pv 0)))))) (d_sone (d_raise hu T.k_NoText rfl)) d_snil)
      (d_scons d_never
      (d_scons d_never
      (d_sone d_never))))
theorem w_law (T : Tx K mg) {fa c Tb : Addr} {kV doc pm ct oc : Value} {an od : Option Addr} {osl : Array (Option Value)} (lk : K.lookup fa = some ⟨oc, od, .func (PySem.W.fnOf "law" "law" (defArgs st_law) (defBody st_law) (defScope st_law) .none kV doc pm an (.ref c) ct), osl⟩) (hcd : PySem.W.codeIn K (.ref c) "law" = true) (TB : LamX.TabB base mg c Tb) (OI_TooMany : OwnInit P K (exA K "TooMany") "TooMany.__init__" st_TooMany) (C_T___init__ : TalMk P w K mg base 3 m_T___init__) (C_L_near : Cal P w K mg base "_law_near" 2 (spI ⟨K, ⟨exA K, []⟩⟩ 2 (m_L_near))) (N_tried : Fn K mg "_law_tried" st_L_tried ["_law_call"]) (W_word : WordAt P w K mg base 1 "_law_word" (GoodW K)) (C_L_wordv : Cal P w K mg base "_law_word" 1 (spP ⟨K, ⟨exA K, []⟩⟩ 1 (m_L_wordv))) (C_T_update : CalM P w K mg base "update" 3 (spP ⟨K, ⟨exA K, []⟩⟩ 2 m_T_update)) (C_T_most_common : CalM P w K mg base "most_common" 2 (spP ⟨K, ⟨exA K, []⟩⟩ 2 m_T_most_common)) (C_T_of : CalC P w K mg base "of" 5 (spP ⟨K, ⟨exA K, []⟩⟩ 2 m_T_of)) (C_read_script : Cal P w K mg base "read_script" 1 (spP ⟨K, ⟨exA K, []⟩⟩ 1 (m_read_script))) : FnOk P w K mg base (L2N.CX P w) 8 fa (PySem.W.fnOf "law" "law" (defArgs st_law) (defBody st_law) (defScope st_law) .none kV doc pm an (.ref c) ct) ["_law_script"] (spT K Tb m_law) :=
  law_T lk hcd sc_law fun A outer s H E hr => by
    have hu := at_def (P := P) (w := w) (K := K) (mg := mg) (base := base) (f := fa) (cdv := .ref c) (A := A) (outer := outer) (s := s) (H := H) (E := E) sc_law hr
    exact (d_scons (d_setF hu rfl (by first | exact Or.inl rfl | exact Or.inr rfl) (d_lstF (d_cons (d_fz (d_callTyF (call_listA hu.calm) fsem_list rfl T.n_list (d_bcons (d_loc (pv 0)) d_bnil))) (d_cons d_int (d_cons d_int d_nil)))))
      (d_scons (d_set hu rfl (by first | exact Or.inl rfl | exact Or.inr rfl) (d_callI hu C_L_near (hr.mono (by omega)) rfl (pv 1) (d_cons (d_pow (d_val d_int) (d_val d_int)) d_nil)))
      (d_scons (d_setF hu rfl (by first | exact Or.inl rfl | exact Or.inr rfl) (d_lstF (d_cons (d_xv T.k_NoCounter rfl) (d_cons (d_xv T.k_NoCounters rfl) (d_cons (d_xv T.k_NoExpression rfl) (d_cons (d_xv T.k_NoScript rfl) (d_cons (d_xv T.k_NoSystem rfl) (d_cons (d_xv T.k_NoName rfl) d_nil))))))))
      (d_scons (d_set hu rfl (by first | exact Or.inl rfl | exact Or.inr rfl) (d_add (d_loc (pv 3)) (d_val (d_fz (d_lstF (d_cons (d_xv T.k_NoNumber rfl) (d_cons (d_xv T.k_NoWay rfl) (d_cons (d_xv T.k_NoText rfl) (d_cons (d_xmA (k := 0) hu OI_TooMany is_TooMany T.n_super T.n_str T.m_TooMany (hr.mono (by omega)) rfl (d_var (pv 2))) d_nil)))))))))
      (d_scons (d_setF hu rfl (by first | exact Or.inl rfl | exact Or.inr rfl) (d_lstF (d_cons d_str (d_cons d_str (d_cons d_str (d_cons d_str (d_cons d_str (d_cons d_str (d_cons d_str (d_cons d_str (d_cons d_str (d_cons d_str d_nil))))))))))))
      (d_scons (d_ifS (PW.pt (d_wor (d_tcmp (op_neD hu.un) psem_ne (d_val (d_fz (d_compF (own := [("_law_e", 7)]) hu (d_iAny (d_var (pv 3))) (blkOk_by (N := ["_law_script", "_law_tape", "_law_number", "_law_rows", "_law_due", "_law_tally", "_law_told", "_law_e"]) (sc := defScope st_law) (own := [("_law_e", 7)]) (by decide +kernel)) (fun _ _ _ _ _ => (d_gName (at_blk hu).nd rfl (by first | exact Or.inl rfl | exact Or.inr rfl) (by first | exact Or.inl rfl | exact Or.inr rfl))) (fun _ _ _ _ _ => pts_nilT) (fun _ _ _ _ _ => (d_callP (at_blk hu) C_L_wordv (hr.mono (by omega)) rfl (d_cons (d_var (pv 7)) d_nil))) (by decide)))) (d_loc (pv 4)) (nomark _)) (d_wor1 (d_tcmp (op_neD hu.un) psem_ne (d_val (d_xmost (cs := ["TooMany"]) (fun c hc => by rw [List.mem_singleton.mp hc]; exact ⟨⟨T.d_TooMany.hg, T.d_TooMany.hk, T.d_TooMany.b, T.d_TooMany.hd⟩, OI_TooMany.no⟩) (d_idx hu (d_loc (pv 3)) (d_val (d_neg (d_val d_int)))))) (d_loc (pv 2)) (nomark _))))) (d_sone (d_ret d_bl)) d_snil)
      (d_scons (d_ifS (d_tcmp (op_neD hu.un) psem_ne (d_val (d_fz (d_compF (own := [("_law_e", 7)]) hu (d_iAny (d_var (pv 3))) (blkOk_by (N := ["_law_script", "_law_tape", "_law_number", "_law_rows", "_law_due", "_law_tally", "_law_told", "_law_e"]) (sc := defScope st_law) (own := [("_law_e", 7)]) (by decide +kernel)) (fun _ _ _ _ _ => (d_gName (at_blk hu).nd rfl (by first | exact Or.inl rfl | exact Or.inr rfl) (by first | exact Or.inl rfl | exact Or.inr rfl))) (fun _ _ _ _ _ => (pts_one (PW.pt (d_wor (d_tnot (d_tru (d_val (d_isX (tb := tbX 10) rfl T.n_isinstance (pe_glob (v := .ref (exA K "CountError")) rfl T.m_CountError rfl (by decide)) (fun _ h => h) (hX_10 T) (d_var (pv 7)))))) (d_wor1 (d_tnot (d_tru (d_val (d_isX (tb := tbX 11) (tv := .ty "ValueError") (cv := .type "ValueError") rfl T.n_isinstance (pe_bltn (v := .ty "ValueError") rfl T.n_ValueError (by decide +kernel) rfl (by decide) (by decide)) (fun _ h => h) (hX_11 T) (d_var (pv 7))))))))))) (fun _ _ _ _ _ => (d_var (pv 7))) (by decide)))) (d_val (d_fz (d_lstF d_nil))) (nomark _)) (d_sone (d_ret d_bl)) d_snil)
      (d_scons (d_set hu rfl (by first | exact Or.inl rfl | exact Or.inr rfl) (d_fz (d_mkT0 hu C_T___init__ T.m_Tally (hr.mono (by omega)) rfl)))
      (d_scons (d_setF hu rfl (by first | exact Or.inl rfl | exact Or.inr rfl) (d_lstF (d_cons (d_tried (k := 5) (kw := 1) hu TB rfl N_tried sc_L_tried hr rfl rfl T.m_CountError rfl rfl rfl rfl W_word (by decide) (hwd_ok T) (LamX.lamS_by (sc := defScope st_law) (by decide +kernel)) rfl (fun _ _ _ _ _ => rfl) (fun A outer s H E f c' hr => by have hu2 := at_lam (outer := outer) (H := H) (E := E) (f := f) (c := c') hu.nd hu.wd hr; exact (d_fz (d_mkT hu2 C_T___init__ T.m_Tally (hr.mono (by omega)) rfl d_int)))) d_nil)))
      (d_scons (d_expr (d_mut PySem.F.slot_list_append PySem.F.type_list_append mt_append lmut_append (pv 6) (d_cons (d_tried (k := 5) (kw := 1) hu TB rfl N_tried sc_L_tried hr rfl rfl T.m_CountError rfl rfl rfl rfl W_word (by decide) (hwd_ok T) (LamX.lamS_by (sc := defScope st_law) (by decide +kernel)) rfl (fun _ _ _ _ _ => rfl) (fun A outer s H E f c' hr => by have hu2 := at_lam (outer := outer) (H := H) (E := E) (f := f) (c := c') hu.nd hu.wd hr; exact (d_methP hu2 T.tC C_T_update (hr.mono (by omega)) (d_var (pv 5)) (d_cons d_non d_nil)))) d_nil)))
      (d_scons (d_expr (d_mut PySem.F.slot_list_append PySem.F.type_list_append mt_append lmut_append (pv 6) (d_cons (d_tried (k := 5) (kw := 1) hu TB rfl N_tried sc_L_tried hr rfl rfl T.m_CountError rfl rfl rfl rfl W_word (by decide) (hwd_ok T) (LamX.lamS_by (sc := defScope st_law) (by decide +kernel)) rfl (fun _ _ _ _ _ => rfl) (fun A outer s H E f c' hr => by have hu2 := at_lam (outer := outer) (H := H) (E := E) (f := f) (c := c') hu.nd hu.wd hr; exact (d_methP hu2 T.tC C_T_most_common (hr.mono (by omega)) (d_var (pv 5)) (d_cons (d_neg (d_val d_int)) d_nil)))) d_nil)))
      (d_scons (d_expr (d_mut PySem.F.slot_list_append PySem.F.type_list_append mt_append lmut_append (pv 6) (d_cons (d_tried (k := 5) (kw := 1) hu TB rfl N_tried sc_L_tried hr rfl rfl T.m_CountError rfl rfl rfl rfl W_word (by decide) (hwd_ok T) (LamX.lamS_by (sc := defScope st_law) (by decide +kernel)) rfl (fun _ _ _ _ _ => rfl) (fun A outer s H E f c' hr => by have hu2 := at_lam (outer := outer) (H := H) (E := E) (f := f) (c := c') hu.nd hu.wd hr; exact (d_cmeth hu2 C_T_of T.m_Tally (hr.mono (by omega)) rfl (d_cons (d_fz (d_lstF (d_cons d_int d_nil))) d_nil)))) d_nil)))
      (d_scons (d_expr (d_mut PySem.F.slot_list_append PySem.F.type_list_append mt_append lmut_append (pv 6) (d_cons (d_tried (k := 5) (kw := 1) hu TB rfl N_tried sc_L_tried hr rfl rfl T.m_CountError rfl rfl rfl rfl W_word (by decide) (hwd_ok T) (LamX.lamS_by (sc := defScope st_law) (by decide +kernel)) rfl (fun _ _ _ _ _ => rfl) (fun A outer s H E f c' hr => by have hu2 := at_lam (outer := outer) (H := H) (E := E) (f := f) (c := c') hu.nd hu.wd hr; exact (d_callP hu2 C_read_script (hr.mono (by omega)) rfl (d_cons d_non d_nil)))) d_nil)))
      (d_sone (d_ret (d_cmp (op_eqD hu.un) psem_eq (d_loc (pv 6)) (d_val (d_fz (d_lstF (d_cons d_str (d_cons d_str (d_cons d_str (d_cons d_str (d_cons d_str d_nil)))))))) (nomark _)))))))))))))))))
end
section
theorem all_mk {l : PySem.W.OpenLaw} {w : World} [HW] [TW w] {K : PySem.W.Frag} {h : Heap} {mg : Str → Option Value} {fa : Addr} (X : K.In h) (G : h.Ns mainGlobals mg) (hfa : mg "law" = some (.ref fa))
    {cc PP : Addr} {ce : Value} {cdd : Option Addr} {cvs : Array Value} {csl : Array (Option Value)}
    {eT : Addr}
    {f0 : Addr} {od0 an0 : Option Addr} {sl0 : Array (Option Value)} {oc0 kV0 dc0 pm0 cd0 ct0 : Value}
    {f1 : Addr} {od1 an1 : Option Addr} {sl1 : Array (Option Value)} {oc1 kV1 dc1 pm1 cd1 ct1 : Value}
    {f2 : Addr} {od2 an2 : Option Addr} {sl2 : Array (Option Value)} {oc2 kV2 dc2 pm2 cd2 ct2 : Value}
    {f3 : Addr} {od3 an3 : Option Addr} {sl3 : Array (Option Value)} {oc3 kV3 dc3 pm3 cd3 ct3 : Value}
    {T0 ta0 : Addr} {zc1 : Value} {zd1 : Option Addr} {zn1 zn2 : Nat} {zs1 zs2 : Array (Option Value)}
    {f4 : Addr} {od4 an4 : Option Addr} {sl4 : Array (Option Value)} {oc4 kV4 dc4 pm4 cd4 ct4 : Value}
    {f5 : Addr} {od5 an5 : Option Addr} {sl5 : Array (Option Value)} {oc5 kV5 dc5 pm5 cd5 ct5 : Value}
    {f6 : Addr} {od6 an6 : Option Addr} {sl6 : Array (Option Value)} {oc6 kV6 dc6 pm6 cd6 ct6 : Value}
    {f7 : Addr} {od7 an7 : Option Addr} {sl7 : Array (Option Value)} {oc7 kV7 dc7 pm7 cd7 ct7 : Value}
    {f8 : Addr} {od8 an8 : Option Addr} {sl8 : Array (Option Value)} {oc8 kV8 dc8 pm8 cd8 ct8 : Value}
    {f9 : Addr} {od9 an9 : Option Addr} {sl9 : Array (Option Value)} {oc9 kV9 dc9 pm9 cd9 ct9 : Value}
    {f10 : Addr} {od10 an10 : Option Addr} {sl10 : Array (Option Value)} {oc10 kV10 dc10 pm10 cd10 ct10 : Value}
    {f11 : Addr} {od11 an11 : Option Addr} {sl11 : Array (Option Value)} {oc11 kV11 dc11 pm11 cd11 ct11 : Value}
    {f12 : Addr} {od12 an12 : Option Addr} {sl12 : Array (Option Value)} {oc12 kV12 dc12 pm12 cd12 ct12 : Value}
    {pO12 : Addr} {rO12 : List Value} {mO12 : Value}
    {f13 : Addr} {od13 an13 : Option Addr} {sl13 : Array (Option Value)} {oc13 kV13 dc13 pm13 cd13 ct13 : Value}
    {f14 : Addr} {od14 an14 : Option Addr} {sl14 : Array (Option Value)} {oc14 kV14 dc14 pm14 ct14 : Value}
    {f15 : Addr} {od15 an15 : Option Addr} {sl15 : Array (Option Value)} {oc15 kV15 dc15 pm15 cd15 ct15 : Value}
    {fITooMany cITooMany dITooMany nITooMany : Addr} {nmTooMany qnTooMany flTooMany : Str} {kVTooMany dcTooMany pmTooMany ctTooMany ocTooMany clTooMany ccTooMany : Value} {anTooMany odTooMany cDTooMany dDTooMany deTooMany : Option Addr} {s1TooMany s2TooMany s3TooMany : Array (Option Value)} {vsTooMany : Array Value} {tfTooMany : Tok} {bsTooMany bmTooMany sbTooMany : List Value} {snTooMany : List Str} {abTooMany : Bool} {coTooMany : Option Bool} {k0TooMany k1TooMany k2TooMany k3TooMany k5TooMany : Option Value}
    {tk0 : Tok}
    {e0 : Addr}
    {e1 : Addr}
    {e2 : Addr}
    {e3 : Addr}
    {e4 : Addr}
    {e5 : Addr}
    {e6 : Addr}
    {e7 : Addr}
    {e8 : Addr}
    {e9 : Addr}
    {e10 : Addr}
    (aT : PySem.W.nsIn K mainGlobals "Tally" = some (some (.ref eT)))
    (a0 : PySem.W.nsIn K mainGlobals "is_name" = some (some (.ref f0))) (l0 : K.lookup f0 = some ⟨oc0, od0, .func (PySem.W.fnOf "is_name" "is_name" (defArgs st_is_name) (defBody st_is_name) (defScope st_is_name) .none kV0 dc0 pm0 an0 cd0 ct0), sl0⟩) (c0 : PySem.W.codeIn K cd0 "is_name" = true) (k0 : PySem.W.keepIn K (.ref f0) = true)
    (a1 : PySem.W.nsIn K mainGlobals "is_integer" = some (some (.ref f1))) (l1 : K.lookup f1 = some ⟨oc1, od1, .func (PySem.W.fnOf "is_integer" "is_integer" (defArgs st_is_integer) (defBody st_is_integer) (defScope st_is_integer) .none kV1 dc1 pm1 an1 cd1 ct1), sl1⟩) (c1 : PySem.W.codeIn K cd1 "is_integer" = true) (k1 : PySem.W.keepIn K (.ref f1) = true)
    (a2 : PySem.W.nsIn K mainGlobals "is_counter" = some (some (.ref f2))) (l2 : K.lookup f2 = some ⟨oc2, od2, .func (PySem.W.fnOf "is_counter" "is_counter" (defArgs st_is_counter) (defBody st_is_counter) (defScope st_is_counter) .none kV2 dc2 pm2 an2 cd2 ct2), sl2⟩) (c2 : PySem.W.codeIn K cd2 "is_counter" = true) (k2 : PySem.W.keepIn K (.ref f2) = true)
    (a3 : PySem.W.findIn K (.ref eT) "__init__" = some (some (.ref f3)))
    (l3 : K.lookup f3 = some ⟨oc3, od3, .func (PySem.W.fnOf "__init__" "Tally.__init__" (defArgs st_T___init__) (defBody st_T___init__) (defScope st_T___init__) (.ref T0) kV3 dc3 pm3 an3 cd3 ct3), sl3⟩) (c3 : PySem.W.codeIn K cd3 "Tally.__init__" = true) (k3 : PySem.W.keepIn K (.ref f3) = true)
    (lt0 : K.lookup T0 = some ⟨zc1, zd1, .seq #[.ref ta0] zn1, zs1⟩) (la0 : K.lookup ta0 = some ⟨.type "tuple", none, .seq #[] zn2, zs2⟩)
    (a4 : PySem.W.nsIn K mainGlobals "_law_draw" = some (some (.ref f4))) (l4 : K.lookup f4 = some ⟨oc4, od4, .func (PySem.W.fnOf "_law_draw" "_law_draw" (defArgs st_L_draw) (defBody st_L_draw) (defScope st_L_draw) .none kV4 dc4 pm4 an4 cd4 ct4), sl4⟩) (c4 : PySem.W.codeIn K cd4 "_law_draw" = true) (k4 : PySem.W.keepIn K (.ref f4) = true)
    (a5 : PySem.W.nsIn K mainGlobals "_law_near" = some (some (.ref f5))) (l5 : K.lookup f5 = some ⟨oc5, od5, .func (PySem.W.fnOf "_law_near" "_law_near" (defArgs st_L_near) (defBody st_L_near) (defScope st_L_near) .none kV5 dc5 pm5 an5 cd5 ct5), sl5⟩) (c5 : PySem.W.codeIn K cd5 "_law_near" = true) (k5 : PySem.W.keepIn K (.ref f5) = true)
    (a6 : PySem.W.nsIn K mainGlobals "_law_word" = some (some (.ref f6))) (l6 : K.lookup f6 = some ⟨oc6, od6, .func (PySem.W.fnOf "_law_word" "_law_word" (defArgs st_L_wordv) (defBody st_L_wordv) (defScope st_L_wordv) .none kV6 dc6 pm6 an6 cd6 ct6), sl6⟩) (c6 : PySem.W.codeIn K cd6 "_law_word" = true) (k6 : PySem.W.keepIn K (.ref f6) = true)
    (a7 : PySem.W.nsIn K mainGlobals "one_count" = some (some (.ref f7))) (l7 : K.lookup f7 = some ⟨oc7, od7, .func (PySem.W.fnOf "one_count" "one_count" (defArgs st_one_count) (defBody st_one_count) (defScope st_one_count) .none kV7 dc7 pm7 an7 cd7 ct7), sl7⟩) (c7 : PySem.W.codeIn K cd7 "one_count" = true) (k7 : PySem.W.keepIn K (.ref f7) = true)
    (a8 : PySem.W.nsIn K mainGlobals "joined" = some (some (.ref f8))) (l8 : K.lookup f8 = some ⟨oc8, od8, .func (PySem.W.fnOf "joined" "joined" (defArgs st_joined) (defBody st_joined) (defScope st_joined) .none kV8 dc8 pm8 an8 cd8 ct8), sl8⟩) (c8 : PySem.W.codeIn K cd8 "joined" = true) (k8 : PySem.W.keepIn K (.ref f8) = true)
    (a9 : PySem.W.nsIn K mainGlobals "looked" = some (some (.ref f9))) (l9 : K.lookup f9 = some ⟨oc9, od9, .func (PySem.W.fnOf "looked" "looked" (defArgs st_looked) (defBody st_looked) (defScope st_looked) .none kV9 dc9 pm9 an9 cd9 ct9), sl9⟩) (c9 : PySem.W.codeIn K cd9 "looked" = true) (k9 : PySem.W.keepIn K (.ref f9) = true)
    (a10 : PySem.W.findIn K (.ref eT) "update" = some (some (.ref f10)))
    (l10 : K.lookup f10 = some ⟨oc10, od10, .func (PySem.W.fnOf "update" "Tally.update" (defArgs st_T_update) (defBody st_T_update) (defScope st_T_update) .none kV10 dc10 pm10 an10 cd10 ct10), sl10⟩) (c10 : PySem.W.codeIn K cd10 "Tally.update" = true) (k10 : PySem.W.keepIn K (.ref f10) = true)
    (a11 : PySem.W.findIn K (.ref eT) "most_common" = some (some (.ref f11)))
    (l11 : K.lookup f11 = some ⟨oc11, od11, .func (PySem.W.fnOf "most_common" "Tally.most_common" (defArgs st_T_most_common) (defBody st_T_most_common) (defScope st_T_most_common) .none kV11 dc11 pm11 an11 cd11 ct11), sl11⟩) (c11 : PySem.W.codeIn K cd11 "Tally.most_common" = true) (k11 : PySem.W.keepIn K (.ref f11) = true)
    (ab12 : PySem.W.typeIn K (.ref eT) = some mO12) (ac12 : PySem.W.findCls K (.ref eT) mO12 "of" = some (.get (.builtin "classmethod.__get__") (.ref pO12) .none (.ref eT))) (a12 : PySem.W.recIn K pO12 "classmethod" = some (.ref f12 :: rO12))
    (l12 : K.lookup f12 = some ⟨oc12, od12, .func (PySem.W.fnOf "of" "Tally.of" (defArgs st_T_of) (defBody st_T_of) (defScope st_T_of) .none kV12 dc12 pm12 an12 cd12 ct12), sl12⟩) (c12 : PySem.W.codeIn K cd12 "Tally.of" = true) (k12 : PySem.W.keepIn K (.ref f12) = true)
    (a13 : PySem.W.nsIn K mainGlobals "read_script" = some (some (.ref f13))) (l13 : K.lookup f13 = some ⟨oc13, od13, .func (PySem.W.fnOf "read_script" "read_script" (defArgs st_read_script) (defBody st_read_script) (defScope st_read_script) .none kV13 dc13 pm13 an13 cd13 ct13), sl13⟩) (c13 : PySem.W.codeIn K cd13 "read_script" = true) (k13 : PySem.W.keepIn K (.ref f13) = true)
    (a14 : PySem.W.nsIn K mainGlobals "law" = some (some (.ref f14))) (l14 : K.lookup f14 = some ⟨oc14, od14, .func (PySem.W.fnOf "law" "law" (defArgs st_law) (defBody st_law) (defScope st_law) .none kV14 dc14 pm14 an14 (.ref cc) ct14), sl14⟩) (c14 : PySem.W.codeIn K (.ref cc) "law" = true) (k14 : PySem.W.keepIn K (.ref f14) = true)
    (a15 : PySem.W.nsIn K mainGlobals "_law_tried" = some (some (.ref f15))) (l15 : K.lookup f15 = some ⟨oc15, od15, .func (PySem.W.fnOf "_law_tried" "_law_tried" (defArgs st_L_tried) (defBody st_L_tried) (defScope st_L_tried) .none kV15 dc15 pm15 an15 cd15 ct15), sl15⟩) (c15 : PySem.W.codeIn K cd15 "_law_tried" = true) (k15 : PySem.W.keepIn K (.ref f15) = true)
    (hc : K.lookup cc = some ⟨ce, cdd, .fields cvs, csl⟩) (hP : cvs[11]? = some (.ref PP)) (hh : PySem.W.codeHdIn K cc PP = true) (nP : K.lookup PP = none)
    (z0 : PySem.W.nsIn K mainGlobals "ValueError" = some none)
    (z1 : PySem.W.nsIn K mainGlobals "all" = some none)
    (z2 : PySem.W.nsIn K mainGlobals "bool" = some none)
    (z3 : PySem.W.nsIn K mainGlobals "dict" = some none)
    (z4 : PySem.W.nsIn K mainGlobals "int" = some none)
    (z5 : PySem.W.nsIn K mainGlobals "isinstance" = some none)
    (z6 : PySem.W.nsIn K mainGlobals "len" = some none)
    (z7 : PySem.W.nsIn K mainGlobals "list" = some none)
    (z8 : PySem.W.nsIn K mainGlobals "max" = some none)
    (z9 : PySem.W.nsIn K mainGlobals "min" = some none)
    (z10 : PySem.W.nsIn K mainGlobals "str" = some none)
    (z11 : PySem.W.nsIn K mainGlobals "super" = some none)
    (z12 : PySem.W.nsIn K mainGlobals "tuple" = some none)
    (z13 : PySem.W.nsIn K mainGlobals "zip" = some none)
    (y0 : PySem.W.nsIn K mainGlobals "LETTERS" = some (some (.str "abcdefghijklmnopqrstuvwxyz" tk0)))
    (ea0 : PySem.W.nsIn K mainGlobals "NoCounter" = some (some (.ref e0)))
    (ea1 : PySem.W.nsIn K mainGlobals "NoCounters" = some (some (.ref e1)))
    (ea2 : PySem.W.nsIn K mainGlobals "NoExpression" = some (some (.ref e2)))
    (ea3 : PySem.W.nsIn K mainGlobals "NoScript" = some (some (.ref e3)))
    (ea4 : PySem.W.nsIn K mainGlobals "NoSystem" = some (some (.ref e4)))
    (ea5 : PySem.W.nsIn K mainGlobals "NoName" = some (some (.ref e5)))
    (ea6 : PySem.W.nsIn K mainGlobals "NoNumber" = some (some (.ref e6)))
    (ea7 : PySem.W.nsIn K mainGlobals "NoWay" = some (some (.ref e7)))
    (ea8 : PySem.W.nsIn K mainGlobals "NoText" = some (some (.ref e8)))
    (ea9 : PySem.W.nsIn K mainGlobals "TooMany" = some (some (.ref e9)))
    (ea10 : PySem.W.nsIn K mainGlobals "CountError" = some (some (.ref e10)))
    (ed0 : ExcD K e0 e10) (eb0 : BsK K e0 e0 e1 e2 e3 e4 e5 e6 e7 e8 e9 true false false false false false false false false false)
    (ed6 : ExcD K e6 e10) (eb6 : BsK K e6 e0 e1 e2 e3 e4 e5 e6 e7 e8 e9 false false false false false false true false false false)
    (ed5 : ExcD K e5 e10) (eb5 : BsK K e5 e0 e1 e2 e3 e4 e5 e6 e7 e8 e9 false false false false false true false false false false)
    (ed8 : ExcD K e8 e10) (eb8 : BsK K e8 e0 e1 e2 e3 e4 e5 e6 e7 e8 e9 false false false false false false false false true false)
    (ed4 : ExcD K e4 e10) (eb4 : BsK K e4 e0 e1 e2 e3 e4 e5 e6 e7 e8 e9 false false false false true false false false false false)
    (ed3 : ExcD K e3 e10) (eb3 : BsK K e3 e0 e1 e2 e3 e4 e5 e6 e7 e8 e9 false false false true false false false false false false)
    (ed2 : ExcD K e2 e10) (eb2 : BsK K e2 e0 e1 e2 e3 e4 e5 e6 e7 e8 e9 false false true false false false false false false false)
    (ed1 : ExcD K e1 e10) (eb1 : BsK K e1 e0 e1 e2 e3 e4 e5 e6 e7 e8 e9 false true false false false false false false false false)
    (ed9 : ExcM K e9 e10) (eb9 : BsK K e9 e0 e1 e2 e3 e4 e5 e6 e7 e8 e9 false false false false false false false false false true)
    (ed7 : ExcD K e7 e10) (eb7 : BsK K e7 e0 e1 e2 e3 e4 e5 e6 e7 e8 e9 false false false false false false false true false false)
    (x3F : PySem.W.isFn K (.ref f3) = true)
    (mk1 : PySem.W.makesIn K eT = true)
    (mk2 : PySem.W.keepIn K (.ref eT) = true)
    (x10F : PySem.W.isFn K (.ref f10) = true)
    (x11F : PySem.W.isFn K (.ref f11) = true)
    (fi12 : PySem.W.fnIn K f12 = true)
    (rd12 : PySem.W.readsIn K eT mO12 = true)
    (ga12 : PySem.W.specialIn K (.ref eT) "__getattribute__" = some (some (.builtin "type.__getattribute__")))
    (tcA : TalCA K eT)
    (tiA : TalIA K eT)
    (kc0 : PySem.W.kitOne K (.ref e0) (.ref e10) = some true)
    (kc6 : PySem.W.kitOne K (.ref e6) (.ref e10) = some true)
    (kc5 : PySem.W.kitOne K (.ref e5) (.ref e10) = some true)
    (kc8 : PySem.W.kitOne K (.ref e8) (.ref e10) = some true)
    (kc4 : PySem.W.kitOne K (.ref e4) (.ref e10) = some true)
    (kc3 : PySem.W.kitOne K (.ref e3) (.ref e10) = some true)
    (kc2 : PySem.W.kitOne K (.ref e2) (.ref e10) = some true)
    (kc1 : PySem.W.kitOne K (.ref e1) (.ref e10) = some true)
    (kc9 : PySem.W.kitOne K (.ref e9) (.ref e10) = some true)
    (kc7 : PySem.W.kitOne K (.ref e7) (.ref e10) = some true)
    (kv0 : PySem.W.kitOne K (.ref e0) (.type "ValueError") = some true)
    (kv6 : PySem.W.kitOne K (.ref e6) (.type "ValueError") = some true)
    (kv5 : PySem.W.kitOne K (.ref e5) (.type "ValueError") = some true)
    (kv8 : PySem.W.kitOne K (.ref e8) (.type "ValueError") = some true)
    (kv4 : PySem.W.kitOne K (.ref e4) (.type "ValueError") = some true)
    (kv3 : PySem.W.kitOne K (.ref e3) (.type "ValueError") = some true)
    (kv2 : PySem.W.kitOne K (.ref e2) (.type "ValueError") = some true)
    (kv1 : PySem.W.kitOne K (.ref e1) (.type "ValueError") = some true)
    (kv9 : PySem.W.kitOne K (.ref e9) (.type "ValueError") = some true)
    (kv7 : PySem.W.kitOne K (.ref e7) (.type "ValueError") = some true)
    (i1TooMany : PySem.W.findIn K (.ref e9) "__init__" = some (some (.ref fITooMany)))
    (i2TooMany : PySem.W.typeIn K (.ref fITooMany) = some (.type "function"))
    (i3TooMany : K.lookup fITooMany = some ⟨ocTooMany, odTooMany, .func (PySem.W.fnX "__init__" "TooMany.__init__" (defArgs st_TooMany) (defBody st_TooMany) (defScope st_TooMany) [("__class__", cITooMany)] .none kVTooMany dcTooMany pmTooMany anTooMany (.ref dITooMany) ctTooMany), s1TooMany⟩)
    (i4TooMany : PySem.W.codeIn K (.ref dITooMany) "TooMany.__init__" = true)
    (i5TooMany : K.lookup cITooMany = some ⟨clTooMany, cDTooMany, .cell (some (.ref e9)), s2TooMany⟩)
    (i6TooMany : K.lookup dITooMany = some ⟨ccTooMany, dDTooMany, .fields vsTooMany, s3TooMany⟩)
    (i7TooMany : vsTooMany[2]? = some (.str flTooMany tfTooMany))
    (i8TooMany : ((l.prog.main.file : Str) == flTooMany) = true)
    (i9TooMany : (l.prog.main.scope.names.lookup ("super" : Str)).isSome = false)
    (i10TooMany : PySem.W.ks_superIn K e9 e9 "__init__" = some (some (.builtin "ValueError.__init__")))
    (i11TooMany : K.lookup e9 = some (excClassObj nmTooMany qnTooMany e9 nITooMany bsTooMany bmTooMany true snTooMany sbTooMany abTooMany coTooMany deTooMany k0TooMany k1TooMany k2TooMany k3TooMany k5TooMany "ValueError.__new__"))
    (i12TooMany : PySem.HandSPX.refsVE bmTooMany = true)
    (i13TooMany : OexD K e9)
    : ∃ (fd : FuncData) (c P : Addr) (o1 : Obj) (e : Value) (dd : Option Addr) (vs : Array Value) (sl : Array (Option Value)), K.lookup fa = some o1 ∧ o1.data = .func fd ∧ fd.code = .ref c ∧ K.lookup c = some ⟨e, dd, .fields vs, sl⟩ ∧ vs[11]? = some (.ref P) ∧ PySem.W.codeHdIn K c P = true ∧ K.lookup P = none ∧
      (∀ (s : Shared) (u : Value), BindsTo s fd ⟨[u], []⟩ [("_law_script", u)]) ∧ ∀ base : Heap, K.In base → base.Ns mainGlobals mg → LamX.TabB base mg c P → FnOk l.prog w K mg base (L2N.CX l.prog w) 8 fa fd ["_law_script"] (spT K P m_law) := by
  have e := hfa.symm.trans (PySem.W.mg_of X G a14)
  cases e
  have q0 : exA K "NoCounter" = e0 := by unfold exA fnA; rw [ea0]
  have q1 : exA K "NoCounters" = e1 := by unfold exA fnA; rw [ea1]
  have q2 : exA K "NoExpression" = e2 := by unfold exA fnA; rw [ea2]
  have q3 : exA K "NoScript" = e3 := by unfold exA fnA; rw [ea3]
  have q4 : exA K "NoSystem" = e4 := by unfold exA fnA; rw [ea4]
  have q5 : exA K "NoName" = e5 := by unfold exA fnA; rw [ea5]
  have q6 : exA K "NoNumber" = e6 := by unfold exA fnA; rw [ea6]
  have q7 : exA K "NoWay" = e7 := by unfold exA fnA; rw [ea7]
  have q8 : exA K "NoText" = e8 := by unfold exA fnA; rw [ea8]
  have q9 : exA K "TooMany" = e9 := by unfold exA fnA; rw [ea9]
  have q10 : exA K "CountError" = e10 := by unfold exA fnA; rw [ea10]
  have qT : TC K = eT := by unfold TC fnA; rw [aT]
  have T : Tx K mg := ⟨PySem.W.mg_none_of X G z0, PySem.W.mg_none_of X G z1, PySem.W.mg_none_of X G z2, PySem.W.mg_none_of X G z3, PySem.W.mg_none_of X G z4, PySem.W.mg_none_of X G z5, PySem.W.mg_none_of X G z6, PySem.W.mg_none_of X G z7, PySem.W.mg_none_of X G z8, PySem.W.mg_none_of X G z9, PySem.W.mg_none_of X G z10, PySem.W.mg_none_of X G z11, PySem.W.mg_none_of X G z12, PySem.W.mg_none_of X G z13, ⟨_, PySem.W.mg_of X G y0, ⟨_, rfl⟩⟩, by rw [q0]; exact PySem.W.mg_of X G ea0, by rw [q1]; exact PySem.W.mg_of X G ea1, by rw [q2]; exact PySem.W.mg_of X G ea2, by rw [q3]; exact PySem.W.mg_of X G ea3, by rw [q4]; exact PySem.W.mg_of X G ea4, by rw [q5]; exact PySem.W.mg_of X G ea5, by rw [q6]; exact PySem.W.mg_of X G ea6, by rw [q7]; exact PySem.W.mg_of X G ea7, by rw [q8]; exact PySem.W.mg_of X G ea8, by rw [q9]; exact PySem.W.mg_of X G ea9, by rw [q10]; exact PySem.W.mg_of X G ea10, by rw [q0, q10]; exact ed0, by rw [q0, q1, q2, q3, q4, q5, q6, q7, q8, q9]; exact eb0, by rw [q6, q10]; exact ed6, by rw [q0, q1, q2, q3, q4, q5, q6, q7, q8, q9]; exact eb6, by rw [q5, q10]; exact ed5, by rw [q0, q1, q2, q3, q4, q5, q6, q7, q8, q9]; exact eb5, by rw [q8, q10]; exact ed8, by rw [q0, q1, q2, q3, q4, q5, q6, q7, q8, q9]; exact eb8, by rw [q4, q10]; exact ed4, by rw [q0, q1, q2, q3, q4, q5, q6, q7, q8, q9]; exact eb4, by rw [q3, q10]; exact ed3, by rw [q0, q1, q2, q3, q4, q5, q6, q7, q8, q9]; exact eb3, by rw [q2, q10]; exact ed2, by rw [q0, q1, q2, q3, q4, q5, q6, q7, q8, q9]; exact eb2, by rw [q1, q10]; exact ed1, by rw [q0, q1, q2, q3, q4, q5, q6, q7, q8, q9]; exact eb1, by rw [q9, q10]; exact ed9, by rw [q0, q1, q2, q3, q4, q5, q6, q7, q8, q9]; exact eb9, by rw [q7, q10]; exact ed7, by rw [q0, q1, q2, q3, q4, q5, q6, q7, q8, q9]; exact eb7, tcA.to qT, tiA.to qT, by rw [qT]; exact PySem.W.mg_of X G aT, by rw [q0, q10]; exact kc0, by rw [q6, q10]; exact kc6, by rw [q5, q10]; exact kc5, by rw [q8, q10]; exact kc8, by rw [q4, q10]; exact kc4, by rw [q3, q10]; exact kc3, by rw [q2, q10]; exact kc2, by rw [q1, q10]; exact kc1, by rw [q9, q10]; exact kc9, by rw [q7, q10]; exact kc7, by rw [q0]; exact kv0, by rw [q6]; exact kv6, by rw [q5]; exact kv5, by rw [q8]; exact kv8, by rw [q4]; exact kv4, by rw [q3]; exact kv3, by rw [q2]; exact kv2, by rw [q1]; exact kv1, by rw [q9]; exact kv9, by rw [q7]; exact kv7⟩
  have F0 := fun_mk (st := st_is_name) l0 c0 k0
  have N0 : Fn K mg "is_name" st_is_name ["thing"] := ⟨_, _, F0, PySem.W.mg_of X G a0, F0.binds (ps := ["thing"]) fun _ _ _ _ _ _ us hl => match us, hl with | [_], _ => rfl⟩
  have F1 := fun_mk (st := st_is_integer) l1 c1 k1
  have N1 : Fn K mg "is_integer" st_is_integer ["thing"] := ⟨_, _, F1, PySem.W.mg_of X G a1, F1.binds (ps := ["thing"]) fun _ _ _ _ _ _ us hl => match us, hl with | [_], _ => rfl⟩
  have F2 := fun_mk (st := st_is_counter) l2 c2 k2
  have N2 : Fn K mg "is_counter" st_is_counter ["thing"] := ⟨_, _, F2, PySem.W.mg_of X G a2, F2.binds (ps := ["thing"]) fun _ _ _ _ _ _ us hl => match us, hl with | [_], _ => rfl⟩
  have F3 := funD_init (st := st_T___init__) l3 c3 k3 lt0
  have F4 := fun_mk (st := st_L_draw) l4 c4 k4
  have N4 : Fn K mg "_law_draw" st_L_draw ["_law_tape", "_law_many"] := ⟨_, _, F4, PySem.W.mg_of X G a4, F4.binds (ps := ["_law_tape", "_law_many"]) fun _ _ _ _ _ _ us hl => match us, hl with | [_, _], _ => rfl⟩
  have F5 := fun_mk (st := st_L_near) l5 c5 k5
  have N5 : Fn K mg "_law_near" st_L_near ["_law_tape", "_law_wide"] := ⟨_, _, F5, PySem.W.mg_of X G a5, F5.binds (ps := ["_law_tape", "_law_wide"]) fun _ _ _ _ _ _ us hl => match us, hl with | [_, _], _ => rfl⟩
  have F6 := fun_mk (st := st_L_wordv) l6 c6 k6
  have N6 : Fn K mg "_law_word" st_L_wordv ["_law_e"] := ⟨_, _, F6, PySem.W.mg_of X G a6, F6.binds (ps := ["_law_e"]) fun _ _ _ _ _ _ us hl => match us, hl with | [_], _ => rfl⟩
  have F7 := fun_mk (st := st_one_count) l7 c7 k7
  have N7 : Fn K mg "one_count" st_one_count ["way", "count", "other"] := ⟨_, _, F7, PySem.W.mg_of X G a7, F7.binds (ps := ["way", "count", "other"]) fun _ _ _ _ _ _ us hl => match us, hl with | [_, _, _], _ => rfl⟩
  have F8 := fun_mk (st := st_joined) l8 c8 k8
  have N8 : Fn K mg "joined" st_joined ["way", "one", "other"] := ⟨_, _, F8, PySem.W.mg_of X G a8, F8.binds (ps := ["way", "one", "other"]) fun _ _ _ _ _ _ us hl => match us, hl with | [_, _, _], _ => rfl⟩
  have F9 := fun_mk (st := st_looked) l9 c9 k9
  have N9 : Fn K mg "looked" st_looked ["other"] := ⟨_, _, F9, PySem.W.mg_of X G a9, F9.binds (ps := ["other"]) fun _ _ _ _ _ _ us hl => match us, hl with | [_], _ => rfl⟩
  have F10 := fun_mk (st := st_T_update) l10 c10 k10
  have N10 : FnM K "update" "Tally.update" st_T_update ["self", "other"] := ⟨_, _, F10, ⟨by rw [qT]; exact a10, x10F, k10⟩, F10.binds (ps := ["self", "other"]) fun _ _ _ _ _ _ us hl => match us, hl with | [_, _], _ => rfl⟩
  have F11 := fun_mk (st := st_T_most_common) l11 c11 k11
  have N11 : FnM K "most_common" "Tally.most_common" st_T_most_common ["self", "many"] := ⟨_, _, F11, ⟨by rw [qT]; exact a11, x11F, k11⟩, F11.binds (ps := ["self", "many"]) fun _ _ _ _ _ _ us hl => match us, hl with | [_, _], _ => rfl⟩
  have F12 := fun_mk (st := st_T_of) l12 c12 k12
  have N12 : FnC K "of" "Tally.of" st_T_of ["cls", "names"] := ⟨mO12, pO12, _, _, ⟨by rw [qT]; exact rd12, by rw [qT]; exact ga12⟩, ⟨by rw [qT]; exact ac12, ⟨_, a12⟩, fi12⟩, F12, F12.binds (ps := ["cls", "names"]) fun _ _ _ _ _ _ us hl => match us, hl with | [_, _], _ => rfl⟩
  have F13 := fun_mk (st := st_read_script) l13 c13 k13
  have N13 : Fn K mg "read_script" st_read_script ["text"] := ⟨_, _, F13, PySem.W.mg_of X G a13, F13.binds (ps := ["text"]) fun _ _ _ _ _ _ us hl => match us, hl with | [_], _ => rfl⟩
  have F15 := fun_mk (st := st_L_tried) l15 c15 k15
  have N15 : Fn K mg "_law_tried" st_L_tried ["_law_call"] := ⟨_, _, F15, PySem.W.mg_of X G a15, F15.binds (ps := ["_law_call"]) fun _ _ _ _ _ _ us hl => match us, hl with | [_], _ => rfl⟩
  refine ⟨PySem.W.fnOf "law" "law" (defArgs st_law) (defBody st_law) (defScope st_law) .none kV14 dc14 pm14 an14 (.ref cc) ct14, cc, PP, _, ce, cdd, cvs, csl, l14, rfl, rfl, hc, hP, hh, nP, fun s v => .of_eq rfl, fun base _ _ TB => ?_⟩
  have OI_TooMany : OwnInit l.prog K (exA K "TooMany") "TooMany.__init__" st_TooMany := by rw [q9]; exact ownInit_mk i1TooMany i2TooMany i3TooMany i4TooMany i5TooMany i6TooMany i7TooMany i8TooMany i9TooMany i10TooMany i11TooMany i12TooMany i13TooMany
  have C_is_name := w_is_name (P := l.prog) (w := w) (base := base) T N0
  have C_is_integer := w_is_integer (P := l.prog) (w := w) (base := base) T N1
  have C_is_counter := w_is_counter (P := l.prog) (w := w) (base := base) T N2 C_is_name C_is_integer
  have C_T___init__ := w_T___init__ (P := l.prog) (w := w) (base := base) T ⟨by rw [qT]; exact mk1, by rw [qT]; exact a3, x3F, by rw [qT]; exact mk2⟩ F3 ⟨_, _, la0⟩ C_is_counter
  have C_L_draw := w_L_draw (P := l.prog) (w := w) (base := base) T N4
  have C_L_near := w_L_near (P := l.prog) (w := w) (base := base) T N5 C_L_draw
  have C_L_wordv := w_L_wordv (P := l.prog) (w := w) (base := base) T N6
  have C_one_count := w_one_count (P := l.prog) (w := w) (base := base) T N7
  have C_joined := w_joined (P := l.prog) (w := w) (base := base) T N8 C_one_count
  have C_looked := w_looked (P := l.prog) (w := w) (base := base) T N9
  have C_T_update := w_T_update (P := l.prog) (w := w) (base := base) T N10 C_joined C_looked
  have C_T_most_common := w_T_most_common (P := l.prog) (w := w) (base := base) T N11 C_is_integer
  have C_T_of := w_T_of (P := l.prog) (w := w) (base := base) T N12 C_T___init__ C_is_name
  have C_read_script := w_read_script (P := l.prog) (w := w) (base := base) T N13
  have W_word := w_L_word (P := l.prog) (w := w) (base := base) T N6
  exact w_law (P := l.prog) (w := w) (base := base) T l14 c14 TB OI_TooMany C_T___init__ C_L_near N15 W_word C_L_wordv C_T_update C_T_most_common C_T_of C_read_script
theorem walk {l : PySem.W.OpenLaw} {q : Program} {loose : List Str} {XP : (Str → Option Value) → Heap → Prop} {YP : World → Heap → Prop} {d : DefRec} {K : Params → PySem.W.Frag} (hn : l.most = some 63) (hdf : d.params.defaults = []) (hrec : ((recsOf q).any fun e => e.name == d.name) = true)
    (hY : ∀ (w : World) (h : Heap), YP w h → (K w.params).In h)
    (F : ∀ (w : World) (mg : Str → Option Value) (fa : Addr) (h : Heap), (K w.params).In h → h.Ns mainGlobals mg → mg d.name = some (.ref fa) →
      ∃ (fd : FuncData) (c P : Addr) (o1 : Obj) (e : Value) (dd : Option Addr) (vs : Array Value) (sl : Array (Option Value)), (K w.params).lookup fa = some o1 ∧ o1.data = .func fd ∧ fd.code = .ref c ∧ (K w.params).lookup c = some ⟨e, dd, .fields vs, sl⟩ ∧ vs[11]? = some (.ref P) ∧
        PySem.W.codeHdIn (K w.params) c P = true ∧ (K w.params).lookup P = none ∧ (∀ (s : Shared) (u : Value), BindsTo s fd ⟨[u], []⟩ [("_law_script", u)]) ∧
        ∀ base : Heap, (K w.params).In base → base.Ns mainGlobals mg → LamX.TabB base mg c P → FnOk l.prog w (K w.params) mg base (L2N.CX l.prog w) 8 fa fd ["_law_script"] (spT (K w.params) P m_law))
    (plain : ∀ ns : List Int, ns.length ≤ 63 → (∀ z ∈ ns, Builtin.Int.intBits z ≤ 1048576) → ∃ o, m_law [.scr ns] = .ok (.bl true) o) :
    PySem.W.WalkO q loose XP YP l.row.toRowW d [] (fun f vs => PySem.call f vs) := walkT hn hdf ⟨rfl, by decide, by decide⟩ hrec hY F plain
end
end
end Lw
namespace Dt
open PySem
def Ok (m : Nat) : Nat → D → Prop
  | _, .non => True
  | _, .bl _ => True
  | _, .int _ => True
  | _, .str s => s.length ≤ m ∧ ∀ c ∈ s.cps.toList, c < 128
  | n + 1, .tup ds => ds.length ≤ m ∧ ∀ d ∈ ds, Ok m n d
  | n + 1, .lst ds => ds.length ≤ m ∧ ∀ d ∈ ds, Ok m n d
  | _, _ => False
@[simp] theorem ok_non {m n : Nat} : Ok m n .non := by cases n <;> trivial
@[simp] theorem ok_bl {m n : Nat} {b : Bool} : Ok m n (.bl b) := by cases n <;> trivial
@[simp] theorem ok_int {m n : Nat} {i : Int} : Ok m n (.int i) := by cases n <;> trivial
theorem ok_str {m n : Nat} {s : Str} : Ok m n (.str s) ↔ s.length ≤ m ∧ ∀ c ∈ s.cps.toList, c < 128 := by cases n <;> exact Iff.rfl
theorem Ok.mono {m m' : Nat} (hm : m ≤ m') : ∀ {n n' : Nat} {d : D}, n ≤ n' → Ok m n d → Ok m' n' d := by
  intro n
  induction n with
  | zero =>
    intro n' d hn h
    cases d with
    | non => simp
    | bl _ => simp
    | int _ => simp
    | str s => rw [ok_str] at h ⊢; exact ⟨Nat.le_trans h.1 hm, h.2⟩
    | _ => exact h.elim
  | succ n ih =>
    intro n' d hn h
    cases d with
    | non => simp
    | bl _ => simp
    | int _ => simp
    | str s => rw [ok_str] at h ⊢; exact ⟨Nat.le_trans h.1 hm, h.2⟩
    | tup ds =>
      cases n' with
      | zero => omega
      | succ n' => exact ⟨Nat.le_trans h.1 hm, fun d hd => ih (by omega) (h.2 d hd)⟩
    | lst ds =>
      cases n' with
      | zero => omega
      | succ n' => exact ⟨Nat.le_trans h.1 hm, fun d hd => ih (by omega) (h.2 d hd)⟩
    | _ => exact h.elim
mutual
def D.toP : D → PyData
  | .non => .none
  | .bl b => .bool b
  | .int i => .int i
  | .str s => .str s
  | .tup ds => .tuple (D.toPs ds)
  | .lst ds => .list (D.toPs ds)
  | .dct _ _ => .none
  | .scr _ => .none
  | .arg _ => .none
  | .fn _ => .none
  | .exn _ => .none
  | .xv _ => .none
  | .xm _ _ => .none
  | .tal _ => .none
  | .etup => .none
  | .nd _ _ => .none
def D.toPs : List D → List PyData
  | [] => []
  | d :: ds => D.toP d :: D.toPs ds
end
theorem pys_of {ds : List D} (h : ∀ d ∈ ds, d.py = some d.toP) : D.pys ds = some (D.toPs ds) := by
  induction ds with
  | nil => simp [D.pys, D.toPs]
  | cons d ds ih =>
    rw [D.pys, h d List.mem_cons_self, ih fun d hd => h d (List.mem_cons_of_mem _ hd), D.toPs]
    rfl
theorem layAll_of {ds : List D} (h : ∀ d ∈ ds, d.toP.canLay0 = true) : PyData.canLayAll0 (D.toPs ds) = true := by
  induction ds with
  | nil => simp [D.toPs, PyData.canLayAll0]
  | cons d ds ih =>
    rw [D.toPs, PyData.canLayAll0, h d List.mem_cons_self, ih fun d hd => h d (List.mem_cons_of_mem _ hd)]
    rfl
theorem depthAll_of {ds : List D} {n : Nat} (h : ∀ d ∈ ds, d.toP.depth ≤ n) : PyData.depthAll (D.toPs ds) ≤ n := by
  induction ds with
  | nil => simp [D.toPs, PyData.depthAll]
  | cons d ds ih =>
    rw [D.toPs, PyData.depthAll]
    exact Nat.max_le.mpr ⟨h d List.mem_cons_self, ih fun d hd => h d (List.mem_cons_of_mem _ hd)⟩
theorem Ok.py {m : Nat} : ∀ {n : Nat} {d : D}, Ok m n d → d.py = some d.toP ∧ d.toP.canLay0 = true ∧ d.toP.depth ≤ n := by
  have str : ∀ {s : Str} {n : Nat}, (s.length ≤ m ∧ ∀ c ∈ s.cps.toList, c < 128) → (D.str s).py = some (D.str s).toP ∧ (D.str s).toP.canLay0 = true ∧ (D.str s).toP.depth ≤ n := fun {s n} h => by
    refine ⟨by simp [D.py, D.toP], ?_, by simp [D.toP, PyData.depth]⟩
    simp only [D.toP, PyData.canLay0, PyData.strOk]
    rw [Array.all_eq_true_iff_forall_mem]
    intro c hc
    have := h.2 c (by simpa using hc)
    exact decide_eq_true (by omega)
  intro n
  induction n with
  | zero =>
    intro d h
    cases d with
    | non => simp [D.py, D.toP, PyData.canLay0, PyData.depth]
    | bl _ => simp [D.py, D.toP, PyData.canLay0, PyData.depth]
    | int _ => simp [D.py, D.toP, PyData.canLay0, PyData.depth]
    | str s => exact str (ok_str.mp h)
    | _ => exact h.elim
  | succ n ih =>
    intro d h
    cases d with
    | non => simp [D.py, D.toP, PyData.canLay0, PyData.depth]
    | bl _ => simp [D.py, D.toP, PyData.canLay0, PyData.depth]
    | int _ => simp [D.py, D.toP, PyData.canLay0, PyData.depth]
    | str s => exact str (ok_str.mp h)
    | tup ds =>
      have q := fun d hd => ih (h.2 d hd)
      refine ⟨?_, ?_, ?_⟩
      · rw [D.py, pys_of fun d hd => (q d hd).1, D.toP]; rfl
      · rw [D.toP, PyData.canLay0]; exact layAll_of fun d hd => (q d hd).2.1
      · rw [D.toP, PyData.depth]; exact Nat.succ_le_succ (depthAll_of fun d hd => (q d hd).2.2)
    | lst ds =>
      have q := fun d hd => ih (h.2 d hd)
      refine ⟨?_, ?_, ?_⟩
      · rw [D.py, pys_of fun d hd => (q d hd).1, D.toP]; rfl
      · rw [D.toP, PyData.canLay0]; exact layAll_of fun d hd => (q d hd).2.1
      · rw [D.toP, PyData.depth]; exact Nat.succ_le_succ (depthAll_of fun d hd => (q d hd).2.2)
    | _ => exact h.elim
theorem Ok.shaped {m n : Nat} {d : D} (h : Ok m n d) (hn : n ≤ 64) : SeqAt.shaped d.toP = true := by
  unfold SeqAt.shaped
  rw [h.py.2.1, Bool.true_and]
  exact decide_eq_true (Nat.le_trans h.py.2.2 hn)
def D.eqv (a b : D) : Bool := PyData.eqv a.toP b.toP
theorem eqD_ok {m n m' n' : Nat} {a b : D} (ha : Ok m n a) (hb : Ok m' n' b) (hn : n ≤ 64) (hn' : n' ≤ 64) : eqD a b = some (a.eqv b) := by
  unfold eqD
  rw [ha.py.1, hb.py.1]
  simp only [Option.bind_some]
  rw [ha.shaped hn, hb.shaped hn']
  rfl
@[simp] theorem eqv_bl (a b : Bool) : (D.bl a).eqv (.bl b) = (a == b) := by simp [D.eqv, D.toP, PyData.eqv]
@[simp] theorem eqv_int (a b : Int) : (D.int a).eqv (.int b) = (a == b) := by simp [D.eqv, D.toP, PyData.eqv]
@[simp] theorem eqD_int (a b : Int) : eqD (.int a) (.int b) = some (a == b) := by rw [eqD_ok (m := 0) (n := 0) (m' := 0) (n' := 0) ok_int ok_int (by omega) (by omega), eqv_int]
@[simp] theorem eqD_bl (a b : Bool) : eqD (.bl a) (.bl b) = some (a == b) := by rw [eqD_ok (m := 0) (n := 0) (m' := 0) (n' := 0) ok_bl ok_bl (by omega) (by omega), eqv_bl]
end Dt
namespace Lw
open Dt PySem
/-- the law's tape: the script's numbers, the place, what is left of the cell -/
def TapeOk (t : D) : Prop := ∃ (ns : List Int) (k r : Int), t = .lst [.lst (ns.map D.int), .int k, .int r]
@[simp] theorem atI_0 {α : Type} (a b c : α) : L2.atI [a, b, c] 0 = some a := rfl
@[simp] theorem atI_1 {α : Type} (a b c : α) : L2.atI [a, b, c] 1 = some b := rfl
@[simp] theorem atI_2 {α : Type} (a b c : α) : L2.atI [a, b, c] 2 = some c := rfl
@[simp] theorem ixN_1 : L2.ixN 3 1 = some 1 := rfl
@[simp] theorem ixN_2 : L2.ixN 3 2 = some 2 := rfl
theorem atI_mod {ns : List Int} (k : Int) (h : 0 < ns.length) : ∃ c, L2.atI (ns.map D.int) (k % ns.length) = some (.int c) := by
  have h1 : 0 ≤ k % (ns.length : Int) := Int.emod_nonneg _ (by omega)
  have h2 : k % (ns.length : Int) < ns.length := Int.emod_lt_of_pos _ (by omega)
  obtain ⟨j, hj⟩ : ∃ j : Nat, k % (ns.length : Int) = j := ⟨(k % (ns.length : Int)).toNat, by omega⟩
  rw [hj] at h2 ⊢
  have hl : j < ns.length := by omega
  exact ⟨ns[j], L2.atI_nat (by simp [hl])⟩
theorem mulA_l (i j : Int) (h1 : -(2 ^ 64) < i) (h2 : i < 2 ^ 64) : CMulA i j := .inl (.inl ⟨h1, h2⟩)
theorem mulA_p (x y : Int) : CMulA (x % 2305843009213693951) y := mulA_l _ _ (by have := Int.emod_nonneg x (b := 2305843009213693951) (by decide); omega) (by have := Int.emod_lt_of_pos x (b := 2305843009213693951) (by decide); omega)
set_option maxHeartbeats 2000000 in
theorem draw_ok {t : D} {m : Int} (ht : TapeOk t) (h0 : 0 < m) (hm : m.natAbs.log2 < 9000) : ∃ v t', m_L_draw [t, .int m] = .ok (.int v) [t'] ∧ TapeOk t' ∧ 0 ≤ v ∧ v < m := by
  obtain ⟨ns, k, r, rfl⟩ := ht
  have fin : ∀ (k' x : Int), 0 ≤ x % m ∧ x % m < m ∧ TapeOk (.lst [.lst (ns.map D.int), .int k', .int (x / m)]) := fun k' x => ⟨Int.emod_nonneg _ (by omega), Int.emod_lt_of_pos _ h0, _, _, _, rfl⟩
  have c1 : ∀ x, L2.CDivW x m := fun x => ⟨h0, hm⟩
  have c2 : L2.CPow 10 18 := ⟨by decide, by decide, by decide⟩
  have c3 : ∀ x, CMulA 1000003 x := fun x => mulA_l _ _ (by decide) (by decide)
  have c4 : ∀ x, CMulA 1181783497276652981 x := fun x => mulA_l _ _ (by decide) (by decide)
  unfold m_L_draw runI b_L_draw u1_L_draw u0_L_draw
  by_cases h1 : r < m
  · by_cases h2 : 0 < ns.length
    · obtain ⟨c, hc⟩ := atI_mod k h2
      by_cases h3 : (ns.length : Int) ≤ k
      · simp [gLt, lexI, gIdx, idxD, h1, gLen, gGt, gGe, gInt, gMod, gI, putD, h2, hc, h3, gPow, c2, gMul, c3, c4, gAdd, mulA_p, gDiv, h0, c1, lastIo]
        exact ⟨_, _, ⟨rfl, rfl⟩, (fin _ _).2.2, (fin 0 _).1, (fin 0 _).2.1⟩
      · by_cases h4 : c < 10 ^ 18
        · have h4' : c < 1000000000000000000 := h4
          simp [gLt, lexI, gIdx, idxD, h1, gLen, gGt, gGe, gInt, gMod, gI, putD, h2, hc, h3, h4', gPow, c2, gMul, c3, c4, gAdd, mulA_p, gDiv, h0, c1, lastIo]
          exact ⟨_, _, ⟨rfl, rfl⟩, (fin _ _).2.2, (fin 0 _).1, (fin 0 _).2.1⟩
        · have h4' : ¬ c < 1000000000000000000 := h4
          simp [gLt, lexI, gIdx, idxD, h1, gLen, gGt, gGe, gInt, gMod, gI, putD, h2, hc, h3, h4', gPow, c2, gMul, c3, c4, gAdd, mulA_p, gDiv, h0, c1, lastIo]
          exact ⟨_, _, ⟨rfl, rfl⟩, (fin _ _).2.2, (fin 0 _).1, (fin 0 _).2.1⟩
    · have e : ns = [] := by cases ns with | nil => rfl | cons a b => simp at h2
      subst e
      by_cases h3 : (0 : Int) ≤ k
      · simp [gLt, lexI, gIdx, idxD, h1, gLen, gGt, gGe, gInt, gMod, gI, putD, h3, gPow, c2, gMul, c3, c4, gAdd, mulA_p, gDiv, h0, c1, lastIo]
        exact ⟨_, _, ⟨rfl, rfl⟩, (fin _ _).2.2, (fin 0 _).1, (fin 0 _).2.1⟩
      · simp [gLt, lexI, gIdx, idxD, h1, gLen, gGt, gGe, gInt, gMod, gI, putD, h3, gPow, c2, gMul, c3, c4, gAdd, mulA_p, gDiv, h0, c1, lastIo]
        exact ⟨_, _, ⟨rfl, rfl⟩, (fin _ _).2.2, (fin 0 _).1, (fin 0 _).2.1⟩
  · simp [gLt, lexI, gIdx, idxD, h1, gLen, gGt, gInt, gMod, gI, putD, gDiv, h0, c1, lastIo]
    exact ⟨_, _, ⟨rfl, rfl⟩, (fin _ _).2.2, (fin 0 _).1, (fin 0 _).2.1⟩
end Lw
namespace Lw
open Dt PySem
theorem len_S (s : String) : (Str.ofString s).length = s.toList.length := by
  show (Str.ofString s).cps.size = _
  rw [PySem.Str.ofString_eq_toList]
  simp
theorem num_len (i : Int) (h : i.natAbs ≤ 10 ^ 30) : (toString i).toList.length ≤ 32 := by
  have hd : (Nat.toDigits 10 i.natAbs).length ≤ 31 := (Nat.length_toDigits_le_iff (by decide) (by decide)).mpr (by omega)
  cases i with
  | ofNat m =>
    show (Nat.repr m).toList.length ≤ 32
    rw [Nat.toList_repr]
    exact Nat.le_trans hd (by decide)
  | negSucc m =>
    show ("-" ++ Nat.repr (m + 1)).toList.length ≤ 32
    rw [String.toList_append, Nat.toList_repr, List.length_append]
    have : (Nat.toDigits 10 (m + 1)).length ≤ 31 := hd
    have : ("-" : String).toList.length = 1 := by decide
    omega
theorem num_ok (i : Int) (h : i.natAbs ≤ 10 ^ 30) : numOk 10 i = true := by
  unfold numOk
  refine decide_eq_true ⟨?_, ?_⟩
  · by_cases h0 : i.natAbs = 0
    · rw [h0]; decide
    · have := (Nat.log2_lt h0 (k := 200)).mpr (by omega)
      omega
  · rw [len_S, sizeLine_eq]
    have := num_len i h
    omega
theorem near31 {t : D} (h : TapeOk t) : ∃ v t', m_L_near [t, .int 1000000000000000000000000000000] = .ok (.int v) [t'] ∧ v.natAbs ≤ 10 ^ 30 := by
  obtain ⟨v, t', e, ht, h1, h2⟩ := draw_ok (m := 2000000000000000000000000000001) h (by decide) (by
    have := (Nat.log2_lt (n := 2000000000000000000000000000001) (by decide) (k := 200)).mpr (by decide)
    have e : (2000000000000000000000000000001 : Int).natAbs = 2000000000000000000000000000001 := rfl
    rw [e]
    omega)
  refine ⟨v - 1000000000000000000000000000000, t', ?_, by omega⟩
  unfold m_L_near runI b_L_near
  have c : CMulA 2 1000000000000000000000000000000 := mulA_l _ _ (by decide) (by decide)
  simp [gMul, c, gAdd, e, gSub, lastIo]
  rfl
set_option maxRecDepth 100000
theorem mk31 : m_T___init__ (.etup) = .ok (.etup) [] := by
  have h : m_is_counter [.etup] = .ok (.bl true) [] := by
    unfold m_is_counter runP b_is_counter l0_is_counter sFor c0_is_counter sDComp
    simp [isT, isTn, tyN, itemsD, D.truth, forGo, dcompGo, plainAt, line_pos, wipeE, backE, noX, gLen, gEq]
  unfold m_T___init__
  rw [h]
theorem e31_0 (ρ : Dt.Env) : e0_law ρ = .exc ⟨"NoCounter", .non⟩ ρ := by kernel_rfl
theorem e31_1 (a b c d e x : Cell) : e1_law [a, b, c, d, e, .fro (.tal (.etup)), x, .no] = .exc ⟨"NoCounter", .non⟩ [a, b, c, d, e, .fro (.tal (.etup)), x, .no] := by kernel_rfl
theorem e31_2 (a b c d e x : Cell) : e2_law [a, b, c, d, e, .fro (.tal (.etup)), x, .no] = .exc ⟨"NoNumber", .non⟩ [a, b, c, d, e, .fro (.tal (.etup)), x, .no] := by kernel_rfl
theorem e31_3 (ρ : Dt.Env) : e3_law ρ = .exc ⟨"NoName", .non⟩ ρ := by kernel_rfl
theorem e31_4 (ρ : Dt.Env) : e4_law ρ = .exc ⟨"NoText", .non⟩ ρ := by kernel_rfl
def rows31 (v : Int) : List D := [.xv "NoCounter", .xv "NoCounters", .xv "NoExpression", .xv "NoScript", .xv "NoSystem", .xv "NoName", .xv "NoNumber", .xv "NoWay", .xv "NoText", .xm "TooMany" v]
def due31 : List D := [.str "counter", .str "counters", .str "expression", .str "script", .str "system", .str "name", .str "number", .str "way", .str "text", .str "many"]
theorem c31_0 (a b c d : Cell) (v : Int) : c0_law [a, b, c, .fro (.lst (rows31 v)), d, .no, .no, .no] = .ok (.lst due31) [a, b, c, .fro (.lst (rows31 v)), d, .no, .no, .no] := by kernel_rfl
theorem c31_1 (a b c d : Cell) (v : Int) : c1_law [a, b, c, .fro (.lst (rows31 v)), d, .no, .no, .no] = .ok (.lst []) [a, b, c, .fro (.lst (rows31 v)), d, .no, .no, .no] := by kernel_rfl
theorem plain : ∀ ns : List Int, ns.length ≤ 63 → (∀ z ∈ ns, PySem.Builtin.Int.intBits z ≤ 1048576) → ∃ o, m_law [.scr ns] = .ok (.bl true) o := fun ns hl hz => by
  obtain ⟨v, t', e, hv⟩ := near31 (t := .lst [.lst (ns.map D.int), .int 0, .int 0]) ⟨ns, 0, 0, rfl⟩
  have hn := num_ok v hv
  have cp : L2.CPow 10 30 := ⟨by decide, by decide, by decide⟩
  have k0 := c31_0 (.fro (.scr ns)) (.own t') (.fro (.int v)) (.own (.lst due31)) v
  have k1 := c31_1 (.fro (.scr ns)) (.own t') (.fro (.int v)) (.own (.lst due31)) v
  unfold rows31 due31 at k0 k1
  have q1 : eqD (.lst due31) (.lst due31) = some true := by kernel_rfl
  have q2 : eqD (.lst []) (.lst []) = some true := by kernel_rfl
  have q3 : eqD (.lst [.str "counter", .str "counter", .str "number", .str "name", .str "text"]) (.lst [.str "counter", .str "counter", .str "number", .str "name", .str "text"]) = some true := by kernel_rfl
  have q4 : L2.atI (rows31 v) (-1) = some (.xm "TooMany" v) := rfl
  unfold due31 at q1
  unfold rows31 at q4
  refine ⟨[], ?_⟩
  show runP 8 1 b_law _ = _
  unfold runP b_law
  simp [gList, line_pos, gPow, gI, cp, e, sXmA, hn, gAdd, k0, k1, gNe, gEq, sXMost, gIdx, idxD, gNeg, sMkT, mk31, e31_0, e31_1, e31_2, e31_3, e31_4, q1, q2, q3, q4, wdX, mAppend, froOnly, sizeLine_eq]
end Lw
open PySem PySem.W PyProof.Rows in
set_option maxRecDepth 100000 in
set_option maxHeartbeats 0 in
theorem PySem.Challenge.cw_countersums_k31_whole_names_of_refusals_holds : PySem.Challenge.rw_countersums_k31_whole_names_of_refusals.Holds := by
  w_on; o_law; k_head; (case hw => w_witness2)
  k_fill
  refine Lw.walk (l := PySem.Challenge.rw_countersums_k31_whole_names_of_refusals) rfl rfl (by rfl) (fun w h Y => PySem.W.km_in_of Y) ?F Lw.plain
  case F =>
    intro w mg fa h KX G hmg
    letI : Dt.HW := ⟨w⟩
    haveI : Dt.TW w := ⟨rfl⟩
    refine' Lw.all_mk KX G hmg ?aT ?a0 ?l0 ?c0 ?k0 ?a1 ?l1 ?c1 ?k1 ?a2 ?l2 ?c2 ?k2 ?a3 ?l3 ?c3 ?k3 ?lt0 ?la0 ?a4 ?l4 ?c4 ?k4 ?a5 ?l5 ?c5 ?k5 ?a6 ?l6 ?c6 ?k6 ?a7 ?l7 ?c7 ?k7 ?a8 ?l8 ?c8 ?k8 ?a9 ?l9 ?c9 ?k9 ?a10 ?l10 ?c10 ?k10 ?a11 ?l11 ?c11 ?k11 ?ab12 ?ac12 ?a12 ?l12 ?c12 ?k12 ?a13 ?l13 ?c13 ?k13 ?a14 ?l14 ?c14 ?k14 ?a15 ?l15 ?c15 ?k15 ?tb1 ?tb2 ?tb3 ?tb4 ?z0 ?z1 ?z2 ?z3 ?z4 ?z5 ?z6 ?z7 ?z8 ?z9 ?z10 ?z11 ?z12 ?z13 ?y0 ?ea0 ?ea1 ?ea2 ?ea3 ?ea4 ?ea5 ?ea6 ?ea7 ?ea8 ?ea9 ?ea10 ?ed0 ?eb0 ?ed6 ?eb6 ?ed5 ?eb5 ?ed8 ?eb8 ?ed4 ?eb4 ?ed3 ?eb3 ?ed2 ?eb2 ?ed1 ?eb1 ?ed9 ?eb9 ?ed7 ?eb7 ?x3F ?mk1 ?mk2 ?x10F ?x11F ?fi12 ?rd12 ?ga12 ?tcA ?tiA ?kc0 ?kc6 ?kc5 ?kc8 ?kc4 ?kc3 ?kc2 ?kc1 ?kc9 ?kc7 ?kv0 ?kv6 ?kv5 ?kv8 ?kv4 ?kv3 ?kv2 ?kv1 ?kv9 ?kv7 ?i1TooMany ?i2TooMany ?i3TooMany ?i4TooMany ?i5TooMany ?i6TooMany ?i7TooMany ?i8TooMany ?i9TooMany ?i10TooMany ?i11TooMany ?i12TooMany ?i13TooMany
    (case aT => k_is)
    (case a0 => k_is)
    (case l0 => k_is)
    (case c0 => k_is)
    (case k0 => k_is)
    (case a1 => k_is)
    (case l1 => k_is)
    (case c1 => k_is)
    (case k1 => k_is)
    (case a2 => k_is)
    (case l2 => k_is)
    (case c2 => k_is)
    (case k2 => k_is)
    (case a3 => k_is)
    (case l3 => k_is)
    (case c3 => k_is)
    (case k3 => k_is)
    (case lt0 => k_is)
    (case la0 => k_is)
    (case a4 => k_is)
    (case l4 => k_is)
    (case c4 => k_is)
    (case k4 => k_is)
    (case a5 => k_is)
    (case l5 => k_is)
    (case c5 => k_is)
    (case k5 => k_is)
    (case a6 => k_is)
    (case l6 => k_is)
    (case c6 => k_is)
    (case k6 => k_is)
    (case a7 => k_is)
    (case l7 => k_is)
    (case c7 => k_is)
    (case k7 => k_is)
    (case a8 => k_is)
    (case l8 => k_is)
    (case c8 => k_is)
    (case k8 => k_is)
    (case a9 => k_is)
    (case l9 => k_is)
    (case c9 => k_is)
    (case k9 => k_is)
    (case a10 => k_is)
    (case l10 => k_is)
    (case c10 => k_is)
    (case k10 => k_is)
    (case a11 => k_is)
    (case l11 => k_is)
    (case c11 => k_is)
    (case k11 => k_is)
    (case ab12 => k_is)
    (case ac12 => k_is)
    (case a12 => k_is)
    (case l12 => k_is)
    (case c12 => k_is)
    (case k12 => k_is)
    (case a13 => k_is)
    (case l13 => k_is)
    (case c13 => k_is)
    (case k13 => k_is)
    (case a14 => k_is)
    (case l14 => k_is)
    (case c14 => k_is)
    (case k14 => k_is)
    (case a15 => k_is)
    (case l15 => k_is)
    (case c15 => k_is)
    (case k15 => k_is)
    (case tb1 => k_is)
    (case tb2 => rfl)
    (case tb3 => kernel_rfl)
    (case tb4 => kernel_rfl)
    (case z0 => k_is)
    (case z1 => k_is)
    (case z2 => k_is)
    (case z3 => k_is)
    (case z4 => k_is)
    (case z5 => k_is)
    (case z6 => k_is)
    (case z7 => k_is)
    (case z8 => k_is)
    (case z9 => k_is)
    (case z10 => k_is)
    (case z11 => k_is)
    (case z12 => k_is)
    (case z13 => k_is)
    (case y0 => k_is)
    (case ea0 => k_is)
    (case ea1 => k_is)
    (case ea2 => k_is)
    (case ea3 => k_is)
    (case ea4 => k_is)
    (case ea5 => k_is)
    (case ea6 => k_is)
    (case ea7 => k_is)
    (case ea8 => k_is)
    (case ea9 => k_is)
    (case ea10 => k_is)
    (case ed0 => constructor <;> first | k_is | k_exc)
    (case eb0 => constructor <;> kit_is)
    (case ed6 => constructor <;> first | k_is | k_exc)
    (case eb6 => constructor <;> kit_is)
    (case ed5 => constructor <;> first | k_is | k_exc)
    (case eb5 => constructor <;> kit_is)
    (case ed8 => constructor <;> first | k_is | k_exc)
    (case eb8 => constructor <;> kit_is)
    (case ed4 => constructor <;> first | k_is | k_exc)
    (case eb4 => constructor <;> kit_is)
    (case ed3 => constructor <;> first | k_is | k_exc)
    (case eb3 => constructor <;> kit_is)
    (case ed2 => constructor <;> first | k_is | k_exc)
    (case eb2 => constructor <;> kit_is)
    (case ed1 => constructor <;> first | k_is | k_exc)
    (case eb1 => constructor <;> kit_is)
    (case ed9 => constructor <;> first | k_is | k_exc)
    (case eb9 => constructor <;> kit_is)
    (case ed7 => constructor <;> first | k_is | k_exc)
    (case eb7 => constructor <;> kit_is)
    (case x3F => k_is)
    (case mk1 => k_is)
    (case mk2 => k_is)
    (case x10F => k_is)
    (case x11F => k_is)
    (case fi12 => k_is)
    (case rd12 => k_is)
    (case ga12 => k_is)
    (case tcA => constructor <;> k_is)
    (case tiA => constructor <;> first | k_is | kit_is)
    (case kc0 => kit_is)
    (case kc6 => kit_is)
    (case kc5 => kit_is)
    (case kc8 => kit_is)
    (case kc4 => kit_is)
    (case kc3 => kit_is)
    (case kc2 => kit_is)
    (case kc1 => kit_is)
    (case kc9 => kit_is)
    (case kc7 => kit_is)
    (case kv0 => kit_is)
    (case kv6 => kit_is)
    (case kv5 => kit_is)
    (case kv8 => kit_is)
    (case kv4 => kit_is)
    (case kv3 => kit_is)
    (case kv2 => kit_is)
    (case kv1 => kit_is)
    (case kv9 => kit_is)
    (case kv7 => kit_is)
    (case i1TooMany => k_is)
    (case i2TooMany => k_is)
    (case i3TooMany => k_is)
    (case i4TooMany => k_is)
    (case i5TooMany => k_is)
    (case i6TooMany => k_is)
    (case i7TooMany => rfl)
    (case i8TooMany => first | rfl | decide +kernel | kernel_rfl)
    (case i9TooMany => first | rfl | decide +kernel | kernel_rfl)
    (case i10TooMany => ks_is)
    (case i11TooMany => k_is)
    (case i12TooMany => first | rfl | decide +kernel)
    (case i13TooMany => constructor <;> k_is)
